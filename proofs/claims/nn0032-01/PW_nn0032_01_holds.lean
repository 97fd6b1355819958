import PyProof.Rows.All
import Wide.All
import OpenK.AllK
import Wide.FinOn
import PySem.Challenge.RW_nn0032_01
set_option Elab.async false
set_option genInjectivity false
set_option genSizeOf false
set_option linter.unusedVariables false
set_option linter.unusedSectionVars false
section
open PySem PySem.W PySem.Calls PyProof.Rows
namespace Mine
set_option maxRecDepth 100000
set_option maxHeartbeats 8000000
noncomputable abbrev pw : Program := PySem.Challenge.pw_nn0032_01
/-! the head's first look, by leaves, with the library's twins -/
open PySem.W.Fast in
theorem hL3 : tw11788848310118352699 pw.main = true := by
  kernel_rfl
open PySem.W.Fast in
theorem hL4 : tw8377067652309620493 pw = true := by
  kernel_rfl
open PySem.W.Fast in
theorem hL5 : (R.allR (tw18344453789297297638 pw) fun n => !tw3471404346716756564 tw14412699480532031325 n) = true := by
  kernel_rfl
open PySem.W.Fast in
theorem hL6 : (tw17119622794617984870 pw pw.main.body fun x n => tw17868728402115742887 n) = true := by
  kernel_rfl
open PySem.W.Fast in
theorem hdL : tw12908688711261696721 PySem.Challenge.pw_nn0032_01 = true := by
  delta tw12908688711261696721
  repeat' with_reducible refine look_both ?_ ?_
  exact hL3
  kernel_rfl
  exact hL4
  exact hL5
  kernel_rfl
  exact hL6
open PySem.W.Fast in
theorem hdR : tw17960256430627541270 (tw2368527892694137696 PySem.Challenge.rw_nn0032_01) = true := by
  delta tw17960256430627541270 tw2436336058641802641
  repeat' with_reducible refine look_both ?_ ?_
  exact hdL
  all_goals kernel_rfl
open PySem.W.Fast in
theorem hd1 : tw9446332074065402090 PySem.Challenge.rw_nn0032_01 = true := by
  delta tw9446332074065402090
  repeat' with_reducible refine look_both ?_ ?_
  exact hdR
  all_goals kernel_rfl
open PySem.W.Fast in
theorem hd0 (h : PySem.Challenge.rw_nn0032_01.row.wellSaid = true → PySem.Challenge.rw_nn0032_01.row.Holds) : PySem.Challenge.rw_nn0032_01.Holds := by
  w_on
  refine holds_law ?_ h
  exact (congrFun te9446332074065402090 PySem.Challenge.rw_nn0032_01).trans hd1

/-! what is looked at behind the top: the defs' objects, by place -/
noncomputable def kept : List Nat := [1,2,3,4,5,6,7,8,9,10,12,13,14,15,16,17,18,19,20,21,22,23,24,25,26,27,28,29,30,31,32,33,35,36,38,39,40,41,42,43]
noncomputable def qv : Program := view pw kept
noncomputable def fnTab : List (Nat × Nat × Nat) := [(3,46,45),(4,53,52),(5,60,59),(6,67,66),(7,74,73),(8,81,80),(9,88,87),(10,95,94),(12,102,101),(13,109,108),(14,116,115),(15,123,122),(16,130,129),(17,137,136),(18,144,143),(19,151,150),(20,156,155),(21,161,160),(22,166,165),(23,173,172),(24,180,179),(25,187,186),(26,194,193),(27,201,200),(28,206,205),(29,213,212),(30,220,219),(31,227,226),(32,234,233),(33,241,240),(35,248,247),(36,255,254),(38,260,259),(39,267,266),(40,274,273),(41,281,280),(42,286,285),(43,293,292)]
noncomputable def bareF (fd : FuncData) : FuncData := { fd with doc := .none, pyModule := .none, closureTuple := .none }
noncomputable def seeD : Data → Option FuncData
  | .func fd => some (bareF fd)
  | _ => none
noncomputable def seeF : Option Obj → Option FuncData
  | some o => seeD o.data
  | none => none
noncomputable def seeQ : Option Obj → Option Str
  | some ⟨_, _, .fields vs, _⟩ => (match (vs[1]? : Option Value) with | some (.str q _) => some q | _ => none)
  | _ => none
noncomputable def seeG (x : Str) : Option Obj → Option (Option Value)
  | some ⟨_, _, .dict es _, _⟩ => some (nsFind es x)
  | _ => none
noncomputable def seeC : Option Obj → Bool
  | some o => codeHdIn [(240, o)] 240 236
  | none => false
noncomputable def fnW (p : Program) (i c : Nat) : FuncData := match p.main.body[i]? with
  | some (.FunctionDef nm ps bd _ _ _ sc _ _ _) => ⟨nm, nm, ps, .stmts bd, sc, mainGlobals, [], .none, .none, .none, .none, none, .ref c, .none, builtinsNs⟩
  | _ => default
noncomputable def noNames : List Str := [Str.ofString "len", Str.ofString "range", Str.ofString "abs", Str.ofString "int", Str.ofString "enumerate", Str.ofString "zip"]
/-- the defs' objects and the names, behind the top -/
structure Says (p : Program) (h : Heap) : Prop where
  fn : ∀ e ∈ fnTab, (seeF (h.get? e.2.1), seeQ (h.get? e.2.2), seeG (fnW p e.1 e.2.2).name (h.get? mainGlobals)) = (some (fnW p e.1 e.2.2), some (fnW p e.1 e.2.2).name, some (some (.ref e.2.1)))
  no : ∀ x ∈ noNames, seeG x (h.get? mainGlobals) = some none
theorem see_keeps {α : Type} {h h' : Heap} (k : ∀ b o, h.get? b = some o → o ≠ tabObj #[] → h'.get? b = some o) {f : Option Obj → Option α} {a : Addr} {r : α} (hn : f none = none) (ht : f (some (tabObj #[])) = none) (e : f (h.get? a) = some r) : f (h'.get? a) = some r := by
  cases q : h.get? a with
  | none => rw [q, hn] at e; cases e
  | some o =>
    rw [q] at e
    rw [k _ _ q fun z => by rw [z, ht] at e; cases e]; exact e
theorem Says.keeps {p : Program} {h h' : Heap} (S : Says p h) (k : ∀ b o, h.get? b = some o → o ≠ tabObj #[] → h'.get? b = some o) : Says p h' := by
  refine ⟨fun e he => ?_, fun x hx => see_keeps k rfl rfl (S.no x hx)⟩
  obtain ⟨a, b⟩ := Prod.mk.inj (S.fn e he)
  obtain ⟨b, c⟩ := Prod.mk.inj b
  rw [see_keeps k rfl rfl a, see_keeps k rfl rfl b, see_keeps k rfl rfl c]
structure Says2 (p : Program) (h : Heap) : Prop where
  says : Says p h
  cd : seeC (h.get? 240) = true
  tb : h.get? 236 = some (tabObj #[])
theorem Says2.keeps {p : Program} {h h' : Heap} (S : Says2 p h) (k : ∀ b o, h.get? b = some o → h'.get? b = some o) : Says2 p h' := by
  refine ⟨S.says.keeps fun b o e _ => k b o e, ?_, k _ _ S.tb⟩
  have := S.cd
  cases q : h.get? 240 with
  | none => rw [q] at this; cases this
  | some o => rw [k _ _ q]; rw [q] at this; exact this
theorem Says2.code {p : Program} {h : Heap} (S : Says2 p h) : TabsAt [(240, 236)] h := fun q hq => by
  cases List.mem_singleton.mp hq
  refine ⟨?_, S.tb⟩
  have := S.cd
  cases q : h.get? 240 with
  | none => rw [q] at this; cases this
  | some o =>
    rw [q] at this
    refine codeHd_of_K (K := [(240, o)]) (fun a o' e => ?_) this
    rw [List.lookup_cons] at e
    cases c : a == 240 with
    | true => rw [c] at e; cases e; rw [eq_of_beq c]; exact q
    | false => rw [c] at e; cases e
noncomputable def hook (p : Program) : Hook where
  α := List (Option FuncData × Option Str × Option (Option Value)) × List (Option (Option Value)) × Bool × Option Obj
  obs := fun s => (fnTab.map fun e => (seeF (s.heap.get? e.2.1), seeQ (s.heap.get? e.2.2), seeG (fnW p e.1 e.2.2).name (s.heap.get? mainGlobals)), noNames.map fun x => seeG x (s.heap.get? mainGlobals), seeC (s.heap.get? 240), s.heap.get? 236)
  val := fun _ => (fnTab.map fun e => (some (fnW p e.1 e.2.2), some (fnW p e.1 e.2.2).name, some (some (.ref e.2.1))), noNames.map fun _ => some none, true, some (tabObj #[]))
  says := fun _ h => Says2 p h
  of := fun _ s x => by
    obtain ⟨a, b⟩ := Prod.mk.inj x
    obtain ⟨b, c⟩ := Prod.mk.inj b
    obtain ⟨c, d⟩ := Prod.mk.inj c
    exact ⟨⟨List.map_inj_left.mp a, List.map_inj_left.mp b⟩, c, d⟩
  keeps := fun _ _ _ S k => S.keeps k

open PySem.W.Fast in
noncomputable def opF (tb : String → Option Builtin) (p : Program) (w : World) (N : Nat) : Option Shared :=
  (tw10274390034422433532 tb (opening p) w N (tw1435165496053646825 (opening p)).1 (tw1435165496053646825 (opening p)).2).bind (tw14289696077712309145 p)
open PySem.W.Fast in
noncomputable def topF (tb : String → Option Builtin) (p : Program) (w : World) (N : Nat) (s₀ : Shared) : Option Shared :=
  cond (s₀.heap.isNs mainGlobals && s₀.gens.size == 0)
    ((tw14082659384304107361 tb p w s₀.heap.objs.size (tw8920871248978507458 s₀.heap mainGlobals "__annotations__") N s₀ (topStub p)).bind fun s₁ =>
      cond (staticsOk (tw5923862056798008813 p.main.body) s₀.heap s₁.heap && namesBound p s₁.heap && gensDone s₁ && laidKept s₀.heap s₁.heap) (some s₁) none) none
open PySem.W.Fast in
theorem opF_eq (tb : String → Option Builtin) (p : Program) (w : World) (N : Nat) : fencedOpening tb p w N = opF tb p w N := by
  unfold fencedOpening opF
  rw [te10274390034422433532, te1435165496053646825, te14289696077712309145]
open PySem.W.Fast in
theorem topF_eq (tb : String → Option Builtin) (p : Program) (w : World) (N : Nat) (s : Shared) : topFrom tb p w N s = topF tb p w N s := by
  unfold topFrom topF
  rw [te14082659384304107361, te8920871248978507458, te5923862056798008813]
  cases (s.heap.isNs mainGlobals && s.gens.size == 0) with
  | false => rfl
  | true =>
    refine congrArg (Option.bind _) (funext fun s₁ => ?_)
    cases (staticsOk (tw5923862056798008813 p.main.body) s.heap s₁.heap && namesBound p s₁.heap && gensDone s₁ && laidKept s.heap s₁.heap) <;> rfl
theorem openF (tb : String → Option Builtin) (p : Program) (w : World) (N : Nat) : openEnds tb p w N = (opF tb p w N).bind (topF tb p w N) := by
  unfold openEnds
  rw [opF_eq, show topFrom tb p w N = topF tb p w N from funext fun s => topF_eq tb p w N s]
open PySem.W.Fast in
noncomputable def goodF (q : Program) (loose : List Str) :=
  ((⟨(tw3399658132070893891 q).map fun d => some d.shape, true, [], true, true, true, 0⟩ : Seen), bltViewBooted, true, true, ((tw3247288618530077131 q).map fun d => some d.1.shape, true),
   ((tw210736558901404530 q (tw821141287760084731 q loose)).map fun c => some (tw12515865711710729776 c).plainShape : List (Option PlainShape)), ((tw4354255287344443571 q loose).map fun c => some (c.plainShape, true) : List (Option (PlainShape × Bool))),
   (((tw694669760492028198 q).map fun d => some d.1.shape, true) : List (Option FnShape) × Bool), (tw1571739515156823405 q loose).map fun c => (wclsGood c, (some (c.plainShape, true) : Option (PlainShape × Bool))))
open PySem.W.Fast in
theorem goodF_eq (q : Program) (loose : List Str) : openGood q loose = goodF q loose := by
  unfold openGood goodF expectedOf pinGoodD plainGoodE plainGoodD wideGood clsGoodW
  rw [te3399658132070893891, te3247288618530077131, te210736558901404530, te821141287760084731, te12515865711710729776, te4354255287344443571, te694669760492028198, te1571739515156823405]
theorem join2 {S α β γ : Type} {X : Option S} {f : S → α} {g : S → β} {a : α} {b : β} (r : α → β → γ) (h : X.map f = some a) (h' : X.map g = some b) : X.map (fun s => r (f s) (g s)) = some (r a b) := by
  cases X with
  | none => exact absurd h.symm (Option.some_ne_none _)
  | some s =>
    have e : f s = a := Option.some.inj h
    have e' : g s = b := Option.some.inj h'
    rw [← e, ← e']; rfl
theorem join9 {S α₁ α₂ α₃ α₄ α₅ α₆ α₇ α₈ α₉ ω : Type} {X : Option S} {f₁ : S → α₁} {f₂ : S → α₂} {f₃ : S → α₃} {f₄ : S → α₄} {f₅ : S → α₅} {f₆ : S → α₆} {f₇ : S → α₇} {f₈ : S → α₈} {f₉ : S → α₉} {o : S → ω} {a₁ : α₁} {a₂ : α₂} {a₃ : α₃} {a₄ : α₄} {a₅ : α₅} {a₆ : α₆} {a₇ : α₇} {a₈ : α₈} {a₉ : α₉} {b : ω}
    (h : X.map (fun s => (f₁ s, f₂ s, f₃ s)) = some (a₁, a₂, a₃)) (h' : X.map (fun s => (f₄ s, f₅ s, f₆ s, f₇ s, f₈ s, f₉ s, o s)) = some (a₄, a₅, a₆, a₇, a₈, a₉, b)) :
    X.map (fun s => ((f₁ s, f₂ s, f₃ s, f₄ s, f₅ s, f₆ s, f₇ s, f₈ s, f₉ s), o s)) = some ((a₁, a₂, a₃, a₄, a₅, a₆, a₇, a₈, a₉), b) :=
  join2 (fun x y => ((x.1, x.2.1, x.2.2, y.1, y.2.1, y.2.2.1, y.2.2.2.1, y.2.2.2.2.1, y.2.2.2.2.2.1), y.2.2.2.2.2.2)) h h'
open PySem.W.Fast in
theorem leftF1 (w : World) : ((opF tw14364793385576792824 pw w 3512).bind (topF tw14364793385576792824 pw w 3512)).map (fun s => (tw5160383126252970620 (R.mapR (fun x => DefRec.name x) (tw3399658132070893891 (view pw kept))) (tw5991557255702980513 (view pw kept)) [] { s with gens := #[] }, s.heap.bltView, tw10880121769531294198 s.heap (tw821141287760084731 (view pw kept) []) (R.mapR (fun x => DefRec.name x) (tw3399658132070893891 (view pw kept))) (R.mapR (fun x => Prod.fst x) (tw7409074990110511671 (view pw kept))) (R.mapR (fun x => ClsRec.name x) (tw13664370479719496447 (view pw kept) (tw821141287760084731 (view pw kept) []))) && tw14722251495701143533 s.heap (tw5923862056798008813 pw.main.body) && s.heap.isNs mainGlobals && s.heap.isNs builtinsNs && tw10994771534591457954 (view pw kept) s.heap && (xlAt (view pw kept) [] s && recOk [] s) && (if true = true then s.gens.size == 0 else !leftWithCleanup s.gens))) = some ((⟨(tw3399658132070893891 (view pw kept)).map fun d => some d.shape, true, [], true, true, true, 0⟩ : Seen), bltViewBooted, true) := by
  kernel_rfl
open PySem.W.Fast in
theorem leftF2 (w : World) : ((opF tw14364793385576792824 pw w 3512).bind (topF tw14364793385576792824 pw w 3512)).map (fun s => (tw479339242167458305 (view pw kept) s, tw16090120013241838585 (view pw kept) (tw3247288618530077131 (view pw kept)) s, tw2386780881361962483 (view pw kept) (tw821141287760084731 (view pw kept) []) s, tw11698064438423848299 (view pw kept) [] s, tw7317090234206586261 (view pw kept) s, tw7369524293546568484 (view pw kept) [] s, (hook pw).obs s)) = some (true, ((tw3247288618530077131 (view pw kept)).map fun d => some d.1.shape, true), ((tw210736558901404530 (view pw kept) (tw821141287760084731 (view pw kept) [])).map fun c => some (tw12515865711710729776 c).plainShape : List (Option PlainShape)), ((tw4354255287344443571 (view pw kept) []).map fun c => some (c.plainShape, true) : List (Option (PlainShape × Bool))), (((tw694669760492028198 (view pw kept)).map fun d => some d.1.shape, true) : List (Option FnShape) × Bool), (tw1571739515156823405 (view pw kept) []).map fun c => (wclsGood c, (some (c.plainShape, true) : Option (PlainShape × Bool))), (hook pw).val w) := by
  kernel_rfl
open PySem.W.Fast in
theorem left : LeftO pw qv [] (fun s => xlAt qv [] s && recOk [] s) (hook pw).obs (hook pw).val 3512 := fun w => by
  rw [openF, goodF_eq, te14364793385576792824, te4187177175401517315, te5923862056798008813]
  exact join9 (leftF1 w) (leftF2 w)
end Mine
end
section
open PySem PySem.W PySem.Calls PyProof.Rows
namespace Mine

/-! ## values, the frozen part, the global data -/
noncomputable abbrev FMap := Addr → Option Obj
noncomputable def FMap.le (F F' : FMap) : Prop := ∀ a o, F a = some o → F' a = some o
theorem FMap.le.refl (F : FMap) : F.le F := fun _ _ e => e
theorem FMap.le.trans {F F' F'' : FMap} (h : F.le F') (h' : F'.le F'') : F.le F'' := fun a o e => h' a o (h a o e)

inductive MV where
  | none | bool (b : Bool) | int (i : Int) | list (xs : List MV) | own (a : Addr) (xs : List MV) | raw (v : Value)

mutual
noncomputable def VRep (F : FMap) : MV → Value → Prop
  | .none, v => v = .none
  | .bool b, v => v = .bool b
  | .int i, v => ∃ t, v = .int i t
  | .list xs, v => ∃ a o vs n, v = .ref a ∧ F a = some o ∧ o.cls = .type "list" ∧ o.data = .seq vs n ∧ VReps F xs vs.toList
  | .own _ _, _ => False
  | .raw u, v => v = u
noncomputable def VReps (F : FMap) : List MV → List Value → Prop
  | [], vs => vs = []
  | x :: xs, vs => ∃ v r, vs = v :: r ∧ VRep F x v ∧ VReps F xs r
end

mutual
theorem VRep.mono {F F' : FMap} (hF : F.le F') : ∀ {x : MV} {v : Value}, VRep F x v → VRep F' x v
  | .none, _, h => by simpa [VRep] using h
  | .bool _, _, h => by simpa [VRep] using h
  | .int _, _, h => by simpa [VRep] using h
  | .list xs, v, h => by
    rw [VRep] at h ⊢
    obtain ⟨a, o, vs, n, e, f, c, d, r⟩ := h
    exact ⟨a, o, vs, n, e, hF _ _ f, c, d, VReps.mono hF r⟩
  | .own _ _, _, h => by simp [VRep] at h
  | .raw _, _, h => by simpa [VRep] using h
theorem VReps.mono {F F' : FMap} (hF : F.le F') : ∀ {xs : List MV} {vs : List Value}, VReps F xs vs → VReps F' xs vs
  | [], _, h => by simpa [VReps] using h
  | x :: xs, vs, h => by
    rw [VReps] at h ⊢
    obtain ⟨v, r, e, hx, hr⟩ := h
    exact ⟨v, r, e, VRep.mono hF hx, VReps.mono hF hr⟩
end

theorem VRep_int {F : FMap} {i : Int} {t : Tok} : VRep F (.int i) (.int i t) := ⟨t, rfl⟩
theorem VReps.length {F : FMap} : ∀ {xs : List MV} {vs : List Value}, VReps F xs vs → vs.length = xs.length
  | [], _, h => by rw [VReps] at h; subst h; rfl
  | x :: xs, vs, h => by
    rw [VReps] at h
    obtain ⟨v, r, e, _, hr⟩ := h
    rw [e, List.length_cons, List.length_cons, hr.length]
theorem VReps.get {F : FMap} : ∀ {xs : List MV} {vs : List Value} (_ : VReps F xs vs) (i : Nat) (x : MV), xs[i]? = some x → ∃ v, vs[i]? = some v ∧ VRep F x v
  | [], _, _, i, x, e => by simp at e
  | y :: xs, vs, h, i, x, e => by
    rw [VReps] at h
    obtain ⟨v, r, rfl, hx, hr⟩ := h
    cases i with
    | zero => simp at e; subst e; exact ⟨v, by simp, hx⟩
    | succ i => obtain ⟨u, h1, h2⟩ := hr.get i x (by simpa using e); exact ⟨u, by simpa using h1, h2⟩
theorem VReps.get' {F : FMap} {xs : List MV} {vs : List Value} (h : VReps F xs vs) (i : Nat) (v : Value) (e : vs[i]? = some v) : ∃ x, xs[i]? = some x ∧ VRep F x v := by
  have hi : i < xs.length := by rw [← h.length]; exact (List.getElem?_eq_some_iff.mp e).1
  obtain ⟨u, h1, h2⟩ := h.get i xs[i] (List.getElem?_eq_getElem hi)
  rw [e] at h1; cases h1
  exact ⟨_, List.getElem?_eq_getElem hi, h2⟩
theorem VReps.nil {F : FMap} : VReps F [] [] := by rw [VReps]
theorem VReps.cons {F : FMap} {x : MV} {v : Value} {xs : List MV} {vs : List Value} (h : VRep F x v) (hs : VReps F xs vs) : VReps F (x :: xs) (v :: vs) := by
  rw [VReps]; exact ⟨v, vs, rfl, h, hs⟩
theorem VReps.one {F : FMap} {x : MV} {vs : List Value} (h : VReps F [x] vs) : ∃ v, vs = [v] ∧ VRep F x v := by
  rw [VReps] at h
  obtain ⟨v, r, rfl, hx, hr⟩ := h
  rw [VReps] at hr; subst hr
  exact ⟨v, rfl, hx⟩
theorem VReps.two {F : FMap} {x y : MV} {vs : List Value} (h : VReps F [x, y] vs) : ∃ v u, vs = [v, u] ∧ VRep F x v ∧ VRep F y u := by
  rw [VReps] at h
  obtain ⟨v, r, rfl, hx, hr⟩ := h
  obtain ⟨u, rfl, hu⟩ := hr.one
  exact ⟨v, u, rfl, hx, hu⟩
theorem VReps.three {F : FMap} {x y z : MV} {vs : List Value} (h : VReps F [x, y, z] vs) : ∃ v u w, vs = [v, u, w] ∧ VRep F x v ∧ VRep F y u ∧ VRep F z w := by
  rw [VReps] at h
  obtain ⟨v, r, rfl, hx, hr⟩ := h
  obtain ⟨u, w, rfl, hu⟩ := hr.two
  exact ⟨v, u, w, rfl, hx, hu⟩
theorem VRep.listF {F : FMap} {xs : List MV} {v : Value} (r : VRep F (.list xs) v) : ∃ a o vs n, v = .ref a ∧ F a = some o ∧ o.cls = .type "list" ∧ o.data = .seq vs n ∧ VReps F xs vs.toList := by rw [VRep] at r; exact r
theorem mem1 {p : Addr → Prop} {a : Addr} (h1 : p a) : ∀ x ∈ [a], p x := fun x hx => List.mem_singleton.mp hx ▸ h1
theorem memc {p : Addr → Prop} {a : Addr} {l : List Addr} (h1 : p a) (h2 : ∀ x ∈ l, p x) : ∀ x ∈ a :: l, p x := List.forall_mem_cons.mpr ⟨h1, h2⟩
theorem mem2 {p : Addr → Prop} {a b : Addr} (h1 : p a) (h2 : p b) : ∀ x ∈ [a, b], p x := memc h1 (mem1 h2)
theorem new_none {h : Heap} {a : Addr} (e : h.objs.size ≤ a) : h.get? a = none := by
  cases q : h.get? a with
  | none => rfl
  | some o => exact absurd (Heap.lt_size q) (Nat.not_lt.mpr e)
theorem none_end {h h₁ : Heap} (hk : ∀ a o, h.get? a = some o → h₁.get? a = some o) : h.get? h₁.objs.size = none := by
  cases q : h.get? h₁.objs.size with
  | none => rfl
  | some o => exact absurd (Heap.lt_size (hk _ _ q)) (Nat.lt_irrefl _)
theorem VReps.append {F : FMap} : ∀ {xs : List MV} {vs : List Value} {ys : List MV} {us : List Value}, VReps F xs vs → VReps F ys us → VReps F (xs ++ ys) (vs ++ us)
  | [], _, _, _, h, h' => by rw [VReps] at h; subst h; exact h'
  | x :: xs, vs, ys, us, h, h' => by
    rw [VReps] at h
    obtain ⟨v, r, rfl, hx, hr⟩ := h
    exact VReps.cons hx (hr.append h')
theorem VReps.of {F : FMap} : ∀ {xs : List MV} {vs : List Value}, vs.length = xs.length → (∀ (i : Nat) x v, xs[i]? = some x → vs[i]? = some v → VRep F x v) → VReps F xs vs
  | [], [], _, _ => VReps.nil
  | [], _ :: _, h, _ => by simp at h
  | _ :: _, [], h, _ => by simp at h
  | x :: xs, v :: vs, h, hv => VReps.cons (hv 0 x v (by simp) (by simp)) (VReps.of (by simpa using h) fun i y u h1 h2 => hv (i + 1) y u (by simpa using h1) (by simpa using h2))
theorem VReps.at {F : FMap} {xs : List MV} {vs : List Value} (h : VReps F xs vs) (i : Nat) (x : MV) (v : Value) (h1 : xs[i]? = some x) (h2 : vs[i]? = some v) : VRep F x v := by
  obtain ⟨u, e, r⟩ := h.get i x h1
  rw [h2] at e; cases e; exact r
theorem VReps.set {F : FMap} {xs : List MV} {vs : List Value} {i : Nat} {x : MV} {v : Value} (h : VReps F xs vs) (hx : VRep F x v) : VReps F (xs.set i x) (vs.set i v) := by
  refine VReps.of (by simp [h.length]) fun j y u h1 h2 => ?_
  rw [List.getElem?_set] at h1 h2
  by_cases hij : i = j
  · subst hij
    simp only [if_true] at h1 h2
    split at h1
    · split at h2
      · cases h1; cases h2; exact hx
      · cases h2
    · cases h1
  · simp only [if_neg hij] at h1 h2
    exact h.at j y u h1 h2
theorem VReps.take {F : FMap} {xs : List MV} {vs : List Value} (h : VReps F xs vs) (k : Nat) : VReps F (xs.take k) (vs.take k) := by
  refine VReps.of (by simp [h.length]) fun i x v h1 h2 => ?_
  rw [List.getElem?_take] at h1 h2
  split at h1
  · rename_i hi
    rw [if_pos hi] at h2
    exact h.at i x v h1 h2
  · cases h1
theorem VReps.reverse {F : FMap} : ∀ {xs : List MV} {vs : List Value}, VReps F xs vs → VReps F xs.reverse vs.reverse
  | [], _, h => by rw [VReps] at h; subst h; exact VReps.nil
  | x :: xs, vs, h => by
    rw [VReps] at h
    obtain ⟨v, r, rfl, hx, hr⟩ := h
    rw [List.reverse_cons, List.reverse_cons]
    exact hr.reverse.append (VReps.cons hx VReps.nil)

structure GCtx where
  prog : Program
  w : World
  H0 : Heap
  mg : Str → Option Value
  mb : Str → Option Value
  tc : Addr
  tp : Addr
  npos : Pos
  nqual : Str

structure GOK (G : GCtx) : Prop where
  g : G.H0.Ns mainGlobals G.mg
  b : G.H0.Ns builtinsNs G.mb
  nolimit : G.H0.NoLimit
  builtins : ∀ x : Str, x ≠ "__name__" → G.mb x = bootBuiltins x
  tphid : G.H0.get? G.tp = none

noncomputable def CodeF (F : FMap) (c : Addr) (q : Str) : Prop := ∃ o vs t, F c = some o ∧ o.data = .fields vs ∧ vs[1]? = some (.str q t)
noncomputable def TabOK (G : GCtx) (F : FMap) (h : Heap) : Prop :=
  ∃ ps, h.get? G.tp = some (tabObj ps) ∧ (ps = #[] ∨ ∃ c', ps = #[rawInt G.npos.line, rawInt G.npos.col, .ref c'] ∧ CodeF F c' G.nqual)
theorem TabOK.mono {G : GCtx} {F F' : FMap} {h h' : Heap} (x : TabOK G F h) (hF : F.le F') (hk : ∀ o, h.get? G.tp = some o → h'.get? G.tp = some o) : TabOK G F' h' := by
  obtain ⟨ps, e, r⟩ := x
  refine ⟨ps, hk _ e, r.imp id ?_⟩
  rintro ⟨c', e', o, vs, t, f, r⟩
  exact ⟨c', e', o, vs, t, hF _ _ f, r⟩

structure Base (G : GCtx) (F : FMap) (h : Heap) : Prop where
  ok : GOK G
  glob : ∀ a o, G.H0.get? a = some o → F a = some o
  sub : ∀ a o, F a = some o → h.get? a = some o
  ftab : F G.tp = none
  tab : TabOK G F h
theorem Base.keep {G : GCtx} {F : FMap} {h : Heap} (B : Base G F h) : ∀ a o, G.H0.get? a = some o → h.get? a = some o := fun a o e => B.sub a o (B.glob a o e)
theorem Base.g {G : GCtx} {F : FMap} {h : Heap} (B : Base G F h) : h.Ns mainGlobals G.mg := B.ok.g.keeps B.keep
theorem Base.b {G : GCtx} {F : FMap} {h : Heap} (B : Base G F h) : h.Ns builtinsNs G.mb := B.ok.b.keeps B.keep
theorem Base.nolimit {G : GCtx} {F : FMap} {h : Heap} (B : Base G F h) : h.NoLimit := B.ok.nolimit.keeps B.keep

/-- what an activity that may touch `P` leaves as it was -/
structure Step (G : GCtx) (P : Addr → Prop) (h₀ : Heap) (F₀ : FMap) (h : Heap) (F : FMap) : Prop where
  keep : ∀ a o, ¬ P a → a ≠ G.tp → h₀.get? a = some o → h.get? a = some o
  frz : ∀ a o, ¬ P a → a ≠ G.tp → h₀.get? a = some o → F a = F₀ a
  mono : F₀.le F
theorem Step.refl {G : GCtx} {P : Addr → Prop} {h : Heap} {F : FMap} : Step G P h F h F := ⟨fun _ _ _ _ e => e, fun _ _ _ _ _ => rfl, FMap.le.refl _⟩
theorem Step.trans {G : GCtx} {P : Addr → Prop} {h₀ h₁ h₂ : Heap} {F₀ F₁ F₂ : FMap} (x : Step G P h₀ F₀ h₁ F₁) (y : Step G P h₁ F₁ h₂ F₂) : Step G P h₀ F₀ h₂ F₂ :=
  ⟨fun a o p t e => y.keep a o p t (x.keep a o p t e), fun a o p t e => (y.frz a o p t (x.keep a o p t e)).trans (x.frz a o p t e), x.mono.trans y.mono⟩
theorem Step.weaken {G : GCtx} {P P' : Addr → Prop} {h₀ h : Heap} {F₀ F : FMap} (x : Step G P h₀ F₀ h F) (hp : ∀ a, P a → P' a) : Step G P' h₀ F₀ h F :=
  ⟨fun a o p t e => x.keep a o (fun q => p (hp a q)) t e, fun a o p t e => x.frz a o (fun q => p (hp a q)) t e, x.mono⟩
noncomputable abbrev Fresh (h : Heap) : Addr → Prop := fun a => h.get? a = none
theorem Step.grow {G : GCtx} {h h' : Heap} {F : FMap} (hk : ∀ a o, h.get? a = some o → h'.get? a = some o) : Step G (Fresh h) h F h' F := ⟨fun a o _ _ e => hk a o e, fun _ _ _ _ _ => rfl, FMap.le.refl _⟩
theorem Base.grow {G : GCtx} {h h' : Heap} {F : FMap} (B : Base G F h) (hk : ∀ a o, h.get? a = some o → h'.get? a = some o) : Base G F h' :=
  ⟨B.ok, B.glob, fun a o e => hk a o (B.sub a o e), B.ftab, B.tab.mono (FMap.le.refl F) fun o e => hk _ o e⟩
theorem Step.fresh {G : GCtx} {P : Addr → Prop} {h₀ h : Heap} {F₀ F : FMap} (x : Step G P h₀ F₀ h F) (B : Base G F h) (hf : ∀ a, h₀.get? a = none → P a) : ∀ a, h.get? a = none → P a := fun a e => by
  refine Classical.byContradiction fun hp => ?_
  cases q : h₀.get? a with
  | none => exact hp (hf a q)
  | some o =>
    by_cases t : a = G.tp
    · obtain ⟨ps, e', _⟩ := B.tab
      rw [t, e'] at e; cases e
    · rw [x.keep a o hp t q] at e; cases e

/-! ## variables -/
noncomputable abbrev Vars := List (Str × MV)
noncomputable def Vars.get : Vars → Str → Option MV
  | [], _ => Option.none
  | (y, v) :: r, x => if y = x then some v else Vars.get r x
noncomputable def Vars.set : Vars → Str → MV → Vars
  | [], x, v => [(x, v)]
  | (y, u) :: r, x, v => if y = x then (x, v) :: r else (y, u) :: Vars.set r x v
theorem Vars.get_set (σ : Vars) (x y : Str) (v : MV) : (σ.set x v).get y = if y = x then some v else σ.get y := by
  induction σ with
  | nil =>
    simp only [Vars.set, Vars.get]
    by_cases h : y = x
    · subst h; simp
    · rw [if_neg h, if_neg fun e => h e.symm]
  | cons p r ih =>
    obtain ⟨z, u⟩ := p
    simp only [Vars.set]
    by_cases hz : z = x
    · rw [if_pos hz]
      subst hz
      simp only [Vars.get]
      by_cases h : y = z
      · subst h; simp
      · rw [if_neg h, if_neg fun e => h e.symm, if_neg fun e => h e.symm]
    · rw [if_neg hz]
      simp only [Vars.get, ih]
      by_cases h : y = x
      · subst h; rw [if_neg hz]; simp
      · rw [if_neg h, if_neg h]

noncomputable def At (env : Env) (h : Heap) (m : Str → Option Value) (x : Str) (v : Value) : Prop :=
  (env.kindOf x = some .local ∧ m x = some v) ∨ ((env.kindOf x = some .cell ∨ env.kindOf x = some .free) ∧ ∃ c, env.cells.lookup x = some c ∧ h.IsCell c (some v))

structure OwnAt (P : Addr → Prop) (F : FMap) (h : Heap) (a : Addr) (xs : List MV) : Prop where
  p : P a
  f : F a = none
  l : ∃ vs : List Value, PlainL h a vs.toArray ∧ VReps F xs vs

noncomputable def SRep (P : Addr → Prop) (F : FMap) (h : Heap) : MV → Value → Prop
  | .own a xs, v => v = .ref a ∧ OwnAt P F h a xs
  | mv, v => VRep F mv v

structure Rep (G : GCtx) (cw : Bool) (env : Env) (P : Addr → Prop) (σ : Vars) (tm : List (Addr × List MV)) (F : FMap) (h : Heap) : Prop where
  base : Base G F h
  ptab : ¬ P G.tp
  kind : env.scope.kind = .function
  glb : env.globals = mainGlobals
  blt : env.builtins = builtinsNs
  plocals : P env.locals
  flocals : F env.locals = none
  cells : ∀ n, env.kindOf n = some .cell → ∃ c, env.cells.lookup n = some c ∧ (cw = true → P c ∧ F c = none)
  cellex : ∀ n c, env.cells.lookup n = some c → ∃ v, h.IsCell c v
  cinj : ∀ n n' c, env.cells.lookup n = some c → env.cells.lookup n' = some c → n = n'
  vars : ∃ (m : Str → Option Value), h.Ns env.locals m ∧ ∀ x mv, σ.get x = some mv → ∃ v, At env h m x v ∧ SRep P F h mv v
  dist : ∀ x y a xs ys, σ.get x = some (.own a xs) → σ.get y = some (.own a ys) → x = y
  tdist : ∀ x a xs, σ.get x = some (.own a xs) → ∀ t ∈ tm, a ≠ t.1
  tms : ∀ t ∈ tm, OwnAt P F h t.1 t.2
  tmd : (tm.map (·.1)).Nodup

theorem OwnAt.extend {G : GCtx} {P : Addr → Prop} {F F' : FMap} {h h' : Heap} {a : Addr} {xs : List MV} (x : OwnAt P F h a xs) (hp : ¬ P G.tp)
    (hk : ∀ a o, a ≠ G.tp → h.get? a = some o → h'.get? a = some o) (hF : F.le F') (hf : ∀ a o, a ≠ G.tp → h.get? a = some o → F' a = F a) : OwnAt P F' h' a xs := by
  obtain ⟨p, f, vs, ⟨o, n, ho, r⟩, hv⟩ := x
  exact ⟨p, (hf a o (fun e => hp (e ▸ p)) ho).trans f, vs, ⟨o, n, hk a o (fun e => hp (e ▸ p)) ho, r⟩, hv.mono hF⟩
theorem SRep.extend {G : GCtx} {P : Addr → Prop} {F F' : FMap} {h h' : Heap} {mv : MV} {v : Value} (x : SRep P F h mv v) (hp : ¬ P G.tp)
    (hk : ∀ a o, a ≠ G.tp → h.get? a = some o → h'.get? a = some o) (hF : F.le F') (hf : ∀ a o, a ≠ G.tp → h.get? a = some o → F' a = F a) : SRep P F' h' mv v := by
  cases mv with
  | own a xs => exact ⟨x.1, x.2.extend hp hk hF hf⟩
  | _ => exact VRep.mono hF x
theorem get?_ne_of_data {h : Heap} {a b : Addr} {o o' : Obj} (e : h.get? a = some o) (e' : h.get? b = some o') (hd : o.data ≠ o'.data) : a ≠ b := by
  rintro rfl; rw [e] at e'; cases e'; exact hd rfl
theorem Heap.IsCell.ne_ns {h : Heap} {c L : Addr} {v : Option Value} {m : Str → Option Value} (x : h.IsCell c v) (n : h.Ns L m) : c ≠ L := by
  obtain ⟨o, ho, hd⟩ := x
  obtain ⟨o', es, ep, ho', hd', _⟩ := n
  exact get?_ne_of_data ho ho' (by rw [hd, hd']; nofun)
theorem Heap.IsList.ne_ns {h : Heap} {c L : Addr} {v : Array Value} {m : Str → Option Value} (x : h.IsList c v) (n : h.Ns L m) : c ≠ L := by
  obtain ⟨o, ho, _, k, hd⟩ := x
  obtain ⟨o', es, ep, ho', hd', _⟩ := n
  exact get?_ne_of_data ho ho' (by rw [hd, hd']; nofun)
theorem Heap.IsList.ne_cell {h : Heap} {c L : Addr} {v : Array Value} {u : Option Value} (x : h.IsList c v) (n : h.IsCell L u) : c ≠ L := by
  obtain ⟨o, ho, _, k, hd⟩ := x
  obtain ⟨o', ho', hd'⟩ := n
  exact get?_ne_of_data ho ho' (by rw [hd, hd']; nofun)
theorem Heap.Ns.ne_tab {G : GCtx} {F : FMap} {h : Heap} {L : Addr} {m : Str → Option Value} (n : h.Ns L m) (t : TabOK G F h) : L ≠ G.tp := by
  obtain ⟨o', es, ep, ho', hd', _⟩ := n
  obtain ⟨ps, e, _⟩ := t
  exact get?_ne_of_data ho' e (by rw [hd']; nofun)
theorem Heap.IsCell.ne_tab {G : GCtx} {F : FMap} {h : Heap} {c : Addr} {v : Option Value} (n : h.IsCell c v) (t : TabOK G F h) : c ≠ G.tp := by
  obtain ⟨o', ho', hd'⟩ := n
  obtain ⟨ps, e, _⟩ := t
  exact get?_ne_of_data ho' e (by rw [hd']; nofun)

section
variable {G : GCtx} {cw : Bool} {env : Env} {P : Addr → Prop} {σ : Vars} {tm : List (Addr × List MV)} {F F' : FMap} {h h' : Heap}

theorem At.extend {m : Str → Option Value} {x : Str} {v : Value} (a : At env h m x v) (t : TabOK G F h) (hk : ∀ a o, a ≠ G.tp → h.get? a = some o → h'.get? a = some o) : At env h' m x v := by
  rcases a with a | ⟨k, c, hc, o, ho, hd⟩
  · exact .inl a
  · exact .inr ⟨k, c, hc, o, hk c o (Heap.IsCell.ne_tab ⟨o, ho, hd⟩ t) ho, hd⟩

theorem Rep.extend (R : Rep G cw env P σ tm F h) (B : Base G F' h') (hk : ∀ a o, a ≠ G.tp → h.get? a = some o → h'.get? a = some o) (hF : F.le F') (hf : ∀ a o, a ≠ G.tp → h.get? a = some o → F' a = F a) :
    Rep G cw env P σ tm F' h' := by
  obtain ⟨m, hn, hv⟩ := R.vars
  have nL := Heap.Ns.ne_tab hn R.base.tab
  obtain ⟨oL, _, _, eL, _⟩ := id hn
  refine ⟨B, R.ptab, R.kind, R.glb, R.blt, R.plocals, (hf _ oL nL eL).trans R.flocals, fun n k => ?_, fun n c l => ?_, R.cinj, ⟨m, hn.at' fun o e => hk _ o nL e, fun x mv e => ?_⟩, R.dist, R.tdist, fun t m => (R.tms t m).extend R.ptab hk hF hf, R.tmd⟩
  · obtain ⟨c, l, q⟩ := R.cells n k
    obtain ⟨v, hc⟩ := R.cellex n c l
    have nc := Heap.IsCell.ne_tab hc R.base.tab
    obtain ⟨o, ho, hd⟩ := hc
    exact ⟨c, l, fun w => ⟨(q w).1, (hf _ o nc ho).trans (q w).2⟩⟩
  · obtain ⟨v, hc⟩ := R.cellex n c l
    have nc := Heap.IsCell.ne_tab hc R.base.tab
    obtain ⟨o, ho, hd⟩ := hc
    exact ⟨v, o, hk c o nc ho, hd⟩
  · obtain ⟨v, a, s⟩ := hv x mv e
    exact ⟨v, a.extend R.base.tab hk, s.extend R.ptab hk hF hf⟩
end

end Mine
end
section
open PySem PySem.W PySem.Calls PyProof.Rows
namespace Mine

/-! ## judgements -/
structure SC where
  k : Nat
  scope : Scope
  cw : Bool
  Fs : FMap

structure Room (A : Around) (k : Nat) : Prop where
  handled : A.handled = none
  depth : A.depth + k < recursionLimit
  units : A.units + 4 * k + 16 < cLine
theorem Room.mono {A : Around} {k k' : Nat} (r : Room A k) (h : k' ≤ k) : Room A k' := ⟨r.handled, by have := r.depth; omega, by have := r.units; omega⟩

structure Pre (G : GCtx) (C : SC) (env : Env) (A : Around) (P : Addr → Prop) (σ : Vars) (tm : List (Addr × List MV)) (F : FMap) (s : Shared) : Prop where
  sc : env.scope = C.scope
  room : Room A C.k
  fs : C.Fs.le F
  fresh : ∀ a, s.heap.get? a = none → P a
  rep : Rep G C.cw env P σ tm F s.heap

structure Aft (G : GCtx) (C : SC) (env : Env) (A : Around) (P : Addr → Prop) (s : Shared) (F : FMap) (σ' : Vars) (tm' : List (Addr × List MV)) (F' : FMap) (s' : Shared) : Prop where
  pre : Pre G C env A P σ' tm' F' s'
  step : Step G P s.heap F s'.heap F'
  rest : ∃ h tk, s' = { s with heap := h, toks := tk }

section
variable {G : GCtx} {C : SC} {env : Env} {A : Around} {P : Addr → Prop} {σ σ' σ'' : Vars} {tm tm' tm'' : List (Addr × List MV)} {F F' F'' : FMap} {s s' s'' : Shared}
theorem Aft.refl (p : Pre G C env A P σ tm F s) : Aft G C env A P s F σ tm F s := ⟨p, Step.refl, s.heap, s.toks, rfl⟩
theorem Aft.trans (x : Aft G C env A P s F σ' tm' F' s') (y : Aft G C env A P s' F' σ'' tm'' F'' s'') : Aft G C env A P s F σ'' tm'' F'' s'' := by
  refine ⟨y.pre, x.step.trans y.step, ?_⟩
  obtain ⟨h, tk, rfl⟩ := x.rest
  obtain ⟨h', tk', rfl⟩ := y.rest
  exact ⟨h', tk', rfl⟩
theorem Pre.toks (p : Pre G C env A P σ tm F s) (t : Nat) : Pre G C env A P σ tm F { s with toks := t } := ⟨p.sc, p.room, p.fs, p.fresh, p.rep⟩
theorem Aft.toks (x : Aft G C env A P s F σ' tm' F' s') (t : Nat) : Aft G C env A P s F σ' tm' F' { s' with toks := t } := by
  refine ⟨x.pre.toks t, x.step, ?_⟩
  obtain ⟨h, tk, rfl⟩ := x.rest
  exact ⟨h, t, rfl⟩
theorem Pre.mkToks (p : Pre G C env A P σ tm F s) (t : Nat) : Aft G C env A P s F σ tm F { s with toks := t } := (Aft.refl p).toks t

/-- a pure growth of the heap -/
theorem Pre.grow (p : Pre G C env A P σ tm F s) {h' : Heap} {tk : Nat} (B : Base G F' h') (st : Step G (Fresh s.heap) s.heap F h' F') :
    Aft G C env A P s F σ tm F' { s with heap := h', toks := tk } := by
  have nf : ∀ {a o}, s.heap.get? a = some o → ¬ Fresh s.heap a := fun e q => by rw [show s.heap.get? _ = none from q] at e; cases e
  have hk : ∀ a o, a ≠ G.tp → s.heap.get? a = some o → h'.get? a = some o := fun a o t e => st.keep a o (nf e) t e
  have st' := st.weaken p.fresh
  exact ⟨⟨p.sc, p.room, p.fs.trans st.mono, st'.fresh B p.fresh, p.rep.extend B hk st.mono fun a o t e => st.frz a o (nf e) t e⟩, st', h', tk, rfl⟩
theorem Pre.grow' (p : Pre G C env A P σ tm F s) {h' : Heap} {tk : Nat} (hk : ∀ a o, s.heap.get? a = some o → h'.get? a = some o) :
    Aft G C env A P s F σ tm F { s with heap := h', toks := tk } := p.grow (p.rep.base.grow hk) (Step.grow hk)
end

inductive MFlow where
  | next | brk | cont | ret (v : MV)
noncomputable def FRep (F : FMap) : MFlow → Flow → Prop
  | .next, f => f = .next
  | .brk, f => f = .brk
  | .cont, f => f = .cont
  | .ret mv, f => ∃ v, f = .ret v ∧ VRep F mv v

/-! what an activity leaves behind -/
section
variable (G : GCtx) (C : SC) (env : Env) (A : Around) (P : Addr → Prop) (s : Shared) (F : FMap) (tm : List (Addr × List MV))
inductive EP (Q : MV → Vars → Prop) (v : Value) (s' : Shared) : Prop
  | mk (mv : MV) (σ' : Vars) (F' : FMap) (a : Aft G C env A P s F σ' tm F' s') (r : VRep F' mv v) (q : Q mv σ')
inductive FP (Q : Addr → List MV → Vars → Prop) (v : Value) (s' : Shared) : Prop
  | mk (a : Addr) (xs : List MV) (σ' : Vars) (F' : FMap) (e : v = .ref a) (af : Aft G C env A P s F σ' ((a, xs) :: tm) F' s') (q : Q a xs σ')
inductive BP (Q : Bool → Vars → Prop) (b : Bool) (s' : Shared) : Prop
  | mk (σ' : Vars) (F' : FMap) (a : Aft G C env A P s F σ' tm F' s') (q : Q b σ')
inductive AP (Q : List MV → Vars → Prop) (vs : List Value) (s' : Shared) : Prop
  | mk (xs : List MV) (σ' : Vars) (F' : FMap) (a : Aft G C env A P s F σ' tm F' s') (r : VReps F' xs vs) (q : Q xs σ')
inductive SP (Q : MFlow → Vars → Prop) (f : Flow) (s' : Shared) : Prop
  | mk (mf : MFlow) (σ' : Vars) (F' : FMap) (a : Aft G C env A P s F σ' tm F' s') (r : FRep F' mf f) (q : Q mf σ')
inductive CP (Q : MV → Prop) (v : Value) (s' : Shared) : Prop
  | mk (mv : MV) (F' : FMap) (h' : Heap) (tk : Tok) (e : s' = { s with heap := h', toks := tk }) (b : Base G F' h') (st : Step G (Fresh s.heap) s.heap F h' F') (r : VRep F' mv v) (q : Q mv)
inductive IP (a : Addr) (Q : MV → List MV → Prop) (v : Value) (s' : Shared) : Prop
  | mk (mv : MV) (xs' : List MV) (F' : FMap) (h' : Heap) (tk : Tok) (e : s' = { s with heap := h', toks := tk }) (b : Base G F' h') (st : Step G (fun b => s.heap.get? b = none ∨ b = a) s.heap F h' F')
      (o : OwnAt P F' h' a xs') (r : VRep F' mv v) (q : Q mv xs')
end
/-- an expression -/
structure WE (G : GCtx) (C : SC) (e : Expr) (σ : Vars) (Q : MV → Vars → Prop) : Prop where
  run : ∀ env A P tm F s, Pre G C env A P σ tm F s → wpAny (model G.prog G.w) A (eval e env) (EP G C env A P s F tm Q) (fun _ _ => False) s
/-- an expression whose value is a new list, held by nobody -/
structure WF (G : GCtx) (C : SC) (e : Expr) (σ : Vars) (Q : Addr → List MV → Vars → Prop) : Prop where
  run : ∀ env A P tm F s, Pre G C env A P σ tm F s → wpAny (model G.prog G.w) A (eval e env) (FP G C env A P s F tm Q) (fun _ _ => False) s
/-- a test -/
structure WB (G : GCtx) (C : SC) (e : Expr) (σ : Vars) (Q : Bool → Vars → Prop) : Prop where
  run : ∀ env A P tm F s, Pre G C env A P σ tm F s → wpAny (model G.prog G.w) A (isTrue e env (eval e env)) (BP G C env A P s F tm Q) (fun _ _ => False) s
/-- a list of arguments -/
structure WA (G : GCtx) (C : SC) (es : List Expr) (σ : Vars) (Q : List MV → Vars → Prop) : Prop where
  run : ∀ env A P tm F s pos, Pre G C env A P σ tm F s → wpAny (model G.prog G.w) A (spliced (backTo pos (starEach es env))) (AP G C env A P s F tm Q) (fun _ _ => False) s
structure W1 (G : GCtx) (C : SC) (st : Stmt) (σ : Vars) (Q : MFlow → Vars → Prop) : Prop where
  run : ∀ env A P tm F s, Pre G C env A P σ tm F s → wpAny (model G.prog G.w) A (exec st env) (SP G C env A P s F tm Q) (fun _ _ => False) s
structure WS (G : GCtx) (C : SC) (sts : List Stmt) (σ : Vars) (Q : MFlow → Vars → Prop) : Prop where
  run : ∀ env A P tm F s, Pre G C env A P σ tm F s → wpAny (model G.prog G.w) A (execs sts env) (SP G C env A P s F tm Q) (fun _ _ => False) s
/-- a call with the arguments at hand -/
structure CallOK (G : GCtx) (k : Nat) (Fs : FMap) (f : Value) (args : List MV) (Q : MV → Prop) : Prop where
  run : ∀ A F s vs, Room A k → Fs.le F → Base G F s.heap → VReps F args vs → wpAny (model G.prog G.w) A (call f vs) (CP G s F Q) (fun _ _ => False) s
/-- a call that turns its first argument, a list -/
structure CallIO (G : GCtx) (k : Nat) (Fs : FMap) (f : Value) (xs : List MV) (args : List MV) (Q : MV → List MV → Prop) : Prop where
  run : ∀ A F s vs a P, Room A k → Fs.le F → Base G F s.heap → ¬ P G.tp → VReps F args vs → OwnAt P F s.heap a xs → wpAny (model G.prog G.w) A (call f (.ref a :: vs)) (IP G P s F a Q) (fun _ _ => False) s

section
variable {G : GCtx} {C : SC} {env : Env} {A : Around} {P : Addr → Prop} {σ σ₁ : Vars} {tm : List (Addr × List MV)} {F F₁ : FMap} {s s₁ : Shared}
theorem WE.thn {e : Expr} {Q : MV → Vars → Prop} {R E : Value → Shared → Prop} (h : WE G C e σ Q) (p : Pre G C env A P σ tm F s) (k : ∀ v s' mv σ' F', Aft G C env A P s F σ' tm F' s' → VRep F' mv v → Q mv σ' → R v s') :
    wpAny (model G.prog G.w) A (eval e env) R E s := wpAny_mono (h.run env A P tm F s p) (fun v s' x => x.rec (k v s')) fun _ _ x => x.elim
theorem WF.thn {e : Expr} {Q : Addr → List MV → Vars → Prop} {R E : Value → Shared → Prop} (h : WF G C e σ Q) (p : Pre G C env A P σ tm F s) (k : ∀ v s' a xs σ' F', v = .ref a → Aft G C env A P s F σ' ((a, xs) :: tm) F' s' → Q a xs σ' → R v s') :
    wpAny (model G.prog G.w) A (eval e env) R E s := wpAny_mono (h.run env A P tm F s p) (fun v s' x => x.rec (k v s')) fun _ _ x => x.elim
theorem WB.thn {e : Expr} {Q : Bool → Vars → Prop} {R : Bool → Shared → Prop} {E : Value → Shared → Prop} (h : WB G C e σ Q) (p : Pre G C env A P σ tm F s) (k : ∀ b s' σ' F', Aft G C env A P s F σ' tm F' s' → Q b σ' → R b s') :
    wpAny (model G.prog G.w) A (isTrue e env (eval e env)) R E s := wpAny_mono (h.run env A P tm F s p) (fun v s' x => x.rec (k v s')) fun _ _ x => x.elim
theorem WA.thn {es : List Expr} {Q : List MV → Vars → Prop} {R : List Value → Shared → Prop} {E : Value → Shared → Prop} (h : WA G C es σ Q) (pos : Pos) (p : Pre G C env A P σ tm F s) (k : ∀ v s' xs σ' F', Aft G C env A P s F σ' tm F' s' → VReps F' xs v → Q xs σ' → R v s') :
    wpAny (model G.prog G.w) A (spliced (backTo pos (starEach es env))) R E s := wpAny_mono (h.run env A P tm F s pos p) (fun v s' x => x.rec (k v s')) fun _ _ x => x.elim
theorem W1.thn {st : Stmt} {Q : MFlow → Vars → Prop} {R : Flow → Shared → Prop} {E : Value → Shared → Prop} (h : W1 G C st σ Q) (p : Pre G C env A P σ tm F s) (k : ∀ f s' mf σ' F', Aft G C env A P s F σ' tm F' s' → FRep F' mf f → Q mf σ' → R f s') :
    wpAny (model G.prog G.w) A (exec st env) R E s := wpAny_mono (h.run env A P tm F s p) (fun v s' x => x.rec (k v s')) fun _ _ x => x.elim
theorem WS.thn {sts : List Stmt} {Q : MFlow → Vars → Prop} {R : Flow → Shared → Prop} {E : Value → Shared → Prop} (h : WS G C sts σ Q) (p : Pre G C env A P σ tm F s) (k : ∀ f s' mf σ' F', Aft G C env A P s F σ' tm F' s' → FRep F' mf f → Q mf σ' → R f s') :
    wpAny (model G.prog G.w) A (execs sts env) R E s := wpAny_mono (h.run env A P tm F s p) (fun v s' x => x.rec (k v s')) fun _ _ x => x.elim
theorem CallOK.thn {k : Nat} {Fs : FMap} {f : Value} {args : List MV} {vs : List Value} {Q : MV → Prop} {R E : Value → Shared → Prop} (h : CallOK G k Fs f args Q) (r : Room A k) (l : Fs.le F) (B : Base G F s.heap) (v : VReps F args vs)
    (kk : ∀ v s' mv F' h' tk, s' = { s with heap := h', toks := tk } → Base G F' h' → Step G (Fresh s.heap) s.heap F h' F' → VRep F' mv v → Q mv → R v s') :
    wpAny (model G.prog G.w) A (call f vs) R E s := wpAny_mono (h.run A F s vs r l B v) (fun v s' x => x.rec (kk v s')) fun _ _ x => x.elim
theorem CallIO.thn {k : Nat} {Fs : FMap} {f : Value} {a : Addr} {xs args : List MV} {vs : List Value} {Q : MV → List MV → Prop} {R E : Value → Shared → Prop} (h : CallIO G k Fs f xs args Q) (r : Room A k) (l : Fs.le F) (B : Base G F s.heap) (np : ¬ P G.tp) (v : VReps F args vs) (o : OwnAt P F s.heap a xs)
    (kk : ∀ v s' mv xs' F' h' tk, s' = { s with heap := h', toks := tk } → Base G F' h' → Step G (fun b => s.heap.get? b = none ∨ b = a) s.heap F h' F' → OwnAt P F' h' a xs' → VRep F' mv v → Q mv xs' → R v s') :
    wpAny (model G.prog G.w) A (call f (.ref a :: vs)) R E s := wpAny_mono (h.run A F s vs a P r l B np v o) (fun v s' x => x.rec (kk v s')) fun _ _ x => x.elim
/-- one goes on behind another -/
theorem WE.go {e : Expr} {Q : MV → Vars → Prop} {E : Value → Shared → Prop} (h : WE G C e σ₁ Q) (a : Aft G C env A P s F σ₁ tm F₁ s₁) : wpAny (model G.prog G.w) A (eval e env) (EP G C env A P s F tm Q) E s₁ :=
  h.thn a.pre fun _ _ mv σ' F' a' r q => ⟨mv, σ', F', a.trans a', r, q⟩
theorem WS.go {sts : List Stmt} {Q : MFlow → Vars → Prop} {E : Value → Shared → Prop} (h : WS G C sts σ₁ Q) (a : Aft G C env A P s F σ₁ tm F₁ s₁) : wpAny (model G.prog G.w) A (execs sts env) (SP G C env A P s F tm Q) E s₁ :=
  h.thn a.pre fun _ _ mv σ' F' a' r q => ⟨mv, σ', F', a.trans a', r, q⟩
end

section
variable {G : GCtx} {C : SC} {σ : Vars}
theorem WE.mono {e : Expr} {Q Q' : MV → Vars → Prop} (h : WE G C e σ Q) (hq : ∀ v σ', Q v σ' → Q' v σ') : WE G C e σ Q' := .mk fun env A P tm F s p =>
  h.thn p (fun _ _ mv σ' F' a r q => ⟨mv, σ', F', a, r, hq _ _ q⟩)
theorem WB.mono {e : Expr} {Q Q' : Bool → Vars → Prop} (h : WB G C e σ Q) (hq : ∀ v σ', Q v σ' → Q' v σ') : WB G C e σ Q' := .mk fun env A P tm F s p =>
  h.thn p (fun _ _ σ' F' a q => ⟨σ', F', a, hq _ _ q⟩)
theorem WS.mono {e : List Stmt} {Q Q' : MFlow → Vars → Prop} (h : WS G C e σ Q) (hq : ∀ v σ', Q v σ' → Q' v σ') : WS G C e σ Q' := .mk fun env A P tm F s p =>
  h.thn p (fun _ _ mv σ' F' a r q => ⟨mv, σ', F', a, r, hq _ _ q⟩)
theorem CallOK.mono {k k' : Nat} {Fs Fs' : FMap} {f : Value} {args : List MV} {Q Q' : MV → Prop} (h : CallOK G k Fs f args Q) (hk : k ≤ k') (hF : Fs.le Fs') (hq : ∀ v, Q v → Q' v) : CallOK G k' Fs' f args Q' :=
  .mk fun A F s vs r l B v => h.thn (r.mono hk) (hF.trans l) B v (fun _ _ mv F' h' tk e b st r q => ⟨mv, F', h', tk, e, b, st, r, hq _ q⟩)

/-! ### sequencing -/
theorem WS_nil {Q : MFlow → Vars → Prop} (h : Q .next σ) : WS G C [] σ Q := .mk fun _ _ _ _ F _ p => wpAny_execs_nil ⟨.next, σ, F, .refl p, rfl, h⟩
theorem WS_cons {st : Stmt} {rest : List Stmt} {Q : MFlow → Vars → Prop} (h : W1 G C st σ (fun mf σ' => match mf with | .next => WS G C rest σ' Q | mf => Q mf σ')) : WS G C (st :: rest) σ Q :=
  .mk fun env A P tm F s p => wpAny_execs_cons (h.thn p (fun f s' mf σ' F' a r q => by
    cases mf with
    | next =>
      cases r
      exact q.go a
    | brk => cases r; exact ⟨.brk, σ', F', a, rfl, q⟩
    | cont => cases r; exact ⟨.cont, σ', F', a, rfl, q⟩
    | ret v => obtain ⟨u, rfl, r⟩ := r; exact ⟨.ret v, σ', F', a, ⟨u, rfl, r⟩, q⟩))
theorem WA_nil {Q : List MV → Vars → Prop} (h : Q [] σ) : WA G C [] σ Q := .mk fun _ _ _ _ F _ _ p => wpAny_items_nil ⟨[], σ, F, .refl p, .nil, h⟩
theorem WA_cons {e : Expr} {rest : List Expr} {Q : List MV → Vars → Prop} (h : WE G C e σ (fun v σ' => WA G C rest σ' (fun vs σ'' => Q (v :: vs) σ'')))
    (he : ∀ env, starEach (e :: rest) env = (false, eval e env) :: starEach rest env := by intro _; rfl) : WA G C (e :: rest) σ Q :=
  .mk fun env A P tm F s pos p => wpAny_items_cons (h.thn p (fun v s' mv σ' F' a r q =>
    q.thn pos a.pre (fun vs s'' xs σ'' F'' a' r' q' => ⟨mv :: xs, σ'', F'', a.trans a', .cons (r.mono a'.step.mono) r', q'⟩))) (he env)
theorem WS_ret {e : Expr} {pos : Pos} {Q : MFlow → Vars → Prop} (h : WE G C e σ (fun v σ' => Q (.ret v) σ')) : W1 G C (.Return (some e) pos) σ Q :=
  .mk fun env A P tm F s p => wpAny_Return_some (h.thn p (fun v _ mv σ' F' a r q => ⟨.ret mv, σ', F', a, ⟨v, rfl, r⟩, q⟩))
theorem W1_if {test : Expr} {body orelse : List Stmt} {pos : Pos} {Q : MFlow → Vars → Prop} (h : WB G C test σ (fun b σ' => if b = true then WS G C body σ' Q else WS G C orelse σ' Q)) :
    W1 G C (.If test body orelse pos) σ Q :=
  .mk fun env A P tm F s p => wpAny_If (h.thn p (fun b s' σ' F' a q => by
    cases b with
    | true => exact q.go a
    | false => exact q.go a))
theorem WE_ifexp {test body orelse : Expr} {pos : Pos} {Q : MV → Vars → Prop} (h : WB G C test σ (fun b σ' => if b = true then WE G C body σ' Q else WE G C orelse σ' Q)) :
    WE G C (.IfExp test body orelse pos) σ Q :=
  .mk fun env A P tm F s p => wpAny_IfExp (h.thn p (fun b s' σ' F' a q => by
    cases b with
    | true => exact q.go a
    | false => exact q.go a))

/-! ### names and constants -/
theorem Pre.load {env : Env} {A : Around} {P : Addr → Prop} {tm : List (Addr × List MV)} {F : FMap} {s : Shared} (p : Pre G C env A P σ tm F s) {x : Str} {mv : MV} (hx : σ.get x = some mv)
    (hn : (x == ("__classdict__" : Str)) = false := by decide) :
    ∃ v, SRep P F s.heap mv v ∧ ∀ (Q : Value → Shared → Prop) E, Q v s → wpAny (model G.prog G.w) A (loadName env x) Q E s := by
  obtain ⟨m, hns, hv⟩ := p.rep.vars
  obtain ⟨v, at', r⟩ := hv x mv hx
  refine ⟨v, r, fun Q E h => ?_⟩
  rcases at' with ⟨k, hm⟩ | ⟨k | k, c, hc, hcell⟩
  · exact wpAny_loadName_local p.rep.kind k hns hm h
  · exact wpAny_loadName_cell p.rep.kind k hc hcell h
  · exact wpAny_loadName_free p.rep.kind k hc hcell h hn
theorem WE_name {x : Str} {pos : Pos} {mv : MV} {Q : MV → Vars → Prop} (hx : σ.get x = some mv) (ho : ∀ a xs, mv ≠ .own a xs) (h : Q mv σ)
    (hd : (x == ("__debug__" : Str)) = false := by decide) (hn : (x == ("__classdict__" : Str)) = false := by decide) : WE G C (.Name x pos) σ Q := .mk fun env A P tm F s p => by
  obtain ⟨v, r, hl⟩ := p.load hx hn
  refine wpAny_Name (hl _ _ ⟨mv, σ, F, .refl p, ?_, h⟩) hd
  cases mv with
  | own a xs => exact absurd rfl (ho a xs)
  | _ => exact r
theorem WE_int {i : Int} {k : Nat} {pos : Pos} {Q : MV → Vars → Prop} (h : Q (.int i) σ) : WE G C (.Constant (.int i) k pos) σ Q :=
  .mk fun _ _ _ _ F s p => wpAny_Constant_int ⟨.int i, σ, F, p.mkToks _, ⟨_, rfl⟩, h⟩
theorem WE_bool {i : Bool} {k : Nat} {pos : Pos} {Q : MV → Vars → Prop} (h : Q (.bool i) σ) : WE G C (.Constant (.bool i) k pos) σ Q :=
  .mk fun _ _ _ _ F s p => wpAny_Constant_bool ⟨.bool i, σ, F, .refl p, rfl, h⟩
theorem WE_glob {x : Str} {pos : Pos} {v : Value} {Q : MV → Vars → Prop} (hx : C.scope.names.lookup x = some .globalImplicit) (hv : G.mg x = some v) (h : Q (.raw v) σ)
    (hd : (x == ("__debug__" : Str)) = false := by decide) : WE G C (.Name x pos) σ Q := .mk fun env A P tm F s p => by
  refine Name_function_global p.rep.kind (by show env.scope.names.lookup x = _; rw [p.sc]; exact hx) (loadGlobal_global (env := env) (by rw [p.rep.glb]; exact p.rep.base.g) hv ?_) hd
  exact ⟨.raw v, σ, F, .refl p, rfl, h⟩
theorem WE_builtin {x : Str} {pos : Pos} {v : Value} {Q : MV → Vars → Prop} (hx : C.scope.names.lookup x = some .globalImplicit) (hn : G.mg x = none) (hv : bootBuiltins x = some v) (h : Q (.raw v) σ)
    (hne : x ≠ "__name__" := by decide) (hd : (x == ("__debug__" : Str)) = false := by decide) : WE G C (.Name x pos) σ Q := .mk fun env A P tm F s p => by
  refine Name_function_global p.rep.kind (by show env.scope.names.lookup x = _; rw [p.sc]; exact hx)
    (loadGlobal_builtin (env := env) (by rw [p.rep.glb]; exact p.rep.base.g) hn (by rw [p.rep.blt]; exact p.rep.base.b) ((p.rep.base.ok.builtins x hne).trans hv) ?_) hd
  exact ⟨.raw v, σ, F, .refl p, rfl, h⟩
end
end Mine
end
section
open PySem PySem.W PySem.Calls PyProof.Rows
namespace Mine

section
variable {G : GCtx} {C : SC} {σ : Vars}

/-! ### operations on ints -/
/-- what an operation makes of two ints, a pure step -/
structure BinSem (G : GCtx) (op : Operator) (a b c : Int) : Prop where
  run : ∀ (A : Around) (s : Shared) (t u : Tok) (Q : Value → Shared → Prop) (E : Value → Shared → Prop), Q (.int c s.toks) { s with toks := s.toks + 1 } → wpAny (model G.prog G.w) A (binaryOp op (.int a t) (.int b u)) Q E s
inductive BinP (G : GCtx) (op : Operator) (Q : MV → Vars → Prop) (σ : Vars) (x y : MV) : Prop
  | mk (a b c : Int) (ex : x = .int a) (ey : y = .int b) (h : BinSem G op a b c) (q : Q (.int c) σ)
inductive NegP (Q : MV → Vars → Prop) (σ : Vars) (x : MV) : Prop
  | mk (a : Int) (ex : x = .int a) (q : Q (.int (-a)) σ)
inductive NotP (Q : MV → Vars → Prop) (σ : Vars) (x : MV) : Prop
  | mk (a : Bool) (ex : x = .bool a) (q : Q (.bool (!a)) σ)
inductive NameB (Q : Bool → Vars → Prop) (σ : Vars) (x : MV) : Prop
  | mk (b : Bool) (ex : x = .bool b) (q : Q b σ)
theorem WE_bin {l r : Expr} {op : Operator} {pos : Pos} {Q : MV → Vars → Prop}
    (h : WE G C l σ (fun x σ₁ => WE G C r σ₁ (fun y σ₂ => BinP G op Q σ₂ x y))) :
    WE G C (.BinOp l op r pos) σ Q := .mk fun env A P tm F s p =>
  wpAny_BinOp (h.thn p (fun v s₁ mv σ₁ F₁ a₁ r₁ q₁ => q₁.thn a₁.pre (fun u s₂ mu σ₂ F₂ a₂ r₂ q₂ => by
    obtain ⟨a, b, c, rfl, rfl, hop, q⟩ := q₂
    obtain ⟨t, rfl⟩ := r₁
    obtain ⟨t', rfl⟩ := r₂
    with_reducible exact hop.run _ _ _ _ _ _ ⟨.int c, σ₂, F₂, (a₁.trans a₂).trans (a₂.pre.mkToks _), VRep_int, q⟩)))

theorem sem_add {a b : Int} : BinSem G .Add a b (a + b) := .mk fun _ _ _ _ _ _ k => by with_reducible exact PyProof.Rows.add_int k
theorem sem_sub {a b : Int} : BinSem G .Sub a b (a - b) := .mk fun _ _ _ _ _ _ k => by with_reducible exact PyProof.Rows.sub_int k
theorem intBits_small {a : Int} (h : a.natAbs < 2 ^ 64) : Builtin.Int.intBits a ≤ 64 := by
  unfold Builtin.Int.intBits
  split
  · omega
  · rename_i h0
    have : a.natAbs ≠ 0 := by simpa using h0
    have := (Nat.log2_lt this).mpr h
    omega
theorem sem_mul {a b : Int} (hs : a.natAbs < 2 ^ 64 ∨ b.natAbs < 2 ^ 64) : BinSem G .Mult a b (a * b) := .mk fun _ _ _ _ _ _ k => by with_reducible exact PyProof.Rows.mul_int k (hs.elim (fun x => IntMulOk.of_left (intBits_small x)) fun x => IntMulOk.of_right (intBits_small x))
theorem sem_floordiv {a b : Int} (h1 : 0 < b) (h2 : b < 1073741824) : BinSem G .FloorDiv a b (a / b) := .mk fun _ _ _ _ _ _ k => by with_reducible exact floordiv_int (by omega) (by rw [Int.fdiv_eq_ediv_of_nonneg _ (by omega)]; exact k) (.inl (PyProof.noPylong_small (by omega)))
theorem sem_mod {a b : Int} (h1 : 0 < b) : BinSem G .Mod a b (a % b) := .mk fun _ _ _ _ _ _ k => by with_reducible exact PyProof.Rows.mod_int (by omega) (by rw [Int.fmod_eq_emod_of_nonneg _ (by omega)]; exact k)
theorem sem_lshift {a b : Int} (h1 : 0 ≤ b) (h2 : b ≤ 1000000) (h3 : a.natAbs < 2 ^ 64) : BinSem G .LShift a b (a * 2 ^ b.toNat) := .mk fun _ _ _ _ _ _ k => by with_reducible exact lshift_int_small h1 h2 h3 k
theorem fdiv_pow2 (a : Int) (n : Nat) : a.fdiv (2 ^ n) = a / 2 ^ n := Int.fdiv_eq_ediv_of_nonneg _ (Int.le_of_lt (Int.pow_pos (by decide)))
theorem sem_rshift {a b : Int} (h1 : 0 ≤ b) : BinSem G .RShift a b (a / 2 ^ b.toNat) := .mk fun _ _ _ _ _ _ k => by with_reducible exact rshift_int h1 (by rw [fdiv_pow2]; exact k)
theorem sem_and {a b : Int} : BinSem G .BitAnd a b (Builtin.bitAnd a b) := .mk fun _ _ _ _ _ _ k => by with_reducible exact and_int k
theorem sem_or {a b : Int} : BinSem G .BitOr a b (Builtin.bitOr a b) := .mk fun _ _ _ _ _ _ k => by with_reducible exact or_int k
theorem pow_size {x b : Int} (h1 : x ≤ 64) (h2 : b ≤ 1000000) (h3 : 0 ≤ b) : x * b ≤ 2 ^ 27 :=
  Int.le_trans (Int.mul_le_mul h1 h2 h3 (by decide)) (by decide)
theorem sem_pow {a b : Int} (h1 : 0 ≤ b) (h2 : b ≤ 1000000) (h3 : a.natAbs < 2 ^ 64) : BinSem G .Pow a b (a ^ b.toNat) := .mk fun _ _ _ _ _ _ k => by with_reducible exact pow_int h1 (pow_size (by have := intBits_small h3; omega) h2 h1) k
theorem WE_neg {e : Expr} {pos : Pos} {Q : MV → Vars → Prop} (h : WE G C e σ (fun x σ₁ => NegP Q σ₁ x)) : WE G C (.UnaryOp .USub e pos) σ Q := .mk fun env A P tm F s p =>
  wpAny_UnaryOp (h.thn p (fun v s₁ mv σ₁ F₁ a₁ r₁ q₁ => by
    obtain ⟨a, rfl, q⟩ := q₁
    obtain ⟨t, rfl⟩ := r₁
    exact PyProof.Rows.neg_int ⟨.int (-a), σ₁, F₁, a₁.trans (a₁.pre.mkToks _), ⟨_, rfl⟩, q⟩))
theorem WE_not {e : Expr} {pos : Pos} {Q : MV → Vars → Prop} (h : WE G C e σ (fun x σ₁ => NotP Q σ₁ x)) : WE G C (.UnaryOp .Not e pos) σ Q := .mk fun env A P tm F s p =>
  wpAny_UnaryOp (h.thn p (fun v s₁ mv σ₁ F₁ a₁ r₁ q₁ => by
    obtain ⟨a, rfl, q⟩ := q₁
    cases r₁
    exact not_value (wpAny_truthy_bool ⟨.bool (!a), σ₁, F₁, a₁, rfl, q⟩)))

/-! ### comparisons -/
noncomputable def icmp (op : CmpOp) (a b : Int) : Prop := match op with
  | .Lt => a < b | .LtE => a ≤ b | .Gt => b < a | .GtE => b ≤ a | .Eq => a = b | .NotEq => a ≠ b | _ => False
instance (op : CmpOp) (a b : Int) : Decidable (icmp op a b) := by unfold icmp; cases op <;> infer_instance
noncomputable def isCmp : CmpOp → Bool
  | .Lt | .LtE | .Gt | .GtE | .Eq | .NotEq => true
  | _ => false
theorem cmp_ints {prog : Program} {w : World} {A : Around} {E : Value → Shared → Prop} {s : Shared} {op : CmpOp} {a b : Int} {t u : Tok} {Q : Value → Shared → Prop} (ho : isCmp op = true)
    (h : Q (.bool (decide (icmp op a b))) s) : wpAny (model prog w) A (compareOp op (.int a t) (.int b u)) Q E s := by
  match op, ho, h with
  | .Lt, _, h => exact PyProof.Rows.lt_int h
  | .LtE, _, h => exact PyProof.Rows.le_int h
  | .Gt, _, h => exact PyProof.Rows.gt_int h
  | .GtE, _, h => exact PyProof.Rows.ge_int h
  | .Eq, _, h => exact PyProof.Rows.eq_int (by
      have e : (a == b) = decide (a = b) := by by_cases h : a = b <;> simp [h]
      rw [e]; exact h)
  | .NotEq, _, h => exact PyProof.Rows.ne_int (by
      have e : (a != b) = decide (a ≠ b) := by by_cases h : a = b <;> simp [h]
      rw [e]; exact h)
inductive CmpP (op : CmpOp) (Q : Bool → Vars → Prop) (σ : Vars) (x y : MV) : Prop
  | mk (a b : Int) (ex : x = .int a) (ey : y = .int b) (t : icmp op a b → Q true σ) (f : ¬ icmp op a b → Q false σ)
inductive CmpV (op : CmpOp) (Q : MV → Vars → Prop) (σ : Vars) (x y : MV) : Prop
  | mk (a b : Int) (ex : x = .int a) (ey : y = .int b) (q : Q (.bool (decide (icmp op a b))) σ)
theorem WB_cmp {l r : Expr} {op : CmpOp} {pos : Pos} {Q : Bool → Vars → Prop} (h : WE G C l σ (fun x σ₁ => WE G C r σ₁ (fun y σ₂ => CmpP op Q σ₂ x y)))
    (ho : isCmp op = true := by rfl) (hm : behindInMarks op r = false := by with_unfolding_all rfl) : WB G C (.Compare l [op] [r] pos) σ Q := .mk fun env A P tm F s p =>
  wpAny_isTrue_Compare1 (h.thn p (fun v s₁ mv σ₁ F₁ a₁ r₁ q₁ => q₁.thn a₁.pre (fun u s₂ mu σ₂ F₂ a₂ r₂ q₂ => by
    obtain ⟨a, b, rfl, rfl, qt, qf⟩ := q₂
    obtain ⟨t, rfl⟩ := r₁
    obtain ⟨t', rfl⟩ := r₂
    refine cmp_ints ho (wpAny_truthy_bool ⟨σ₂, F₂, a₁.trans a₂, ?_⟩)
    by_cases hc : icmp op a b
    · rw [decide_eq_true hc]; exact qt hc
    · rw [decide_eq_false hc]; exact qf hc))) hm
theorem WE_cmp {l r : Expr} {op : CmpOp} {pos : Pos} {Q : MV → Vars → Prop} (h : WE G C l σ (fun x σ₁ => WE G C r σ₁ (fun y σ₂ => CmpV op Q σ₂ x y)))
    (ho : isCmp op = true := by rfl) (hm : behindInMarks op r = false := by with_unfolding_all rfl) : WE G C (.Compare l [op] [r] pos) σ Q := .mk fun env A P tm F s p =>
  wpAny_Compare1 (h.thn p (fun v s₁ mv σ₁ F₁ a₁ r₁ q₁ => q₁.thn a₁.pre (fun u s₂ mu σ₂ F₂ a₂ r₂ q₂ => by
    obtain ⟨a, b, rfl, rfl, q⟩ := q₂
    obtain ⟨t, rfl⟩ := r₁
    obtain ⟨t', rfl⟩ := r₂
    exact cmp_ints ho ⟨.bool _, σ₂, F₂, a₁.trans a₂, rfl, q⟩))) hm

noncomputable def mints (ns : List Int) : List MV := ns.map .int
theorem ints_are {F : FMap} : ∀ {ns : List Int} {vs : List Value}, VReps F (mints ns) vs → IntsAre vs ns
  | [], vs, h => by rw [mints, List.map_nil, VReps] at h; subst h; exact .nil
  | n :: ns, vs, h => by
    rw [mints, List.map_cons, VReps] at h
    obtain ⟨v, r, rfl, hx, hr⟩ := h
    rw [VRep] at hx
    obtain ⟨t, rfl⟩ := hx
    exact .cons n t (ints_are hr)
theorem VRep.list {F : FMap} {xs : List MV} {v : Value} {h : Heap} (hs : ∀ a o, F a = some o → h.get? a = some o) (r : VRep F (.list xs) v) :
    ∃ a vs, v = .ref a ∧ h.IsList a (List.toArray vs) ∧ VReps F xs vs := by
  rw [VRep] at r
  obtain ⟨a, o, vs, n, rfl, f, c, d, r⟩ := r
  exact ⟨a, vs.toList, rfl, ⟨o, hs _ _ f, c, n, by rw [Array.toArray_toList]; exact d⟩, r⟩
theorem Room.big {A : Around} {k : Nat} (r : Room A k) (h : 12 ≤ k) : A.units + 64 < cLine := by have := r.units; omega
inductive EqL (Q : MV → Vars → Prop) (σ : Vars) (x y : MV) : Prop
  | mk (ns ms : List Int) (ex : x = .list (mints ns)) (ey : y = .list (mints ms)) (q : Q (.bool (decide (ns = ms))) σ)
inductive NeL (Q : Bool → Vars → Prop) (σ : Vars) (x y : MV) : Prop
  | mk (ns ms : List Int) (ex : x = .list (mints ns)) (ey : y = .list (mints ms)) (q : Q (!decide (ns = ms)) σ)
theorem WE_eqlist {l r : Expr} {pos : Pos} {Q : MV → Vars → Prop} (h : WE G C l σ (fun x σ₁ => WE G C r σ₁ (fun y σ₂ => EqL Q σ₂ x y)))
    (hk : 12 ≤ C.k) (hm : behindInMarks .Eq r = false := by with_unfolding_all rfl) : WE G C (.Compare l [.Eq] [r] pos) σ Q := .mk fun env A P tm F s p =>
  wpAny_Compare1 (h.thn p (fun v s₁ mv σ₁ F₁ a₁ r₁ q₁ => q₁.thn a₁.pre (fun u s₂ mu σ₂ F₂ a₂ r₂ q₂ => by
    obtain ⟨ns, ms, rfl, rfl, q⟩ := q₂
    obtain ⟨a, vs, rfl, hl, hv⟩ := (r₁.mono a₂.step.mono).list a₂.pre.rep.base.sub
    obtain ⟨b, us, rfl, hl', hv'⟩ := r₂.list a₂.pre.rep.base.sub
    exact ke_eq_ints hl hl' (ints_are hv) (ints_are hv') (p.room.big hk) ⟨.bool _, σ₂, F₂, a₁.trans a₂, rfl, q⟩))) hm
theorem WB_nelist {l r : Expr} {pos : Pos} {Q : Bool → Vars → Prop} (h : WE G C l σ (fun x σ₁ => WE G C r σ₁ (fun y σ₂ => NeL Q σ₂ x y)))
    (hk : 12 ≤ C.k) (hm : behindInMarks .NotEq r = false := by with_unfolding_all rfl) : WB G C (.Compare l [.NotEq] [r] pos) σ Q := .mk fun env A P tm F s p =>
  wpAny_isTrue_Compare1 (h.thn p (fun v s₁ mv σ₁ F₁ a₁ r₁ q₁ => q₁.thn a₁.pre (fun u s₂ mu σ₂ F₂ a₂ r₂ q₂ => by
    obtain ⟨ns, ms, rfl, rfl, q⟩ := q₂
    obtain ⟨a, vs, rfl, hl, hv⟩ := (r₁.mono a₂.step.mono).list a₂.pre.rep.base.sub
    obtain ⟨b, us, rfl, hl', hv'⟩ := r₂.list a₂.pre.rep.base.sub
    exact ke_ne_ints hl hl' (ints_are hv) (ints_are hv') (p.room.big hk) (wpAny_truthy_bool ⟨σ₂, F₂, a₁.trans a₂, q⟩)))) hm

/-! ### tests -/
theorem WB_not {e : Expr} {pos : Pos} {Q : Bool → Vars → Prop} (h : WB G C e σ (fun b σ' => Q (!b) σ')) : WB G C (.UnaryOp .Not e pos) σ Q := .mk fun env A P tm F s p =>
  wpAny_isTrue_Not (h.thn p fun _ _ σ' F' a q => ⟨σ', F', a, q⟩)
theorem WB_name {x : Str} {pos : Pos} {Q : Bool → Vars → Prop} (h : WE G C (.Name x pos) σ (fun v σ' => NameB Q σ' v)) : WB G C (.Name x pos) σ Q := .mk fun env A P tm F s p =>
  wpAny_isTrue_value (h.thn p (fun v s₁ mv σ₁ F₁ a₁ r₁ q₁ => by
    obtain ⟨b, rfl, q⟩ := q₁
    cases r₁
    exact wpAny_truthy_bool ⟨σ₁, F₁, a₁, q⟩))
/-- a row of tests -/
structure WBs (G : GCtx) (C : SC) (op : BoolOp) (es : List Expr) (σ : Vars) (Q : Bool → Vars → Prop) : Prop where
  run : ∀ env A P tm F s, Pre G C env A P σ tm F s →
    wpAny (model G.prog G.w) A (allTrue op es env) (BP G C env A P s F tm Q) (fun _ _ => False) s
theorem WBs.go {env : Env} {A : Around} {P : Addr → Prop} {σ₁ : Vars} {tm : List (Addr × List MV)} {F F₁ : FMap} {s s₁ : Shared} {op : BoolOp} {es : List Expr} {Q : Bool → Vars → Prop} {E : Value → Shared → Prop} (h : WBs G C op es σ₁ Q) (a : Aft G C env A P s F σ₁ tm F₁ s₁) :
    wpAny (model G.prog G.w) A (allTrue op es env) (BP G C env A P s F tm Q) E s₁ := wpAny_mono (h.run env A P tm F₁ s₁ a.pre) (fun v s' x => x.rec fun σ' F' a' q => ⟨σ', F', a.trans a', q⟩) fun _ _ x => x.elim
theorem WB_boolop {op : BoolOp} {es : List Expr} {pos : Pos} {Q : Bool → Vars → Prop} (h : WBs G C op es σ Q) : WB G C (.BoolOp op es pos) σ Q := .mk fun env A P tm F s p => wpAny_isTrue_BoolOp (h.run env A P tm F s p)
theorem WBs_and_nil {Q : Bool → Vars → Prop} (h : Q true σ) : WBs G C .And [] σ Q := .mk fun _ _ _ _ F _ p => wpAny_allTrue_And_nil ⟨σ, F, .refl p, h⟩
theorem WBs_or_nil {Q : Bool → Vars → Prop} (h : Q false σ) : WBs G C .Or [] σ Q := .mk fun _ _ _ _ F _ p => wpAny_allTrue_Or_nil ⟨σ, F, .refl p, h⟩
theorem WBs_and_cons {x : Expr} {rest : List Expr} {Q : Bool → Vars → Prop} (h : WB G C x σ (fun b σ' => if b = true then WBs G C .And rest σ' Q else Q false σ')) : WBs G C .And (x :: rest) σ Q := .mk fun env A P tm F s p =>
  wpAny_allTrue_And_cons (h.thn p (fun b s₁ σ₁ F₁ a₁ q => by
    cases b with
    | true => exact q.go a₁
    | false => exact ⟨σ₁, F₁, a₁, q⟩))
theorem WBs_or_cons {x : Expr} {rest : List Expr} {Q : Bool → Vars → Prop} (h : WB G C x σ (fun b σ' => if b = true then Q true σ' else WBs G C .Or rest σ' Q)) : WBs G C .Or (x :: rest) σ Q := .mk fun env A P tm F s p =>
  wpAny_allTrue_Or_cons (h.thn p (fun b s₁ σ₁ F₁ a₁ q => by
    cases b with
    | false => exact q.go a₁
    | true => exact ⟨σ₁, F₁, a₁, q⟩))
theorem WE_and2 {x y : Expr} {pos : Pos} {Q : MV → Vars → Prop} (h : WE G C x σ (fun v σ₁ => ∃ b, v = .bool b ∧ (if b = true then WE G C y σ₁ Q else Q (.bool false) σ₁))) : WE G C (.BoolOp .And [x, y] pos) σ Q := .mk fun env A P tm F s p =>
  wpAny_And2 (h.thn p (fun v s₁ mv σ₁ F₁ a₁ r₁ q₁ => by
    obtain ⟨b, rfl, q⟩ := q₁
    cases r₁
    refine wpAny_truthy_bool ?_
    cases b with
    | true => exact q.go a₁
    | false => exact ⟨.bool false, σ₁, F₁, a₁, rfl, q⟩))
/-- `not lo <= x < hi` and its like -/
theorem WB_chain {l r₁ r₂ : Expr} {op₁ op₂ : CmpOp} {pos : Pos} {Q : Bool → Vars → Prop}
    (h : WE G C l σ (fun x σ₁ => WE G C r₁ σ₁ (fun y σ₂ => ∃ a b, x = .int a ∧ y = .int b ∧ (¬ icmp op₁ a b → Q false σ₂) ∧
      (icmp op₁ a b → WE G C r₂ σ₂ (fun z σ₃ => ∃ c, z = .int c ∧ (icmp op₂ b c → Q true σ₃) ∧ (¬ icmp op₂ b c → Q false σ₃))))))
    (ho₁ : isCmp op₁ = true := by rfl) (ho₂ : isCmp op₂ = true := by rfl) (hm : lastMarks [op₁, op₂] [r₁, r₂] = false := by with_unfolding_all rfl) : WB G C (.Compare l [op₁, op₂] [r₁, r₂] pos) σ Q := .mk fun env A P tm F s p =>
  isTrue_chain (rs := []) (h.thn p (fun v s₁ mv σ₁ F₁ a₁ t₁ q₁ => test_link (q₁.thn a₁.pre (fun u s₂ mu σ₂ F₂ a₂ t₂ q₂ => by
    obtain ⟨a, b, rfl, rfl, qf, qt⟩ := q₂
    obtain ⟨t, rfl⟩ := t₁
    obtain ⟨t', rfl⟩ := t₂
    refine cmp_ints ho₁ (wpAny_truthy_bool ?_)
    by_cases hc : icmp op₁ a b
    · rw [decide_eq_true hc]
      refine test_last ((qt hc).thn a₂.pre (fun w s₃ mw σ₃ F₃ a₃ t₃ q₃ => ?_))
      obtain ⟨c, rfl, qt', qf'⟩ := q₃
      obtain ⟨t'', rfl⟩ := t₃
      refine cmp_ints ho₂ (wpAny_truthy_bool ⟨σ₃, F₃, (a₁.trans a₂).trans a₃, ?_⟩)
      by_cases hd : icmp op₂ b c
      · rw [decide_eq_true hd]; exact qt' hd
      · rw [decide_eq_false hd]; exact qf' hd
    · rw [decide_eq_false hc]
      exact ⟨σ₂, F₂, a₁.trans a₂, qf hc⟩)))) hm
end
end Mine
end
section
open PySem PySem.W PySem.Calls PyProof.Rows
namespace Mine

section
variable {G : GCtx} {C : SC} {env : Env} {A : Around} {P : Addr → Prop} {σ : Vars} {tm tm' : List (Addr × List MV)} {F F' : FMap} {s : Shared}

theorem PlainL.sameBut {h h' : Heap} {a b : Addr} {its : Array Value} (x : PlainL h a its) (hs : Heap.SameBut b h h') (hab : a ≠ b) : PlainL h' a its := PlainL.extBut x hs.extBut hab
theorem OwnAt.sameBut {h h' : Heap} {a b : Addr} {xs : List MV} (x : OwnAt P F h a xs) (hs : Heap.SameBut b h h') (hab : a ≠ b) : OwnAt P F h' a xs := by
  obtain ⟨p, f, vs, hl, hv⟩ := x
  exact ⟨p, f, vs, PlainL.sameBut hl hs hab, hv⟩
theorem OwnAt.isList {h : Heap} {a : Addr} {xs : List MV} (x : OwnAt P F h a xs) : ∃ vs : List Value, h.IsList a vs.toArray := let ⟨vs, hl, _⟩ := x.l; ⟨vs, hl.isList⟩
theorem OwnAt.some {h : Heap} {a : Addr} {xs : List MV} (x : OwnAt P F h a xs) : ∃ o, h.get? a = some o := let ⟨_, ⟨o, _, e, _⟩, _⟩ := x.l; ⟨o, e⟩

/-- what a store may put: a value, or the list on top of the temporaries -/
noncomputable def Puts (F : FMap) (tm : List (Addr × List MV)) (mv : MV) (v : Value) (tm' : List (Addr × List MV)) : Prop :=
  (VRep F mv v ∧ tm' = tm) ∨ ∃ a xs, mv = .own a xs ∧ v = .ref a ∧ tm = (a, xs) :: tm'

theorem Base.sameBut {h h' : Heap} {b : Addr} (B : Base G F h) (hs : Heap.SameBut b h h') (hf : F b = none) (ht : b ≠ G.tp) : Base G F h' :=
  ⟨B.ok, B.glob, fun a o e => (hs.2 a (fun q => by rw [q, hf] at e; cases e)).trans (B.sub a o e), B.ftab, B.tab.mono (FMap.le.refl F) fun o e => (hs.2 _ (Ne.symm ht)).trans e⟩
theorem Step.sameBut {h h' : Heap} {b : Addr} (hp : P b) (hs : Heap.SameBut b h h') : Step G P h F h' F :=
  ⟨fun a o p _ e => (hs.2 a (fun q => p (q ▸ hp))).trans e, fun _ _ _ _ _ => rfl, FMap.le.refl _⟩

theorem Rep.store {cw : Bool} {h h' : Heap} {x : Str} {mv : MV} {v : Value} {b : Addr} {m : Str → Option Value} (R : Rep G cw env P σ tm F h)
    (hv : ∀ y mu, σ.get y = some mu → ∃ u, At env h m y u ∧ SRep P F h mu u)
    (hb : P b) (hfb : F b = none) (htb : b ≠ G.tp) (hs : Heap.SameBut b h h') (hob : ∀ vs : Array Value, ¬ h.IsList b vs) (hpu : Puts F tm mv v tm')
    {m' : Str → Option Value} (hn' : h'.Ns env.locals m') (hat : At env h' m' x v) (hat' : ∀ y u, y ≠ x → At env h m y u → At env h' m' y u)
    (hcl : ∀ n c, env.cells.lookup n = some c → (∃ v, h.IsCell c v) → ∃ v, h'.IsCell c v) : Rep G cw env P (σ.set x mv) tm' F h' := by
  have ob : ∀ {a xs}, OwnAt P F h a xs → a ≠ b := fun o q => by
    obtain ⟨vs, hl⟩ := o.isList
    exact hob _ (q ▸ hl)
  have sub : ∀ t ∈ tm', t ∈ tm := fun t hmem => by
    rcases hpu with ⟨_, rfl⟩ | ⟨a, xs, _, _, rfl⟩
    · exact hmem
    · exact List.mem_cons_of_mem _ hmem
  have nd : (tm'.map (·.1)).Nodup := by
    rcases hpu with ⟨_, rfl⟩ | ⟨a, xs, _, _, rfl⟩
    · exact R.tmd
    · exact (List.nodup_cons.mp (show (a :: tm'.map (·.1)).Nodup from R.tmd)).2
  refine ⟨R.base.sameBut hs hfb htb, R.ptab, R.kind, R.glb, R.blt, R.plocals, R.flocals, R.cells, fun n c l => hcl n c l (R.cellex n c l), R.cinj, ⟨m', hn', fun y mu e => ?_⟩, fun y z a ys zs e e' => ?_, fun y a ys e t htm => ?_,
    fun t h => (R.tms t (sub t h)).sameBut hs (ob (R.tms t (sub t h))), nd⟩
  · rw [Vars.get_set] at e
    by_cases hy : y = x
    · rw [if_pos hy] at e; cases e
      subst hy
      refine ⟨v, hat, ?_⟩
      rcases hpu with ⟨hr, _⟩ | ⟨a, xs, rfl, rfl, rfl⟩
      · cases mv with
        | own a xs => exact absurd hr (by simp [VRep])
        | _ => exact hr
      · have hown := R.tms (a, xs) (List.mem_cons_self ..)
        exact ⟨rfl, hown.sameBut hs (ob hown)⟩
    · rw [if_neg hy] at e
      obtain ⟨u, a, r⟩ := hv y mu e
      refine ⟨u, hat' y u hy a, ?_⟩
      cases mu with
      | own a xs => exact ⟨r.1, r.2.sameBut hs (ob r.2)⟩
      | _ => exact r
  · rw [Vars.get_set] at e e'
    have key : ∀ {w : Str} {ws : List MV}, mv = .own a ys ∨ mv = .own a zs → σ.get w = some (.own a ws) → False := fun {w ws} q ew => by
      rcases hpu with ⟨hr, _⟩ | ⟨b', xs, rfl, rfl, rfl⟩
      · rcases q with rfl | rfl <;> exact absurd hr (by simp [VRep])
      · have : b' = a := by rcases q with q | q <;> (cases q; rfl)
        exact R.tdist w a ws ew (b', xs) (List.mem_cons_self ..) this.symm
    by_cases hy : y = x <;> by_cases hz : z = x
    · rw [hy, hz]
    · rw [if_pos hy] at e; rw [if_neg hz] at e'
      exact (key (.inl (Option.some.inj e)) e').elim
    · rw [if_neg hy] at e; rw [if_pos hz] at e'
      exact (key (.inr (Option.some.inj e')) e).elim
    · rw [if_neg hy] at e; rw [if_neg hz] at e'
      exact R.dist y z a ys zs e e'
  · rw [Vars.get_set] at e
    by_cases hy : y = x
    · rw [if_pos hy] at e; cases e
      rcases hpu with ⟨hr, _⟩ | ⟨a', xs, q, rfl, rfl⟩
      · exact absurd hr (by simp [VRep])
      · cases q
        have := (List.nodup_cons.mp (show (a :: tm'.map (·.1)).Nodup from R.tmd)).1
        exact fun q => this (q ▸ List.mem_map_of_mem htm)
    · rw [if_neg hy] at e
      exact R.tdist y a ys e t (sub t htm)

/-- where a name may be stored -/
noncomputable def Storable (C : SC) (x : Str) : Prop := C.scope.names.lookup x = some .local ∨ (C.cw = true ∧ C.scope.names.lookup x = some .cell)

theorem Pre.store {x : Str} {mv : MV} {v : Value} (p : Pre G C env A P σ tm F s) (hx : Storable C x) (hpu : Puts F tm mv v tm') :
    wpAny (model G.prog G.w) A (storeName env x v) (fun _ s' => Aft G C env A P s F (σ.set x mv) tm' F s') (fun _ _ => False) s := by
  obtain ⟨m, hns, hv⟩ := p.rep.vars
  rcases hx with hx | ⟨hcw, hx⟩
  · have k : env.kindOf x = some .local := by show env.scope.names.lookup x = _; rw [p.sc]; exact hx
    refine wpAny_storeName_local k hns (fun h' hn' hs => ?_) (by rw [p.rep.kind]; rfl)
    have ntab := Heap.Ns.ne_tab hns p.rep.base.tab
    have st := Step.sameBut (G := G) (F := F) p.rep.plocals hs
    refine ⟨⟨p.sc, p.room, p.fs, st.fresh (p.rep.base.sameBut hs p.rep.flocals ntab) p.fresh, ?_⟩, st, h', _, rfl⟩
    refine p.rep.store hv p.rep.plocals p.rep.flocals ntab hs (fun vs hl => Heap.IsList.ne_ns hl hns rfl) hpu hn' (.inl ⟨k, by simp⟩) (fun y u hy a => ?_) fun n c _ ⟨u, hc⟩ => ⟨u, hc.sameBut hs (Heap.IsCell.ne_ns hc hns)⟩
    rcases a with ⟨ky, hm⟩ | ⟨ky, c, hc, hcell⟩
    · exact .inl ⟨ky, by simpa [hy] using hm⟩
    · exact .inr ⟨ky, c, hc, hcell.sameBut hs (Heap.IsCell.ne_ns hcell hns)⟩
  · have k : env.kindOf x = some .cell := by show env.scope.names.lookup x = _; rw [p.sc]; exact hx
    obtain ⟨c, hc, q⟩ := p.rep.cells x k
    obtain ⟨u, hcell⟩ := p.rep.cellex x c hc
    obtain ⟨pc, fc⟩ := q hcw
    refine wpAny_storeName_cell p.rep.kind k hc hcell fun h' hc' hs => ?_
    have st := Step.sameBut (G := G) (F := F) pc hs
    refine ⟨⟨p.sc, p.room, p.fs, st.fresh (p.rep.base.sameBut hs fc (Heap.IsCell.ne_tab hcell p.rep.base.tab)) p.fresh, ?_⟩, st, h', _, rfl⟩
    refine p.rep.store hv pc fc (Heap.IsCell.ne_tab hcell p.rep.base.tab) hs (fun vs hl => Heap.IsList.ne_cell hl hcell rfl) hpu (hns.sameBut hs (Ne.symm (Heap.IsCell.ne_ns hcell hns)))
      (.inr ⟨.inl k, c, hc, hc'⟩) (fun y w hy a => ?_) fun n c' ln ⟨w, hw⟩ => ?_
    · rcases a with ⟨ky, hm⟩ | ⟨ky, c', hc₂, hcell₂⟩
      · exact .inl ⟨ky, hm⟩
      · refine .inr ⟨ky, c', hc₂, hcell₂.sameBut hs fun q => hy ?_⟩
        subst q
        exact p.rep.cinj y x _ hc₂ hc
    · by_cases e : c' = c
      · subst e; exact ⟨_, hc'⟩
      · exact ⟨w, hw.sameBut hs e⟩

theorem Pre.storeT {x : Str} {mv : MV} {v : Value} (p : Pre G C env A P σ tm F s) (hx : Storable C x) (hpu : Puts F tm mv v tm') {R : Unit → Shared → Prop} {E : Value → Shared → Prop} (k : ∀ u s', Aft G C env A P s F (σ.set x mv) tm' F s' → R u s') :
    wpAny (model G.prog G.w) A (storeName env x v) R E s := wpAny_mono (p.store hx hpu) k fun _ _ x => x.elim

/-- an own list has been turned -/
theorem Pre.touch {x : Str} {xs xs' : List MV} {a : Addr} {h' : Heap} {tk : Nat} (p : Pre G C env A P σ tm F s)
    (hx : σ.get x = some (.own a xs)) (B : Base G F' h') (st : Step G (fun b => s.heap.get? b = none ∨ b = a) s.heap F h' F') (ho : OwnAt P F' h' a xs') :
    Aft G C env A P s F (σ.set x (.own a xs')) tm F' { s with heap := h', toks := tk } := by
  obtain ⟨m, hns, hv⟩ := p.rep.vars
  obtain ⟨ux, atx, eux, hox⟩ := hv x _ hx
  subst eux
  have pa : P a := hox.p
  obtain ⟨avs, hal⟩ := hox.isList
  have kp : ∀ b o, b ≠ a → b ≠ G.tp → s.heap.get? b = some o → h'.get? b = some o := fun b o n t e => st.keep b o (fun q => q.elim (fun l => by rw [l] at e; cases e) n) t e
  have fz : ∀ b o, b ≠ a → b ≠ G.tp → s.heap.get? b = some o → F' b = F b := fun b o n t e => st.frz b o (fun q => q.elim (fun l => by rw [l] at e; cases e) n) t e
  obtain ⟨oL, _, _, eL, _⟩ := id hns
  have ntab := Heap.Ns.ne_tab hns p.rep.base.tab
  have nL : env.locals ≠ a := Ne.symm (Heap.IsList.ne_ns hal hns)
  have own' : ∀ {b ys}, OwnAt P F s.heap b ys → b ≠ a → OwnAt P F' h' b ys := fun {b ys} o n => by
    obtain ⟨pb, fb, vs, ⟨o', k, e, r⟩, hvs⟩ := o
    exact ⟨pb, (fz b o' n (fun q => p.rep.ptab (q ▸ pb)) e).trans fb, vs, ⟨o', k, kp b o' n (fun q => p.rep.ptab (q ▸ pb)) e, r⟩, hvs.mono st.mono⟩
  have cell' : ∀ {c v}, s.heap.IsCell c v → h'.IsCell c v := fun {c v} hc => by
    obtain ⟨o, e, hd'⟩ := hc
    exact ⟨o, kp c o (fun q => Heap.IsList.ne_cell hal ⟨o, e, hd'⟩ q.symm) (Heap.IsCell.ne_tab ⟨o, e, hd'⟩ p.rep.base.tab) e, hd'⟩
  have hns' : h'.Ns env.locals m := hns.at' fun o e => kp _ o nL ntab e
  have st' : Step G P s.heap F h' F' := st.weaken fun b q => q.elim (p.fresh b) fun e => e ▸ pa
  have ex : ∀ {y b ys}, (σ.set x (.own a xs')).get y = some (.own b ys) → ∃ ys', σ.get y = some (.own b ys') := fun {y b ys} e => by
    rw [Vars.get_set] at e
    split at e
    · rename_i q; subst q; cases e; exact ⟨xs, hx⟩
    · exact ⟨ys, e⟩
  refine ⟨⟨p.sc, p.room, p.fs.trans st.mono, st'.fresh B p.fresh, ?_⟩, st', h', tk, rfl⟩
  refine ⟨B, p.rep.ptab, p.rep.kind, p.rep.glb, p.rep.blt, p.rep.plocals, (fz _ oL nL ntab eL).trans p.rep.flocals, fun n k => ?_, fun n c l => let ⟨v, hc⟩ := p.rep.cellex n c l; ⟨v, cell' hc⟩, p.rep.cinj, ⟨m, hns', fun y mu e => ?_⟩, fun y z b ys zs e e' => ?_, fun y b ys e => ?_, fun t m => ?_, p.rep.tmd⟩
  · obtain ⟨c, l, q⟩ := p.rep.cells n k
    obtain ⟨v, hc⟩ := p.rep.cellex n c l
    have nc := Heap.IsCell.ne_tab hc p.rep.base.tab
    have na : c ≠ a := fun q => Heap.IsList.ne_cell hal hc q.symm
    obtain ⟨oc, ec, _⟩ := hc
    exact ⟨c, l, fun w => ⟨(q w).1, (fz c oc na nc ec).trans (q w).2⟩⟩
  · rw [Vars.get_set] at e
    by_cases hy : y = x
    · rw [if_pos hy] at e; cases e
      subst hy
      refine ⟨.ref a, ?_, rfl, ho⟩
      rcases atx with r | ⟨k, c, hc, hcell⟩
      · exact .inl r
      · exact .inr ⟨k, c, hc, cell' hcell⟩
    · rw [if_neg hy] at e
      obtain ⟨u, at', r⟩ := hv y mu e
      refine ⟨u, ?_, ?_⟩
      · rcases at' with r | ⟨k, c, hc, hcell⟩
        · exact .inl r
        · exact .inr ⟨k, c, hc, cell' hcell⟩
      · cases mu with
        | own b ys => exact ⟨r.1, own' r.2 fun q => hy (p.rep.dist y x a ys xs (q ▸ e) hx)⟩
        | _ => exact VRep.mono st.mono r
  · obtain ⟨ys', e1⟩ := ex e
    obtain ⟨zs', e2⟩ := ex e'
    exact p.rep.dist y z b ys' zs' e1 e2
  · obtain ⟨ys', e1⟩ := ex e
    exact p.rep.tdist y b ys' e1
  · exact own' (p.rep.tms t m) fun q => p.rep.tdist x a xs hx t m q.symm

/-- freeze the list on top of the temporaries -/
theorem Pre.freeze {a : Addr} {xs : List MV} (p : Pre G C env A P σ ((a, xs) :: tm) F s) : ∃ F', Aft G C env A P s F σ tm F' s ∧ VRep F' (.list xs) (.ref a) := by
  obtain ⟨pa, fa, vs, ⟨o, n, e, hc, hdi, hda⟩, hv⟩ := p.rep.tms (a, xs) (List.mem_cons_self ..)
  let F' : FMap := fun b => if b = a then some o else F b
  have hle : F.le F' := fun b o' q => by
    show (if b = a then some o else F b) = some o'
    by_cases h : b = a
    · rw [h, fa] at q; cases q
    · rw [if_neg h]; exact q
  have hne : ∀ b, b ≠ a → F' b = F b := fun b h => if_neg h
  have ntab : a ≠ G.tp := fun q => p.rep.ptab (q ▸ pa)
  obtain ⟨m, hns, hvs⟩ := p.rep.vars
  have hl : s.heap.IsList a vs.toArray := ⟨o, e, hc, n, hda⟩
  have nL : env.locals ≠ a := Ne.symm (Heap.IsList.ne_ns hl hns)
  have nd := List.nodup_cons.mp (show (a :: tm.map (·.1)).Nodup from p.rep.tmd)
  have own' : ∀ {b ys}, OwnAt P F s.heap b ys → b ≠ a → OwnAt P F' s.heap b ys := fun {b ys} o h => ⟨o.p, (hne b h).trans o.f, let ⟨us, l, r⟩ := o.l; ⟨us, l, r.mono hle⟩⟩
  refine ⟨F', ⟨⟨p.sc, p.room, p.fs.trans hle, p.fresh, ?_⟩, ⟨fun _ _ _ _ q => q, fun b _ hb _ _ => hne b fun q => hb (q ▸ pa), hle⟩, s.heap, s.toks, rfl⟩, ?_⟩
  · refine ⟨⟨p.rep.base.ok, fun b o' q => hle b o' (p.rep.base.glob b o' q), fun b o' q => ?_, (hne _ (Ne.symm ntab)).trans p.rep.base.ftab, p.rep.base.tab.mono hle fun _ q => q⟩, p.rep.ptab, p.rep.kind, p.rep.glb, p.rep.blt, p.rep.plocals, (hne _ nL).trans p.rep.flocals,
      fun n k => ?_, p.rep.cellex, p.rep.cinj, ⟨m, hns, fun y mu q => ?_⟩, p.rep.dist, fun y b ys q t htm => p.rep.tdist y b ys q t (List.mem_cons_of_mem _ htm), fun t htm => own' (p.rep.tms t (List.mem_cons_of_mem _ htm)) fun q => nd.1 (q ▸ List.mem_map_of_mem htm), nd.2⟩
    · by_cases h : b = a
      · have : F' b = some o := if_pos h
        rw [this] at q; cases q; rw [h]; exact e
      · rw [hne b h] at q; exact p.rep.base.sub b o' q
    · obtain ⟨c, l, q⟩ := p.rep.cells n k
      obtain ⟨u, hcell'⟩ := p.rep.cellex n c l
      exact ⟨c, l, fun w => ⟨(q w).1, (hne c fun r => Heap.IsList.ne_cell hl hcell' r.symm).trans (q w).2⟩⟩
    · obtain ⟨u, at', r⟩ := hvs y mu q
      refine ⟨u, at', ?_⟩
      cases mu with
      | own b ys => exact ⟨r.1, own' r.2 (p.rep.tdist y b ys q (a, xs) (List.mem_cons_self ..))⟩
      | _ => exact VRep.mono hle r
  · rw [VRep]
    exact ⟨a, o, vs.toArray, n, rfl, if_pos rfl, hc, hda, by simpa using hv.mono hle⟩
end
end Mine
end
section
open PySem PySem.W PySem.Calls PyProof.Rows
namespace Mine

section
variable {G : GCtx} {C : SC} {env : Env} {A : Around} {P : Addr → Prop} {σ : Vars} {tm tm' : List (Addr × List MV)} {F F' : FMap} {s : Shared}

theorem Pre.newList (p : Pre G C env A P σ tm F s) {h1 : Heap} (hk : ∀ a o, s.heap.get? a = some o → h1.get? a = some o) {xs : List MV} {vs : Array Value} {n tk : Nat} (hv : VReps F xs vs.toList) :
    Aft G C env A P s F σ ((h1.objs.size, xs) :: tm) F { s with heap := h1.push { cls := .type "list", data := .seq vs n }, toks := tk } := by
  have hk' : ∀ a o, s.heap.get? a = some o → (h1.push { cls := .type "list", data := .seq vs n }).get? a = some o := fun a o e => Heap.get?_push_of_some _ (hk a o e)
  obtain ⟨pr, st, rs⟩ := p.grow' (tk := tk) hk'
  have hn : s.heap.get? h1.objs.size = none := none_end hk
  have hfn : F h1.objs.size = none := by
    cases e : F h1.objs.size with
    | none => rfl
    | some o => rw [p.rep.base.sub _ _ e] at hn; cases hn
  have ne : ∀ {b ys}, OwnAt P F s.heap b ys → b ≠ h1.objs.size := fun {b ys} o q => by
    obtain ⟨o', e⟩ := o.some
    rw [q, hn] at e; cases e
  obtain ⟨m, hns, hvs⟩ := p.rep.vars
  have hno : OwnAt P F (h1.push { cls := .type "list", data := .seq vs n }) h1.objs.size xs := ⟨p.fresh _ hn, hfn, vs.toList, ⟨_, n, Heap.get?_push_size _ rfl, rfl, rfl, by rw [Array.toArray_toList]⟩, hv⟩
  refine ⟨⟨pr.sc, pr.room, pr.fs, pr.fresh, ?_⟩, st, rs⟩
  have R := pr.rep
  refine ⟨R.base, R.ptab, R.kind, R.glb, R.blt, R.plocals, R.flocals, R.cells, R.cellex, R.cinj, R.vars, R.dist, fun y b ys e t htm => ?_, fun t htm => ?_, List.nodup_cons.mpr ⟨fun hm => ?_, R.tmd⟩⟩
  · rcases List.mem_cons.mp htm with rfl | htm
    · obtain ⟨u, a, r⟩ := hvs y _ e
      exact ne r.2
    · exact R.tdist y b ys e t htm
  · rcases List.mem_cons.mp htm with rfl | htm
    · exact hno
    · exact R.tms t htm
  · obtain ⟨t, htm, e⟩ := List.mem_map.mp hm
    exact ne (p.rep.tms t htm) e

/-- the address of an own list, read off the frame -/
theorem Pre.own (p : Pre G C env A P σ tm F s) {x : Str} {a : Addr} {xs : List MV} (hx : σ.get x = some (.own a xs)) (hn : (x == ("__classdict__" : Str)) = false := by decide) :
    OwnAt P F s.heap a xs ∧ ∀ (Q : Value → Shared → Prop) E, Q (.ref a) s → wpAny (model G.prog G.w) A (loadName env x) Q E s := by
  obtain ⟨v, ⟨e, ho⟩, hl⟩ := p.load hx hn
  subst e
  exact ⟨ho, hl⟩

/-- an own list is read as a value: it is frozen -/
theorem WE_of_WF {e : Expr} {Q : MV → Vars → Prop} (h : WF G C e σ (fun _ xs σ' => Q (.list xs) σ')) : WE G C e σ Q := .mk fun env A P tm F s p =>
  h.thn p (fun v s' a xs σ' F' e af q => by
    subst e
    obtain ⟨F'', af', r⟩ := af.pre.freeze
    exact ⟨.list xs, σ', F'', af.trans af', r, q⟩)
/-- an own list is frozen where it stands -/
theorem Pre.freezeVar {x : Str} {a : Addr} {xs : List MV} (p : Pre G C env A P σ tm F s) (hx : σ.get x = some (.own a xs)) :
    ∃ F', Aft G C env A P s F (σ.set x (.list xs)) tm F' s ∧ VRep F' (.list xs) (.ref a) := by
  obtain ⟨m, hns, hv⟩ := p.rep.vars
  obtain ⟨ux, atx, eux, ho⟩ := hv x _ hx
  have p' : Pre G C env A P (σ.set x (.raw (.ref a))) ((a, xs) :: tm) F s := by
    refine ⟨p.sc, p.room, p.fs, p.fresh, ⟨p.rep.base, p.rep.ptab, p.rep.kind, p.rep.glb, p.rep.blt, p.rep.plocals, p.rep.flocals, p.rep.cells, p.rep.cellex, p.rep.cinj, ⟨m, hns, fun y mu e => ?_⟩, fun y z b ys zs e e' => ?_, fun y b ys e t htm => ?_, fun t htm => ?_, List.nodup_cons.mpr ⟨fun hm => ?_, p.rep.tmd⟩⟩⟩
    · rw [Vars.get_set] at e
      split at e
      · rename_i q; subst q; cases e
        obtain ⟨u, at', e', _⟩ := hv y _ hx
        subst e'
        exact ⟨_, at', rfl⟩
      · exact hv y mu e
    · rw [Vars.get_set] at e e'
      split at e
      · cases e
      · split at e'
        · cases e'
        · exact p.rep.dist y z b ys zs e e'
    · rw [Vars.get_set] at e
      split at e
      · cases e
      · rename_i hy
        rcases List.mem_cons.mp htm with rfl | htm
        · exact fun q => hy (p.rep.dist y x a ys xs ((show b = a from q) ▸ e) hx)
        · exact p.rep.tdist y b ys e t htm
    · rcases List.mem_cons.mp htm with rfl | htm
      · exact ho
      · exact p.rep.tms t htm
    · obtain ⟨t, htm, e⟩ := List.mem_map.mp hm
      exact p.rep.tdist x a xs hx t htm e.symm
  obtain ⟨F'', af', r⟩ := p'.freeze
  have R := af'.pre.rep
  obtain ⟨m₂, hns₂, hv₂⟩ := R.vars
  refine ⟨F'', ⟨⟨p.sc, p.room, af'.pre.fs, af'.pre.fresh, ⟨R.base, R.ptab, R.kind, R.glb, R.blt, R.plocals, R.flocals, R.cells, R.cellex, R.cinj, ⟨m₂, hns₂, fun y mu e => ?_⟩, fun y z b ys zs e e' => ?_, fun y b ys e t htm => ?_, R.tms, R.tmd⟩⟩, af'.step, af'.rest⟩, r⟩
  · rw [Vars.get_set] at e
    split at e
    · rename_i q; subst q; cases e
      obtain ⟨u, a₂, r₂⟩ := hv₂ y (.raw (.ref a)) (by rw [Vars.get_set, if_pos rfl])
      have : u = .ref a := r₂
      subst this
      exact ⟨_, a₂, r⟩
    · rename_i hy
      exact hv₂ y mu (by rw [Vars.get_set, if_neg hy]; exact e)
  · rw [Vars.get_set] at e e'
    split at e
    · cases e
    · rename_i hy
      split at e'
      · cases e'
      · rename_i hz
        exact R.dist y z b ys zs (by rw [Vars.get_set, if_neg hy]; exact e) (by rw [Vars.get_set, if_neg hz]; exact e')
  · rw [Vars.get_set] at e
    split at e
    · cases e
    · rename_i hy
      exact R.tdist y b ys (by rw [Vars.get_set, if_neg hy]; exact e) t htm
theorem WE_name_own {x : Str} {pos : Pos} {a : Addr} {xs : List MV} {Q : MV → Vars → Prop} (hx : σ.get x = some (.own a xs)) (h : Q (.list xs) (σ.set x (.list xs)))
    (hd : (x == ("__debug__" : Str)) = false := by decide) (hn : (x == ("__classdict__" : Str)) = false := by decide) : WE G C (.Name x pos) σ Q := .mk fun env A P tm F s p => by
  obtain ⟨F', af, r⟩ := p.freezeVar hx
  exact wpAny_Name ((p.own hx hn).2 _ _ ⟨.list xs, _, F', af, r, h⟩) hd

/-! ### calls -/
noncomputable def FnF (Fs : FMap) (a : Addr) : Prop := ∃ oc od fd sl, Fs a = some (⟨oc, od, .func fd, sl⟩ : Obj)
theorem FnF.at {Fs : FMap} {a : Addr} (x : FnF Fs a) (hF : Fs.le F) {h : Heap} (B : Base G F h) : FnAt a h := let ⟨oc, od, fd, sl, e⟩ := x; ⟨oc, od, fd, sl, B.sub _ _ (hF _ _ e)⟩
theorem FnF.mono {Fs Fs' : FMap} {a : Addr} (x : FnF Fs a) (hF : Fs.le Fs') : FnF Fs' a := let ⟨oc, od, fd, sl, e⟩ := x; ⟨oc, od, fd, sl, hF _ _ e⟩

inductive CallK (G : GCtx) (k' : Nat) (Fs : FMap) (f : Value) (args : List MV) (Q : MV → Prop) : Prop
  | mk (k : Nat) (hk : k ≤ k') (h : CallOK G k Fs f args Q)
inductive CallIOK (G : GCtx) (k' : Nat) (Fs : FMap) (f : Value) (xs args : List MV) (Q : MV → List MV → Prop) : Prop
  | mk (k : Nat) (hk : k ≤ k') (h : CallIO G k Fs f xs args Q)
theorem WE_call {x : Str} {np pos : Pos} {e : Expr} {rest : List Expr} {Q : MV → Vars → Prop}
    (h : WE G C (.Name x np) σ (fun fv σ₁ => ∃ a, fv = .raw (.ref a) ∧ FnF C.Fs a ∧ WA G C (e :: rest) σ₁ (fun xs σ₂ => CallK G C.k C.Fs (.ref a) xs (fun v => Q v σ₂))))
    (he : ∀ env, starEach (e :: rest) env = (false, eval e env) :: starEach rest env := by intro _; rfl) (hplain : ∀ env, (backTo pos (starEach rest env)).any (·.1) = false := by intro _; rfl) :
    WE G C (.Call (.Name x np) (e :: rest) [] pos) σ Q := .mk fun env A P tm F s p => by
  refine Call_Name rfl (h.thn p (fun fv s₁ mv σ₁ F₁ a₁ r₁ q₁ => ?_))
  obtain ⟨a, rfl, hf, hw⟩ := q₁
  cases r₁
  refine callWith_F (hf.at a₁.pre.fs a₁.pre.rep.base) (hw.thn pos a₁.pre (fun vs s₂ xs σ₂ F₂ a₂ r₂ q₂ => ⟨hf.at a₂.pre.fs a₂.pre.rep.base, ?_⟩)) (he env) (hplain env)
  obtain ⟨k, hk, hc⟩ := q₂
  exact hc.thn (a₂.pre.room.mono hk) a₂.pre.fs a₂.pre.rep.base r₂ (fun v s₃ mv F' h' tk e' B st r q => ⟨mv, σ₂, F', (a₁.trans a₂).trans (e' ▸ a₂.pre.grow B st), r, q⟩)

/-- a call that turns the list in `y` -/
theorem WE_callIO {x y : Str} {np yp pos : Pos} {rest : List Expr} {Q : MV → Vars → Prop}
    (h : WE G C (.Name x np) σ (fun fv σ₁ => ∃ f a xs, fv = .raw (.ref f) ∧ FnF C.Fs f ∧ σ₁.get y = some (.own a xs) ∧
      WA G C rest σ₁ (fun vs σ₂ => ∃ xs₂, σ₂.get y = some (.own a xs₂) ∧ CallIOK G C.k C.Fs (.ref f) xs₂ vs (fun v xs' => Q v (σ₂.set y (.own a xs'))))))
    (he : ∀ env, starEach (.Name y yp :: rest) env = (false, eval (.Name y yp) env) :: starEach rest env := by intro _; rfl) (hplain : ∀ env, (backTo pos (starEach rest env)).any (·.1) = false := by intro _; rfl)
    (hd : (y == ("__debug__" : Str)) = false := by decide) (hn : (y == ("__classdict__" : Str)) = false := by decide) :
    WE G C (.Call (.Name x np) (.Name y yp :: rest) [] pos) σ Q := .mk fun env A P tm F s p => by
  refine Call_Name rfl (h.thn p (fun fv s₁ mv σ₁ F₁ a₁ r₁ q₁ => ?_))
  obtain ⟨f, a, xs, rfl, hf, hy, hw⟩ := q₁
  cases r₁
  obtain ⟨ho, load⟩ := a₁.pre.own hy hn
  refine callWith_F (hf.at a₁.pre.fs a₁.pre.rep.base) (wpAny_items_cons (wpAny_Name (load _ _ ?_) hd) (he env)) (he env) (hplain env)
  refine hw.thn pos a₁.pre (fun vs s₂ xs' σ₂ F₂ a₂ r₂ q₂ => ⟨hf.at a₂.pre.fs a₂.pre.rep.base, ?_⟩)
  obtain ⟨xs₂, hy₂, k, hk, hc⟩ := q₂
  obtain ⟨ho₂, _⟩ := a₂.pre.own hy₂ hn
  exact hc.thn (a₂.pre.room.mono hk) a₂.pre.fs a₂.pre.rep.base a₂.pre.rep.ptab r₂ ho₂ (fun v s₃ mv xs' F' h' tk e' B st o' r q =>
    ⟨mv, _, F', (a₁.trans a₂).trans (e' ▸ a₂.pre.touch hy₂ B st o'), r, q⟩)

/-- a built-in function or type, called -/
structure CallB (G : GCtx) (C : SC) (f : Value) (xs : List MV) (σ : Vars) (Q : MV → Vars → Prop) : Prop where
  run : ∀ env A P tm F s vs, Pre G C env A P σ tm F s → VReps F xs vs → wpAny (model G.prog G.w) A (call f vs) (EP G C env A P s F tm Q) (fun _ _ => False) s
theorem CallB.go {env : Env} {A : Around} {P : Addr → Prop} {σ₁ : Vars} {tm : List (Addr × List MV)} {F F₁ : FMap} {s s₁ : Shared} {f : Value} {xs : List MV} {vs : List Value} {Q : MV → Vars → Prop} {E : Value → Shared → Prop} (h : CallB G C f xs σ₁ Q) (a : Aft G C env A P s F σ₁ tm F₁ s₁) (r : VReps F₁ xs vs) :
    wpAny (model G.prog G.w) A (call f vs) (EP G C env A P s F tm Q) E s₁ := wpAny_mono (h.run env A P tm F₁ s₁ vs a.pre r) (fun v s' x => x.rec fun mv σ' F' a' r q => ⟨mv, σ', F', a.trans a', r, q⟩) fun _ _ x => x.elim
noncomputable def IsBuilt : Value → Prop
  | .builtin _ => True
  | .type _ => True
  | _ => False
theorem eval_callBuilt {x : Str} {np pos : Pos} {e : Expr} {rest : List Expr} {R : Value → List MV → Vars → Prop} {K : Value → Shared → Prop} (p : Pre G C env A P σ tm F s)
    (h : WE G C (.Name x np) σ (fun fv σ₁ => ∃ f, fv = .raw f ∧ IsBuilt f ∧ WA G C (e :: rest) σ₁ (fun xs σ₂ => R f xs σ₂)))
    (he : ∀ env, starEach (e :: rest) env = (false, eval e env) :: starEach rest env) (hplain : ∀ env, (backTo pos (starEach rest env)).any (·.1) = false)
    (hK : ∀ f vs xs σ₂ F₂ s₂, Aft G C env A P s F σ₂ tm F₂ s₂ → VReps F₂ xs vs → R f xs σ₂ → wpAny (model G.prog G.w) A (call f vs) K (fun _ _ => False) s₂) :
    wpAny (model G.prog G.w) A (eval (.Call (.Name x np) (e :: rest) [] pos) env) K (fun _ _ => False) s := by
  refine Call_Name rfl (h.thn p (fun fv s₁ mv σ₁ F₁ a₁ r₁ q₁ => ?_))
  obtain ⟨f, e', hf, hw⟩ := q₁
  subst e'
  have ef : fv = f := r₁
  subst ef
  have hpl : (backTo pos (starEach (e :: rest) env)).any (·.1) = false := by rw [he env]; show (false || (backTo pos (starEach rest env)).any (·.1)) = false; rw [hplain]; rfl
  have ev : wpAny (model G.prog G.w) A (evalArgs fv true (backTo pos (starEach (e :: rest) env)) []) (fun a s₂ => wpAny (model G.prog G.w) A (call fv ([] ++ a.pos) a.kw) K (fun _ _ => False) s₂) (fun _ _ => False) s₁ := by
    have := hw.run env A P tm F₁ s₁ pos a₁.pre
    rw [he env] at this ⊢
    exact evalArgs_plain (wpAny_mono this (fun vs s₂ x => x.rec fun xs σ₂ F₂ a₂ r₂ q₂ => hK fv vs xs σ₂ F₂ s₂ (a₁.trans a₂) r₂ q₂) fun _ _ x => x)
  cases fv with
  | builtin id => exact Calls.callWith_builtin hpl ev
  | type T => exact PyProof.Rows.callWith_type hpl ev
  | _ => exact hf.elim

theorem WE_callB {x : Str} {np pos : Pos} {e : Expr} {rest : List Expr} {Q : MV → Vars → Prop}
    (h : WE G C (.Name x np) σ (fun fv σ₁ => ∃ f, fv = .raw f ∧ IsBuilt f ∧ WA G C (e :: rest) σ₁ (fun xs σ₂ => CallB G C f xs σ₂ Q)))
    (he : ∀ env, starEach (e :: rest) env = (false, eval e env) :: starEach rest env := by intro _; rfl) (hplain : ∀ env, (backTo pos (starEach rest env)).any (·.1) = false := by intro _; rfl) :
    WE G C (.Call (.Name x np) (e :: rest) [] pos) σ Q := .mk fun env A P tm F s p =>
  eval_callBuilt p h he hplain fun _ _ _ _ _ _ a₂ r₂ hc => hc.go a₂ r₂

theorem CallB_len {xs : List MV} {Q : MV → Vars → Prop} (hz : xs.length < 2 ^ 62) (h : Q (.int xs.length) σ) : CallB G C (.builtin "len") [.list xs] σ Q := .mk fun env A P tm F s vs p r => by
  obtain ⟨v, rfl, rv⟩ := r.one
  obtain ⟨a, us, rfl, hl, hu⟩ := rv.list p.rep.base.sub
  refine Calls.call_len_list hl (by simp [hu.length]; omega) ⟨.int xs.length, σ, F, p.mkToks _, ?_, h⟩
  have e : us.toArray.size = xs.length := by simp [hu.length]
  rw [e]; exact VRep_int
theorem CallB_abs {i : Int} {Q : MV → Vars → Prop} (h : Q (.int (if i < 0 then -i else i)) σ) : CallB G C (.builtin "abs") [.int i] σ Q := .mk fun env A P tm F s vs p r => by
  obtain ⟨v, rfl, rv⟩ := r.one
  obtain ⟨t, rfl⟩ := rv
  exact call_abs_int fun u tk => ⟨_, σ, F, p.mkToks _, VRep_int, h⟩
theorem CallB_int {i : Int} {Q : MV → Vars → Prop} (h : Q (.int i) σ) : CallB G C (.type "int") [.int i] σ Q := .mk fun env A P tm F s vs p r => by
  obtain ⟨v, rfl, rv⟩ := r.one
  obtain ⟨t, rfl⟩ := rv
  exact PySem.call_int_int ⟨_, σ, F, .refl p, VRep_int, h⟩

/-- len of an own list: it is not frozen -/
theorem WE_len_own {x y : Str} {np yp pos : Pos} {Q : MV → Vars → Prop}
    (h : WE G C (.Name x np) σ (fun fv σ₁ => ∃ a xs, fv = .raw (.builtin "len") ∧ σ₁.get y = some (.own a xs) ∧ xs.length < 2 ^ 62 ∧ Q (.int xs.length) σ₁))
    (he : ∀ env, starEach [.Name y yp] env = [(false, eval (.Name y yp) env)] := by intro _; rfl) (hd : (y == ("__debug__" : Str)) = false := by decide) (hn : (y == ("__classdict__" : Str)) = false := by decide) :
    WE G C (.Call (.Name x np) [.Name y yp] [] pos) σ Q := .mk fun env A P tm F s p => by
  refine Call_Name rfl (h.thn p (fun fv s₁ mv σ₁ F₁ a₁ r₁ q₁ => ?_))
  obtain ⟨a, xs, rfl, hy, hz, q⟩ := q₁
  cases r₁
  obtain ⟨ho, load⟩ := a₁.pre.own hy hn
  rw [he env]
  refine Calls.callWith_builtin rfl (evalArgs_plain (spliced_cons (wpAny_Name (load _ _ (spliced_nil ?_)) hd)))
  obtain ⟨us, hl, hu⟩ := ho.l
  refine Calls.call_len_list hl.isList (by simp [hu.length]; omega) ⟨.int xs.length, σ₁, F₁, a₁.trans (a₁.pre.mkToks _), ?_, q⟩
  have e : us.toArray.size = xs.length := by simp [hu.length]
  rw [e]; exact VRep_int

inductive BitP (Q : MV → Vars → Prop) (σ : Vars) (x : MV) : Prop
  | mk (i : Int) (ex : x = .int i) (q : Q (.int (Builtin.Int.intBits i)) σ)
theorem WE_bitlen {e : Expr} {apos pos : Pos} {Q : MV → Vars → Prop} (h : WE G C e σ (fun v σ₁ => BitP Q σ₁ v))
    (hbase : ∀ env, attributeBase e "bit_length" env (eval e env) = eval e env := by intro _; rfl) (hline : (apos.endLine == pos.line) = true := by rfl) :
    WE G C (.Call (.Attribute e "bit_length" apos) [] [] pos) σ Q := .mk fun env A P tm F s p => by
  refine wpAny_Call_method (hbase env) rfl hline PySem.F.plainAttrs_int PySem.F.slot_int_bit_length PySem.F.type_int_bit_length (h.thn p (fun fv s₁ mv σ₁ F₁ a₁ r₁ q₁ => ?_))
  obtain ⟨i, rfl, q⟩ := q₁
  obtain ⟨t, rfl⟩ := r₁
  refine ⟨typeIs_int _ _ _, nofun, PyProof.Rows.callWith_method0 ?_⟩
  exact call_int_bit_length ⟨_, σ₁, F₁, a₁.trans (a₁.pre.mkToks _), VRep_int, q⟩
end
end Mine
end
section
open PySem PySem.W PySem.Calls PyProof.Rows
namespace Mine

section
variable {G : GCtx} {C : SC} {env : Env} {A : Around} {P : Addr → Prop} {σ : Vars} {tm tm' : List (Addr × List MV)} {F F' : FMap} {s : Shared}

/-! ### items and slices -/
/-- a plain index -/
noncomputable def PlainIdx (slice : Expr) : Prop := ∀ l k u, subscripted slice false (.ref l) (.int k u) = operate [.ref l, .int k u] (getItem (.ref l) (.int k u))
theorem itemAt {value slice : Expr} {l : Addr} {vs : List Value} {xs : List MV} {k : Int} {u : Tok} {x : MV} {Q : Value → Shared → Prop} {E : Value → Shared → Prop} (hs : PlainIdx slice)
    (hl : s.heap.IsList l vs.toArray) (hv : VReps F xs vs) (h0 : 0 ≤ k) (hk : k < 2 ^ 62) (hx : xs[k.toNat]? = some x) (h : ∀ v, VRep F x v → Q v s) :
    wpAny (model G.prog G.w) A (subscriptTail value slice (.ref l) (.int k u)) Q E s := by
  obtain ⟨v, e, r⟩ := hv.get _ _ hx
  exact tail_any hl.typeIs slot_list_getitem.lookup (wpAny_getItem_list hl h0 (by omega) (by simpa using e) (h v r)) (hs l k u)
inductive ItemP (Q : MV → Vars → Prop) (σ : Vars) (v i : MV) : Prop
  | mk (xs : List MV) (k : Int) (x : MV) (ev : v = .list xs) (ei : i = .int k) (hk : 0 ≤ k ∧ k < 2 ^ 62) (hx : xs[k.toNat]? = some x) (q : Q x σ)
inductive ItemO (y : Str) (a : Addr) (Q : MV → Vars → Prop) (σ : Vars) (i : MV) : Prop
  | mk (xs : List MV) (k : Int) (x : MV) (hy : σ.get y = some (.own a xs)) (ei : i = .int k) (hk : 0 ≤ k ∧ k < 2 ^ 62) (hx : xs[k.toNat]? = some x) (q : Q x σ)
inductive ItemN (Q : MV → Vars → Prop) (σ : Vars) (v i : MV) : Prop
  | mk (xs : List MV) (k : Int) (x : MV) (ev : v = .list xs) (ei : i = .int k) (hk : k < 0 ∧ -(xs.length : Int) ≤ k ∧ xs.length < 2 ^ 62) (hx : xs[(k + xs.length).toNat]? = some x) (q : Q x σ)
inductive UptoP (Q : Addr → List MV → Vars → Prop) (σ : Vars) (v i : MV) : Prop
  | mk (xs : List MV) (k : Int) (ev : v = .list xs) (ei : i = .int k) (hk : 0 ≤ k) (hz : xs.length ≤ 1000000) (q : ∀ a, Q a (xs.take k.toNat) σ)
inductive AllP (Q : Addr → List MV → Vars → Prop) (σ : Vars) (v : MV) : Prop
  | mk (xs : List MV) (ev : v = .list xs) (hz : xs.length ≤ 1000000) (q : ∀ a, Q a xs σ)
inductive RevP (Q : Addr → List MV → Vars → Prop) (σ : Vars) (v i : MV) : Prop
  | mk (xs : List MV) (ev : v = .list xs) (ei : i = .int (-1)) (hz : xs.length ≤ 1000000) (q : ∀ a, Q a xs.reverse σ)
inductive ListP (Q : Addr → List MV → Vars → Prop) (σ : Vars) (xs : List MV) : Prop
  | mk (hz : xs.length ≤ 1000000) (q : ∀ a, Q a xs σ)
inductive AddP (Q : Addr → List MV → Vars → Prop) (σ : Vars) (x y : MV) : Prop
  | mk (xs ys : List MV) (ex : x = .list xs) (ey : y = .list ys) (hz : xs.length + ys.length ≤ 1000000) (q : ∀ a, Q a (xs ++ ys) σ)
inductive MulP (Q : Addr → List MV → Vars → Prop) (σ : Vars) (x y : MV) : Prop
  | mk (x₁ : MV) (k : Int) (ex : x = .list [x₁]) (ey : y = .int k) (hk : 0 ≤ k ∧ k ≤ 1000000) (q : ∀ a, Q a (List.replicate k.toNat x₁) σ)
theorem WE_item {value slice : Expr} {pos : Pos} {Q : MV → Vars → Prop}
    (h : WE G C value σ (fun v σ₁ => WE G C slice σ₁ (fun i σ₂ => ItemP Q σ₂ v i)))
    (hs : PlainIdx slice := by intro _ _ _; with_unfolding_all rfl) : WE G C (.Subscript value slice pos) σ Q := .mk fun env A P tm F s p =>
  Subscript_ (h.thn p (fun v s₁ mv σ₁ F₁ a₁ r₁ q₁ => q₁.thn a₁.pre (fun i s₂ mi σ₂ F₂ a₂ r₂ q₂ => by
    obtain ⟨xs, k, x, rfl, rfl, hk, hx, q⟩ := q₂
    obtain ⟨l, vs, rfl, hl, hv⟩ := (r₁.mono a₂.step.mono).list a₂.pre.rep.base.sub
    obtain ⟨u, rfl⟩ := r₂
    exact itemAt hs hl hv hk.1 hk.2 hx fun v r => ⟨x, σ₂, F₂, a₁.trans a₂, r, q⟩)))
/-- an item of an own list: it is not frozen -/
theorem WE_item_own {y : Str} {yp pos : Pos} {slice : Expr} {a : Addr} {xs : List MV} {Q : MV → Vars → Prop} (hy : σ.get y = some (.own a xs))
    (h : WE G C slice σ (fun i σ₂ => ItemO y a Q σ₂ i))
    (hs : PlainIdx slice := by intro _ _ _; with_unfolding_all rfl) (hd : (y == ("__debug__" : Str)) = false := by decide) (hn : (y == ("__classdict__" : Str)) = false := by decide) : WE G C (.Subscript (.Name y yp) slice pos) σ Q := .mk fun env A P tm F s p => by
  obtain ⟨ho, load⟩ := p.own hy hn
  refine Subscript_ (wpAny_Name (load _ _ ?_) hd)
  refine h.thn p (fun i s₂ mi σ₂ F₂ a₂ r₂ q₂ => ?_)
  obtain ⟨xs₂, k, x, hy₂, rfl, hk, hx, q⟩ := q₂
  obtain ⟨ho₂, _⟩ := a₂.pre.own hy₂ hn
  obtain ⟨vs, hl, hv⟩ := ho₂.l
  obtain ⟨u, rfl⟩ := r₂
  exact itemAt hs hl.isList hv hk.1 hk.2 hx fun v r => ⟨x, σ₂, F₂, a₂, r, q⟩
theorem WE_item_neg {value slice : Expr} {pos : Pos} {Q : MV → Vars → Prop}
    (h : WE G C value σ (fun v σ₁ => WE G C slice σ₁ (fun i σ₂ => ItemN Q σ₂ v i)))
    (hs : PlainIdx slice := by intro _ _ _; with_unfolding_all rfl) : WE G C (.Subscript value slice pos) σ Q := .mk fun env A P tm F s p =>
  Subscript_ (h.thn p (fun v s₁ mv σ₁ F₁ a₁ r₁ q₁ => q₁.thn a₁.pre (fun i s₂ mi σ₂ F₂ a₂ r₂ q₂ => by
    obtain ⟨xs, k, x, rfl, rfl, ⟨h1, h2, h3⟩, hx, q⟩ := q₂
    obtain ⟨l, vs, rfl, hl, hv⟩ := (r₁.mono a₂.step.mono).list a₂.pre.rep.base.sub
    obtain ⟨u, rfl⟩ := r₂
    obtain ⟨v, e, r⟩ := hv.get _ _ hx
    have hz : vs.toArray.size = xs.length := by simp [hv.length]
    exact tail_any hl.typeIs slot_list_getitem.lookup (wpAny_getItem_list_neg hl h1 (by rw [hz]; exact h2) (by omega) (by rw [hz]; simpa using e) ⟨x, σ₂, F₂, a₁.trans a₂, r, q⟩) (hs l k u))))

theorem pickTake (vs : List Value) (k : Nat) : slicePick vs.toArray none (some (k : Int)) none = (vs.take k).toArray := by
  rw [slicePick_upto']
theorem WF_upto {value e : Expr} {p₁ pos : Pos} {Q : Addr → List MV → Vars → Prop}
    (h : WE G C value σ (fun v σ₁ => WE G C e σ₁ (fun i σ₂ => UptoP Q σ₂ v i)))
    (ht : ∀ o r, letTemporaryGo value o r = pure () := by intro _ _; rfl) : WF G C (.Subscript value (.Slice none (some e) none p₁) pos) σ Q := .mk fun env A P tm F s p =>
  wpAny_Subscript_list_slice (h.thn p (fun v s₁ mv σ₁ F₁ a₁ r₁ q₁ => wpAny_pure (q₁.thn a₁.pre (fun i s₂ mi σ₂ F₂ a₂ r₂ q₂ => by
    obtain ⟨xs, k, rfl, rfl, hk, hz, q⟩ := q₂
    obtain ⟨l, vs, rfl, hl, hv⟩ := (r₁.mono a₂.step.mono).list a₂.pre.rep.base.sub
    obtain ⟨u, rfl⟩ := r₂
    obtain ⟨j, rfl⟩ := Int.eq_ofNat_of_zero_le hk
    refine ⟨l, vs.toArray, none, some (j : Int), rfl, hl, by rw [sizeLine_eq]; simp [hv.length]; omega, .none, .int _ _, ?_⟩
    have e := pickTake vs j
    have := a₂.pre.newList (h1 := s₂.heap.push { cls := .type "slice", data := .fields #[.none, .int j u, .none] }) (fun a o e => Heap.get?_push_of_some _ e) (n := 0) (tk := s₂.toks) (xs := xs.take j) (vs := slicePick vs.toArray none (some (j : Int)) none) (by rw [e]; simpa using hv.take j)
    rw [Heap.size_push] at this
    exact ⟨_, _, σ₂, F₂, rfl, (a₁.trans a₂).trans this, q _⟩)))) ht
theorem WF_all {value : Expr} {p₁ pos : Pos} {Q : Addr → List MV → Vars → Prop}
    (h : WE G C value σ (fun v σ₁ => AllP Q σ₁ v))
    (ht : ∀ o r, letTemporaryGo value o r = pure () := by intro _ _; rfl) : WF G C (.Subscript value (.Slice none none none p₁) pos) σ Q := .mk fun env A P tm F s p =>
  wpAny_Subscript_list_slice (h.thn p (fun v s₁ mv σ₁ F₁ a₁ r₁ q₁ => wpAny_pure (wpAny_pure (by
    obtain ⟨xs, rfl, hz, q⟩ := q₁
    obtain ⟨l, vs, rfl, hl, hv⟩ := r₁.list a₁.pre.rep.base.sub
    refine ⟨l, vs.toArray, none, none, rfl, hl, by rw [sizeLine_eq]; simp [hv.length]; omega, .none, .none, ?_⟩
    have := a₁.pre.newList (h1 := s₁.heap.push { cls := .type "slice", data := .fields #[.none, .none, .none] }) (fun a o e => Heap.get?_push_of_some _ e) (n := 0) (tk := s₁.toks) (xs := xs) (vs := slicePick vs.toArray none none none) (by rw [slicePick_all]; simpa using hv)
    rw [Heap.size_push] at this
    exact ⟨_, _, σ₁, F₁, rfl, a₁.trans this, q _⟩)))) ht
theorem WF_rev {value e : Expr} {p₁ pos : Pos} {Q : Addr → List MV → Vars → Prop}
    (h : WE G C value σ (fun v σ₁ => WE G C e σ₁ (fun i σ₂ => RevP Q σ₂ v i)))
    (ht : ∀ o r, letTemporaryGo value o r = pure () := by intro _ _; rfl) : WF G C (.Subscript value (.Slice none none (some e) p₁) pos) σ Q := .mk fun env A P tm F s p =>
  wpAny_Subscript_Slice_step (T := "list") list_getitem_lookup (h.thn p (fun v s₁ mv σ₁ F₁ a₁ r₁ q₁ => wpAny_Slice (wpAny_pure (wpAny_pure (q₁.thn a₁.pre (fun i s₂ mi σ₂ F₂ a₂ r₂ q₂ => by
    obtain ⟨xs, rfl, rfl, hz, q⟩ := q₂
    obtain ⟨l, vs, rfl, hl, hv⟩ := (r₁.mono a₂.step.mono).list a₂.pre.rep.base.sub
    obtain ⟨u, rfl⟩ := r₂
    refine ⟨(hl.push _).typeIs, wpAny_getItem_list_slice (hl.push _) (Heap.IsSliceOf.new ..) .none .none (.int _ _) (by decide) ?_ (by rw [sizeLine_eq]; simp [hv.length]; omega)⟩
    have := a₂.pre.newList (h1 := s₂.heap.push { cls := .type "slice", data := .fields #[.none, .none, .int (-1) u] }) (fun a o e => Heap.get?_push_of_some _ e) (n := 0) (tk := s₂.toks) (xs := xs.reverse) (vs := slicePick vs.toArray none none (some (-1))) (by rw [krv_pick]; simpa using hv.reverse)
    exact ⟨_, _, σ₂, F₂, rfl, (a₁.trans a₂).trans this, q _⟩)))))) ht

/-! ### new lists -/
theorem WF_list {es : List Expr} {pos : Pos} {Q : Addr → List MV → Vars → Prop} (h : WA G C es σ (fun xs σ₁ => ListP Q σ₁ xs)) : WF G C (.List es pos) σ Q := .mk fun env A P tm F s p =>
  wpAny_List (h.thn pos p (fun vs s₁ xs σ₁ F₁ a₁ r₁ hq => by
    obtain ⟨hz, q⟩ := hq
    have := a₁.pre.newList (h1 := s₁.heap) (fun a o e => e) (n := 0) (tk := s₁.toks) (xs := xs) (vs := vs.toArray) (by simpa using r₁)
    exact ⟨by rw [r₁.length, sizeLine_eq]; omega, _, xs, σ₁, F₁, rfl, a₁.trans this, q _⟩))
theorem WF_addlists {l r : Expr} {pos : Pos} {Q : Addr → List MV → Vars → Prop}
    (h : WE G C l σ (fun x σ₁ => WE G C r σ₁ (fun y σ₂ => AddP Q σ₂ x y))) : WF G C (.BinOp l .Add r pos) σ Q := .mk fun env A P tm F s p =>
  wpAny_BinOp (h.thn p (fun v s₁ mv σ₁ F₁ a₁ r₁ q₁ => q₁.thn a₁.pre (fun u s₂ mu σ₂ F₂ a₂ r₂ q₂ => by
    obtain ⟨xs, ys, rfl, rfl, hz, q⟩ := q₂
    obtain ⟨a, vs, rfl, ⟨⟨cls, dd, data, sl⟩, ho, hc, n, hd⟩, hv⟩ := (r₁.mono a₂.step.mono).list a₂.pre.rep.base.sub
    obtain ⟨b, us, rfl, ⟨⟨cls2, dd2, data2, sl2⟩, ho2, hc2, n2, hd2⟩, hu⟩ := r₂.list a₂.pre.rep.base.sub
    simp only at hc hd hc2 hd2
    subst hc hd hc2 hd2
    refine concat_meets ⟨_, ho, rfl⟩ ⟨_, ho2, rfl⟩ noFill_list_add seq_list_add PySem.F.slot_list_add PySem.F.entry_list_add (PySem.F.args_list_add_2 _ _)
      (list_addW a b vs.toArray us.toArray n n2 dd dd2 sl sl2 (by rw [sizeLine_eq]; simp [hv.length, hu.length]; omega)) ⟨ho, ho2, ?_⟩
    have := a₂.pre.newList (h1 := s₂.heap) (fun a o e => e) (n := 0) (tk := s₂.toks) (xs := xs ++ ys) (vs := vs.toArray ++ us.toArray) (by simpa using hv.append hu)
    exact ⟨_, _, σ₂, F₂, rfl, (a₁.trans a₂).trans this, q _⟩)))
theorem VReps.replicate {x : MV} {v : Value} (h : VRep F x v) : ∀ n, VReps F (List.replicate n x) (List.replicate n v)
  | 0 => VReps.nil
  | n + 1 => by rw [List.replicate_succ, List.replicate_succ]; exact VReps.cons h (VReps.replicate h n)
theorem flatten_rep1 (v : Value) : ∀ n, (List.replicate n [v]).flatten = List.replicate n v
  | 0 => rfl
  | n + 1 => by rw [List.replicate_succ, List.flatten_cons, flatten_rep1 v n, List.replicate_succ]; rfl
/-- `[x] * n` -/
theorem WF_mullist {l r : Expr} {pos : Pos} {Q : Addr → List MV → Vars → Prop}
    (h : WE G C l σ (fun x σ₁ => WE G C r σ₁ (fun y σ₂ => MulP Q σ₂ x y))) : WF G C (.BinOp l .Mult r pos) σ Q := .mk fun env A P tm F s p =>
  wpAny_BinOp (h.thn p (fun v s₁ mv σ₁ F₁ a₁ r₁ q₁ => q₁.thn a₁.pre (fun w s₂ mu σ₂ F₂ a₂ r₂ q₂ => by
    obtain ⟨x₁, k, rfl, rfl, hk, q⟩ := q₂
    obtain ⟨l, vs, rfl, ⟨⟨cls, d, data, sl⟩, ho, hcl, n, hd⟩, hv⟩ := (r₁.mono a₂.step.mono).list a₂.pre.rep.base.sub
    rw [VReps] at hv
    obtain ⟨v, r', rfl, hx, hn⟩ := hv
    rw [VReps] at hn; subst hn
    obtain ⟨u, rfl⟩ := r₂
    simp only at hcl hd
    subst hcl hd
    refine wpAny_binaryOp_repeat_ref (T := "list") (U := "int") (by decide) ⟨_, ho, rfl⟩ (fun s' => typeIs_int s' k u) noFill_list_mul PySem.F.fills_int_mul PySem.F.slot_int_rmul repeat_list PySem.F.slot_int_index.lookup
      (call_meets PySem.F.slot_int_rmul (typeIs_int s₂ k u) PySem.F.entry_int_rmul (PySem.F.args_int_rmul_2 _ _) (lm_int_rmul_list_any k u l [v].toArray n d sl)
        ⟨ho, rfl, ⟨_, ho, rfl⟩, call_meets PySem.F.slot_list_mul ⟨_, ho, rfl⟩ PySem.F.entry_list_mul (PySem.F.args_list_mul_2 _ _)
          (lm_list_mul_any l [v].toArray n d sl k u (by simp [Builtin.List.listFitsIndex]; omega) (by simp; omega) (by simp [Builtin.List.listTooLong, sizeLine]; omega))
          ⟨ho, ?_⟩⟩)
    rw [listMul_foldl_if]
    have := a₂.pre.newList (h1 := s₂.heap) (fun a o e => e) (n := 0) (tk := s₂.toks) (xs := List.replicate k.toNat x₁) (vs := (List.replicate k.toNat [v].toArray.toList).flatten.toArray)
      (by show VReps _ _ (List.replicate k.toNat [v]).flatten; rw [flatten_rep1]; exact VReps.replicate hx _)
    exact ⟨_, _, σ₂, F₂, rfl, (a₁.trans a₂).trans this, q _⟩)))
end
end Mine
end
section
open PySem PySem.W PySem.Calls PyProof.Rows
namespace Mine

section
variable {G : GCtx} {C : SC} {env : Env} {A : Around} {P : Addr → Prop} {σ : Vars} {tm tm' : List (Addr × List MV)} {F F' : FMap} {s : Shared}

/-! ### stores -/
theorem W1_assign {x : Str} {px pos : Pos} {e : Expr} {Q : MFlow → Vars → Prop} (h : WE G C e σ (fun v σ₁ => Q .next (σ₁.set x v))) (hx : Storable C x)
    (hs : ∀ env, swapsWith e (some (.Name x px)) pos.line env = pure false := by intro _; rfl) : W1 G C (.Assign [.Name x px] e pos) σ Q := .mk fun env A P tm F s p =>
  wpAny_Assign_Name (h.thn p (fun v s₁ mv σ₁ F₁ a₁ r₁ q₁ => a₁.pre.storeT hx (.inl ⟨r₁, rfl⟩) (fun _ s₂ a₂ => ⟨.next, _, F₁, a₁.trans a₂, rfl, q₁⟩))) (hs env)
theorem W1_assignF {x : Str} {px pos : Pos} {e : Expr} {Q : MFlow → Vars → Prop} (h : WF G C e σ (fun a xs σ₁ => Q .next (σ₁.set x (.own a xs)))) (hx : Storable C x)
    (hs : ∀ env, swapsWith e (some (.Name x px)) pos.line env = pure false := by intro _; rfl) : W1 G C (.Assign [.Name x px] e pos) σ Q := .mk fun env A P tm F s p =>
  wpAny_Assign_Name (h.thn p (fun v s₁ a xs σ₁ F₁ e₁ a₁ q₁ => a₁.pre.storeT hx (.inr ⟨a, xs, rfl, e₁, rfl⟩) (fun _ s₂ a₂ => ⟨.next, _, F₁, a₁.trans a₂, rfl, q₁⟩))) (hs env)

/-- what an operation in place makes of two ints -/
structure InpSem (G : GCtx) (op : Operator) (a b c : Int) : Prop where
  run : ∀ (A : Around) (s : Shared) (t u : Tok) (Q : Value → Shared → Prop) (E : Value → Shared → Prop), Q (.int c s.toks) { s with toks := s.toks + 1 } → wpAny (model G.prog G.w) A (inplaceOp op (.int a t) (.int b u)) Q E s
theorem inp_add {a b : Int} : InpSem G .Add a b (a + b) := .mk fun _ _ _ _ _ _ k => by with_reducible exact PyProof.Rows.iadd_int k
theorem inp_sub {a b : Int} : InpSem G .Sub a b (a - b) := .mk fun _ _ _ _ _ _ k => by with_reducible exact PyProof.Rows.isub_int k
theorem inp_rshift {a b : Int} (h1 : 0 ≤ b) : InpSem G .RShift a b (a / 2 ^ b.toNat) := .mk fun _ _ _ _ _ _ k => by with_reducible exact irshift_int h1 (by rw [fdiv_pow2]; exact k)
theorem inp_or {a b : Int} : InpSem G .BitOr a b (Builtin.bitOr a b) := .mk fun _ _ _ _ _ _ k => by with_reducible exact ior_int k
inductive AugP (G : GCtx) (op : Operator) (a : Int) (x : Str) (Q : MFlow → Vars → Prop) (σ : Vars) (v : MV) : Prop
  | mk (b c : Int) (ev : v = .int b) (h : InpSem G op a b c) (q : Q .next (σ.set x (.int c)))
inductive SetI (y : Str) (a : Addr) (v : MV) (Q : MFlow → Vars → Prop) (σ : Vars) (i : MV) : Prop
  | mk (k : Int) (xs : List MV) (ei : i = .int k) (hy : σ.get y = some (.own a xs)) (hk : 0 ≤ k ∧ k < xs.length ∧ k < 2 ^ 62) (q : Q .next (σ.set y (.own a (xs.set k.toNat v))))
inductive AppP (y : Str) (a : Addr) (v : MV) (Q : MFlow → Vars → Prop) (σ : Vars) : Prop
  | mk (xs : List MV) (hy : σ.get y = some (.own a xs)) (hz : xs.length ≤ 1000000) (q : Q .next (σ.set y (.own a (xs ++ [v]))))
theorem W1_aug {x : Str} {px pos : Pos} {op : Operator} {e : Expr} {a : Int} {Q : MFlow → Vars → Prop} (h0 : σ.get x = some (.int a)) (h : WE G C e σ (fun v σ₁ => AugP G op a x Q σ₁ v)) (hx : Storable C x)
    (hn : (x == ("__classdict__" : Str)) = false := by decide) : W1 G C (.AugAssign (.Name x px) op e pos) σ Q := .mk fun env A P tm F s p => by
  obtain ⟨v, ⟨t, rfl⟩, hl⟩ := p.load h0 hn
  refine wpAny_AugAssign_Name (hl _ _ (h.thn p (fun v s₁ mv σ₁ F₁ a₁ r₁ q₁ => ?_)))
  obtain ⟨b, c, rfl, hop, q⟩ := q₁
  obtain ⟨u, rfl⟩ := r₁
  refine hop.run _ _ _ _ _ _ ?_
  have a₂ := a₁.trans (a₁.pre.mkToks (s₁.toks + 1))
  exact a₂.pre.storeT hx (.inl ⟨VRep_int (t := s₁.toks), rfl⟩) (fun _ s₂ a₃ => ⟨.next, _, F₁, a₂.trans a₃, rfl, q⟩)

/-- `y[i] = e`, y an own list -/
theorem setItem_plain {l : Addr} {items : Array Value} {k : Int} {t : Tok} {v : Value} {Q : Unit → Shared → Prop} {E : Value → Shared → Prop} (hl : PlainL s.heap l items) (h0 : 0 ≤ k) (hfit : k < 2 ^ 63) (hn : k < items.size)
    (hQ : ∀ h', PlainL h' l (items.setIfInBounds k.toNat v) → Heap.SameBut l s.heap h' → Q () { s with heap := h' }) :
    wpAny (model G.prog G.w) A (setItem (.ref l) (.int k t) v) Q E s := by
  obtain ⟨o, ne, ho, hc, hdn, hd⟩ := id hl
  have hT : s.TypeIs (.ref l) "list" := ⟨o, ho, hc⟩
  unfold setItem
  try with_reducible refine wpAny_holding ?_
  first | refine wpAny_bind (wpAny_pure ?_) | skip
  refine wpAny_bind (wpAny_sequenceKey hT (by decide) ?_)
  refine wpAny_bind (wpAny_callSpecial?_slot (name := Str.ofString "__setitem__") hT slot_list_setitem
    (wpAny_call_entry slot_list_setitem hT entry_list_setitem ?_ (args_list_setitem _ _ _)))
  show wpAny _ _ (Builtin.List.listSubscript? (.int k t) >>= _) _ _ s
  refine wpAny_bind (wpAny_listSubscript_int (fitsIndex_of h0 hfit) ?_)
  clear hfit
  obtain ⟨j, rfl⟩ := Int.eq_ofNat_of_zero_le h0
  have hj : j < items.size := by omega
  have hx' : items[j]? = some items[j] := Array.getElem?_eq_getElem hj
  show wpAny _ _ ((seqItemAt l j >>= fun r => pure (r.map (j, ·))) >>= _) _ _ s
  refine wpAny_bind (wpAny_bind (wpAny_seqItemAt ho hd (wpAny_pure ?_)))
  rw [hx']
  show wpAny _ _ (setSeqItemAt l j v >>= _) _ _ s
  obtain ⟨n', hd'⟩ := Obj.data_mapSeq hd (·.setIfInBounds j v)
  have hdn' : (Obj.mapSeq (·.setIfInBounds j v) o).dict = none := by
    obtain ⟨c, d, dt, sl⟩ := o
    simp only at hd hdn
    subst hd hdn
    rfl
  have hfin : PlainL (s.heap.update l (Obj.mapSeq (·.setIfInBounds j v))) l (items.setIfInBounds j v) :=
    ⟨_, n', Heap.get?_update_self _ ho (Obj.isFreed_of_seq hd'), (Obj.cls_mapSeq ..).trans hc, hdn', hd'⟩
  refine wpAny_bind (wpAny_setSeqItemAt ho hd ?_)
  first
    | exact wpAny_bind (wpAny_pure (wpAny_pure ⟨.none, rfl, wpAny_pure (hQ _ hfin (Heap.SameBut.update ..))⟩))
    | exact wpAny_pure ⟨.none, rfl, wpAny_pure (hQ _ hfin (Heap.SameBut.update ..))⟩

theorem Pre.change {x : Str} {a : Addr} {xs xs' : List MV} (p : Pre G C env A P σ tm F s) (hx : σ.get x = some (.own a xs)) {h' : Heap} {tk : Nat} (hs : Heap.SameBut a s.heap h') {vs : List Value} (hl : PlainL h' a vs.toArray) (hv : VReps F xs' vs) :
    Aft G C env A P s F (σ.set x (.own a xs')) tm F { s with heap := h', toks := tk } := by
  obtain ⟨m, hns, hvs⟩ := p.rep.vars
  obtain ⟨u, _, _, ho⟩ := hvs x _ hx
  have nt : a ≠ G.tp := fun q => p.rep.ptab (q ▸ ho.p)
  exact p.touch hx (p.rep.base.sameBut hs ho.f nt) ((Step.sameBut (P := fun b => s.heap.get? b = none ∨ b = a) (.inr rfl) hs)) ⟨ho.p, ho.f, vs, hl, hv⟩

theorem W1_setitem {y : Str} {yp ip pos : Pos} {idx value : Expr} {Q : MFlow → Vars → Prop}
    (h : WE G C value σ (fun v σ₁ => ∃ a xs, σ₁.get y = some (.own a xs) ∧ WE G C idx σ₁ (fun i σ₂ => SetI y a v Q σ₂ i)))
    (hs : ∀ env, swapsWith value (some (.Subscript (.Name y yp) idx ip)) pos.line env = pure false := by intro _; rfl)
    (hd : (y == ("__debug__" : Str)) = false := by decide) (hn : (y == ("__classdict__" : Str)) = false := by decide) : W1 G C (.Assign [.Subscript (.Name y yp) idx ip] value pos) σ Q := .mk fun env A P tm F s p =>
  wpAny_Assign_Subscript (h.thn p (fun v s₁ mv σ₁ F₁ a₁ r₁ q₁ => by
    obtain ⟨a, xs, hy, hi⟩ := q₁
    obtain ⟨ho, load⟩ := a₁.pre.own hy hn
    refine wpAny_Name (load _ _ (hi.thn a₁.pre (fun i s₂ mi σ₂ F₂ a₂ r₂ q₂ => ?_))) hd
    obtain ⟨k, xs₂, rfl, hy₂, ⟨h0, h1, h2⟩, q⟩ := q₂
    obtain ⟨u, rfl⟩ := r₂
    obtain ⟨ho₂, _⟩ := a₂.pre.own hy₂ hn
    obtain ⟨vs, hl, hv⟩ := ho₂.l
    refine setItem_plain hl h0 (by omega) (by simp [hv.length]; omega) fun h' hl' hs' => ?_
    have e' : vs.toArray.setIfInBounds k.toNat v = (vs.set k.toNat v).toArray := by simp
    rw [e'] at hl'
    exact ⟨.next, _, F₂, (a₁.trans a₂).trans (a₂.pre.change hy₂ (tk := s₂.toks) hs' hl' (hv.set (r₁.mono a₂.step.mono))), rfl, q⟩)) (hs env)

theorem PlainL_append {l : Addr} {items : Array Value} {x : Value} {Q : Value → Shared → Prop} {E : Value → Shared → Prop} (hl : PlainL s.heap l items) (hz : items.size ≤ sizeLine)
    (hQ : ∀ h', PlainL h' l (items.push x) → Heap.SameBut l s.heap h' → Q .none { s with heap := h' }) : wpAny (model G.prog G.w) A (call (.builtin "list.append") [.ref l, x]) Q E s := list_append_plainL hl hQ hz

theorem W1_append {y : Str} {yp apos pos pos' : Pos} {e : Expr} {a : Addr} {xs : List MV} {Q : MFlow → Vars → Prop} (hy : σ.get y = some (.own a xs))
    (h : WE G C e σ (fun v σ₁ => AppP y a v Q σ₁))
    (hi : ∀ env, env.scope.kind = .function → interactive env = false := by intro env h; simp [interactive, h]) (hs : ∀ env, swapsWith (.Call (.Attribute (.Name y yp) "append" apos) [e] [] pos) none pos'.line env = pure false := by intro _; rfl)
    (htrees : ∀ env, backTo pos (starEach [e] env) = [(false, eval e env)] := by intro _; rfl) (hbase : ∀ env, attributeBase (.Name y yp) "append" env (eval (.Name y yp) env) = eval (.Name y yp) env := by intro _; rfl)
    (hline : (apos.endLine == pos.line) = true := by rfl) (hfew : ∀ env, ((backTo pos (starEach [e] env)).all (fun x => !x.1) && (backToKw pos (keywordEach [] env)).all (fun x => x.1.isSome)
      && decide (([e] : List Expr).length + ([] : List Keyword).length + (if ([] : List Keyword).isEmpty then 0 else 1) < 30)) = true := by intro _; rfl)
    (hd : (y == ("__debug__" : Str)) = false := by decide) (hn : (y == ("__classdict__" : Str)) = false := by decide) :
    W1 G C (.Expr (.Call (.Attribute (.Name y yp) "append" apos) [e] [] pos) pos') σ Q := .mk fun env A P tm F s p => by
  obtain ⟨ho, load⟩ := p.own hy hn
  obtain ⟨vs, hl, hv⟩ := ho.l
  refine wpAny_Expr (wpAny_Call_append (hbase env) (hfew env) hline (htrees env) (wpAny_Name (load _ _ ⟨a, vs.toArray, rfl, hl, ?_⟩) hd)) (hi env p.rep.kind) (hs env)
  refine h.thn p (fun v s₁ mv σ₁ F₁ a₁ r₁ q₁ => ?_)
  obtain ⟨xs₂, hy₂, hz, q⟩ := q₁
  obtain ⟨ho₂, _⟩ := a₁.pre.own hy₂ hn
  obtain ⟨us, hl₂, hu⟩ := ho₂.l
  refine PlainL_append hl₂ (by rw [sizeLine_eq]; simp [hu.length]; omega) fun h' hl' hs' => ?_
  have e' : us.toArray.push v = (us ++ [v]).toArray := by simp
  rw [e'] at hl'
  exact ⟨.next, _, F₁, a₁.trans (a₁.pre.change hy₂ (tk := s₁.toks) hs' hl' (hu.append (VReps.cons r₁ VReps.nil))), rfl, q⟩
end
end Mine
end
section
open PySem PySem.W PySem.Calls PyProof.Rows
namespace Mine

section
variable {G : GCtx} {C : SC} {env : Env} {A : Around} {P : Addr → Prop} {σ : Vars} {tm tm' : List (Addr × List MV)} {F F' : FMap} {s : Shared}

/-! ### two or three names at once -/
noncomputable abbrev envAt (sc : Scope) : Env := { (default : Env) with scope := sc }
theorem swaps_scope {env : Env} {sc : Scope} (h : env.scope = sc) (ts : List Expr) (v : Expr) : swappedStores ts v env = swappedStores ts v (envAt sc) := by
  subst h; rfl

theorem grow_push {h h' : Heap} {o : Obj} (he : Heap.ExtBut (h.push o).objs.size (h.push o) h') : ∀ a o, h.get? a = some o → h'.get? a = some o := fun a o' e =>
  he a o' (by rw [Heap.size_push]; exact Nat.ne_of_lt (Nat.lt_succ_of_lt (Heap.lt_size e))) (Heap.get?_push_of_some _ e)

theorem W1_tup2 {x y : Str} {px py tp vp pos : Pos} {k k' : Nat} {e₁ e₂ : Expr} {Q : MFlow → Vars → Prop}
    (h : WE G C e₁ σ (fun v₁ σ₁ => WE G C e₂ σ₁ (fun v₂ σ₂ => Q .next ((σ₂.set y v₂).set x v₁)))) (hx : Storable C x) (hy : Storable C y)
    (hw : swappedStores [.Tuple [.Name x px, .Name y py] k tp] (.Tuple [e₁, e₂] k' vp) (envAt C.scope) = pure (some [x, y]))
    (he₁ : ∀ env, starEach [e₁, e₂] env = (false, eval e₁ env) :: starEach [e₂] env := by intro _; rfl) (he₂ : ∀ env, starEach [e₂] env = (false, eval e₂ env) :: starEach [] env := by intro _; rfl)
    (hs : ∀ env, swapsWithSole [.Tuple [.Name x px, .Name y py] k tp] (.Tuple [e₁, e₂] k' vp) pos.line env = pure false := by intro _; rfl) :
    W1 G C (.Assign [.Tuple [.Name x px, .Name y py] k tp] (.Tuple [e₁, e₂] k' vp) pos) σ Q := .mk fun env A P tm F s p => by
  refine Assign_Tuple_swapped ?_ (hs env) ((swaps_scope p.sc _ _).trans hw)
  refine wpAny_Tuple (wpAny_items_cons (h.thn p (fun v₁ s₁ m₁ σ₁ F₁ a₁ r₁ q₁ => wpAny_items_cons (q₁.thn a₁.pre (fun v₂ s₂ m₂ σ₂ F₂ a₂ r₂ q₂ => wpAny_items_nil ⟨by rw [sizeLine_eq]; simp, ?_⟩)) (he₂ env))) (he₁ env))
  refine unpackItems_tuple (items := [v₁, v₂].toArray) p.room.handled ⟨_, Heap.get?_push_size _ rfl, rfl, _, rfl⟩ fun h' he => ?_
  have a₃ := a₂.pre.grow' (tk := s₂.toks) (grow_push he)
  have r₁' := r₁.mono a₂.step.mono
  refine wpAny_bind (wpAny_holding (wpAny_bindName (a₃.pre.storeT hy (.inl ⟨r₂, rfl⟩) (fun _ s₄ a₄ => ?_))))
  refine wpAny_bind (wpAny_holding (wpAny_bindName (a₄.pre.storeT hx (.inl ⟨r₁', rfl⟩) (fun _ s₅ a₅ => wpAny_pure ?_))))
  exact ⟨.next, _, F₂, (((a₁.trans a₂).trans a₃).trans a₄).trans a₅, rfl, q₂⟩

theorem W1_tup2F {x y : Str} {px py tp vp pos : Pos} {k k' : Nat} {e₁ e₂ : Expr} {Q : MFlow → Vars → Prop}
    (h : WF G C e₁ σ (fun a xs σ₁ => WE G C e₂ σ₁ (fun v₂ σ₂ => Q .next ((σ₂.set y v₂).set x (.own a xs))))) (hx : Storable C x) (hy : Storable C y)
    (hw : swappedStores [.Tuple [.Name x px, .Name y py] k tp] (.Tuple [e₁, e₂] k' vp) (envAt C.scope) = pure (some [x, y]))
    (he₁ : ∀ env, starEach [e₁, e₂] env = (false, eval e₁ env) :: starEach [e₂] env := by intro _; rfl) (he₂ : ∀ env, starEach [e₂] env = (false, eval e₂ env) :: starEach [] env := by intro _; rfl)
    (hs : ∀ env, swapsWithSole [.Tuple [.Name x px, .Name y py] k tp] (.Tuple [e₁, e₂] k' vp) pos.line env = pure false := by intro _; rfl) :
    W1 G C (.Assign [.Tuple [.Name x px, .Name y py] k tp] (.Tuple [e₁, e₂] k' vp) pos) σ Q := .mk fun env A P tm F s p => by
  refine Assign_Tuple_swapped ?_ (hs env) ((swaps_scope p.sc _ _).trans hw)
  refine wpAny_Tuple (wpAny_items_cons (h.thn p (fun v₁ s₁ a xs σ₁ F₁ ev a₁ q₁ => wpAny_items_cons (q₁.thn a₁.pre (fun v₂ s₂ m₂ σ₂ F₂ a₂ r₂ q₂ => wpAny_items_nil ⟨by rw [sizeLine_eq]; simp, ?_⟩)) (he₂ env))) (he₁ env))
  subst ev
  refine unpackItems_tuple (items := [.ref a, v₂].toArray) p.room.handled ⟨_, Heap.get?_push_size _ rfl, rfl, _, rfl⟩ fun h' he => ?_
  have a₃ := a₂.pre.grow' (tk := s₂.toks) (grow_push he)
  refine wpAny_bind (wpAny_holding (wpAny_bindName (a₃.pre.storeT hy (.inl ⟨r₂, rfl⟩) (fun _ s₄ a₄ => ?_))))
  refine wpAny_bind (wpAny_holding (wpAny_bindName (a₄.pre.storeT hx (.inr ⟨a, xs, rfl, rfl, rfl⟩) (fun _ s₅ a₅ => wpAny_pure ?_))))
  exact ⟨.next, _, F₂, (((a₁.trans a₂).trans a₃).trans a₄).trans a₅, rfl, q₂⟩

theorem W1_tup3F {x y z : Str} {px py pz tp vp pos : Pos} {k k' : Nat} {e₁ e₂ e₃ : Expr} {Q : MFlow → Vars → Prop}
    (h : WF G C e₁ σ (fun a xs σ₁ => WE G C e₂ σ₁ (fun v₂ σ₂ => WE G C e₃ σ₂ (fun v₃ σ₃ => Q .next (((σ₃.set z v₃).set y v₂).set x (.own a xs)))))) (hx : Storable C x) (hy : Storable C y) (hz : Storable C z)
    (hw : swappedStores [.Tuple [.Name x px, .Name y py, .Name z pz] k tp] (.Tuple [e₁, e₂, e₃] k' vp) (envAt C.scope) = pure (some [x, y, z]))
    (he₁ : ∀ env, starEach [e₁, e₂, e₃] env = (false, eval e₁ env) :: starEach [e₂, e₃] env := by intro _; rfl) (he₂ : ∀ env, starEach [e₂, e₃] env = (false, eval e₂ env) :: starEach [e₃] env := by intro _; rfl)
    (he₃ : ∀ env, starEach [e₃] env = (false, eval e₃ env) :: starEach [] env := by intro _; rfl)
    (hs : ∀ env, swapsWithSole [.Tuple [.Name x px, .Name y py, .Name z pz] k tp] (.Tuple [e₁, e₂, e₃] k' vp) pos.line env = pure false := by intro _; rfl) :
    W1 G C (.Assign [.Tuple [.Name x px, .Name y py, .Name z pz] k tp] (.Tuple [e₁, e₂, e₃] k' vp) pos) σ Q := .mk fun env A P tm F s p => by
  refine Assign_Tuple_swapped ?_ (hs env) ((swaps_scope p.sc _ _).trans hw)
  refine wpAny_Tuple (wpAny_items_cons (h.thn p (fun v₁ s₁ a xs σ₁ F₁ ev a₁ q₁ => wpAny_items_cons (q₁.thn a₁.pre (fun v₂ s₂ m₂ σ₂ F₂ a₂ r₂ q₂ =>
    wpAny_items_cons (q₂.thn a₂.pre (fun v₃ s₃ m₃ σ₃ F₃ a₃ r₃ q₃ => wpAny_items_nil ⟨by rw [sizeLine_eq]; simp, ?_⟩)) (he₃ env))) (he₂ env))) (he₁ env))
  subst ev
  refine unpackItems_tuple (items := [.ref a, v₂, v₃].toArray) p.room.handled ⟨_, Heap.get?_push_size _ rfl, rfl, _, rfl⟩ fun h' he => ?_
  have a₄ := a₃.pre.grow' (tk := s₃.toks) (grow_push he)
  have r₂' := r₂.mono a₃.step.mono
  refine wpAny_bind (wpAny_holding (wpAny_bindName (a₄.pre.storeT hz (.inl ⟨r₃, rfl⟩) (fun _ s₅ a₅ => ?_))))
  refine wpAny_bind (wpAny_holding (wpAny_bindName (a₅.pre.storeT hy (.inl ⟨r₂', rfl⟩) (fun _ s₆ a₆ => ?_))))
  refine wpAny_bind (wpAny_holding (wpAny_bindName (a₆.pre.storeT hx (.inr ⟨a, xs, rfl, rfl, rfl⟩) (fun _ s₇ a₇ => wpAny_pure ?_))))
  exact ⟨.next, _, F₃, (((((a₁.trans a₂).trans a₃).trans a₄).trans a₅).trans a₆).trans a₇, rfl, q₃⟩

/-! ### while -/
noncomputable def loopPost (Q : MFlow → Vars → Prop) (I : Vars → Prop) : MFlow → Vars → Prop
  | .next, σ => I σ
  | .cont, σ => I σ
  | .brk, σ => Q .next σ
  | .ret v, σ => Q (.ret v) σ

theorem W1_while {test : Expr} {body : List Stmt} {pos : Pos} {Q : MFlow → Vars → Prop} (Inv : Nat → Vars → Prop) (n : Nat) (h0 : Inv n σ)
    (turn : ∀ n σ', Inv n σ' → WB G C test σ' (fun b σ'' => if b = true then WS G C body σ'' (loopPost Q (fun σ₃ => ∃ m, m < n ∧ Inv m σ₃)) else Q .next σ'')) :
    W1 G C (.While test body [] pos) σ Q := .mk fun env A P tm F s p =>
  wpAny_While (codeAny_whileLoop (fun n s' => ∃ σ' F', Aft G C env A P s F σ' tm F' s' ∧ Inv n σ') (fun n s₁ ⟨σ₁, F₁, a₁, hI⟩ =>
    (turn n σ₁ hI).thn a₁.pre (fun b s₂ σ₂ F₂ a₂ q₂ => by
      cases b with
      | true =>
        refine q₂.thn a₂.pre (fun f s₃ mf σ₃ F₃ a₃ r q => ?_)
        have a := (a₁.trans a₂).trans a₃
        cases mf with
        | next => cases r; obtain ⟨m, hm, hI'⟩ := q; exact ⟨m, hm, σ₃, F₃, a, hI'⟩
        | cont => cases r; obtain ⟨m, hm, hI'⟩ := q; exact ⟨m, hm, σ₃, F₃, a, hI'⟩
        | brk => cases r; exact ⟨.next, σ₃, F₃, a, rfl, q⟩
        | ret v => obtain ⟨u, rfl, r⟩ := r; exact ⟨.ret v, σ₃, F₃, a, ⟨u, rfl, r⟩, q⟩
      | false => exact wpAny_execs_nil ⟨.next, σ₂, F₂, a₁.trans a₂, rfl, q₂⟩)) n ⟨σ, F, .refl p, h0⟩)

/-! ### for -/
/-- the iterator's own objects may turn, the frame does not see it -/
theorem Pre.turnedTo {wr : List Addr} {P' : Addr → Prop} (p : Pre G C env A P σ tm F s) {h' : Heap} {tk : Nat} (hk : ∀ b o, b ∉ wr → s.heap.get? b = some o → h'.get? b = some o)
    (hw : ∀ b ∈ wr, ¬ P b ∧ F b = none ∧ b ≠ G.tp) (hc : ∀ n c, env.cells.lookup n = some c → c ∉ wr) (hp : ∀ a, P a → P' a) (htp : ¬ P' G.tp) (hx : ∀ b ∈ wr, P' b ∨ ∃ o, h'.get? b = some o) : Pre G C env A P' σ tm F { s with heap := h', toks := tk } := by
  obtain ⟨m, hns, hv⟩ := p.rep.vars
  have np : ∀ {b}, P b → b ∉ wr := fun hp hb => (hw _ hb).1 hp
  have R := p.rep
  have own' : ∀ {b ys}, OwnAt P F s.heap b ys → OwnAt P' F h' b ys := fun {b ys} o => ⟨hp _ o.p, o.f, let ⟨us, ⟨o', k, e, r⟩, hu⟩ := o.l; ⟨us, ⟨o', k, hk b o' (np o.p) e, r⟩, hu⟩⟩
  have cell' : ∀ {n c v}, env.cells.lookup n = some c → s.heap.IsCell c v → h'.IsCell c v := fun {n c v} l ⟨o, e, d⟩ => ⟨o, hk c o (hc n c l) e, d⟩
  have B : Base G F h' := ⟨R.base.ok, R.base.glob, fun a o e => hk a o (fun hb => by rw [(hw a hb).2.1] at e; cases e) (R.base.sub a o e), R.base.ftab, R.base.tab.mono (FMap.le.refl F) fun o e => hk _ o (fun hb => (hw _ hb).2.2 rfl) e⟩
  refine ⟨p.sc, p.room, p.fs, fun a e => ?_, ⟨B, htp, R.kind, R.glb, R.blt, hp _ R.plocals, R.flocals, fun n k => ?_, fun n c l => let ⟨v, x⟩ := R.cellex n c l; ⟨v, cell' l x⟩, R.cinj, ⟨m, hns.at' fun o e => hk _ o (np R.plocals) e, fun x mv e => ?_⟩, R.dist, R.tdist, fun t ht => own' (R.tms t ht), R.tmd⟩⟩
  · refine Classical.byContradiction fun hn => ?_
    cases q : s.heap.get? a with
    | none => exact hn (hp a (p.fresh a q))
    | some o =>
      have e' : h'.get? a = none := e
      by_cases hb : a ∈ wr
      · rcases hx a hb with h | ⟨o', e''⟩
        · exact hn h
        · rw [e''] at e'; cases e'
      · rw [hk a o hb q] at e'; cases e'
  · obtain ⟨c, l, q⟩ := R.cells n k
    exact ⟨c, l, fun w => ⟨hp _ (q w).1, (q w).2⟩⟩
  · obtain ⟨v, at', r⟩ := hv x mv e
    refine ⟨v, ?_, ?_⟩
    · rcases at' with r | ⟨k, c, l, hcell⟩
      · exact .inl r
      · exact .inr ⟨k, c, l, cell' l hcell⟩
    · cases mv with
      | own b ys => exact ⟨r.1, own' r.2⟩
      | _ => exact r
theorem Pre.turned {wr : List Addr} (p : Pre G C env A P σ tm F s) {h' : Heap} {tk : Nat} (hk : ∀ b o, b ∉ wr → s.heap.get? b = some o → h'.get? b = some o)
    (hw : ∀ b ∈ wr, ¬ P b ∧ F b = none ∧ b ≠ G.tp) (hc : ∀ n c, env.cells.lookup n = some c → c ∉ wr) (hx : ∀ b ∈ wr, ∃ o, h'.get? b = some o) : Pre G C env A P σ tm F { s with heap := h', toks := tk } :=
  p.turnedTo hk hw hc (fun _ h => h) p.rep.ptab fun b hb => .inr (hx b hb)

/-- the frame apart from some new objects -/
theorem Pre.guard {wr : List Addr} (p : Pre G C env A P σ tm F s) {h' : Heap} {tk : Nat} (hk : ∀ a o, s.heap.get? a = some o → h'.get? a = some o) (hn : ∀ b ∈ wr, s.heap.get? b = none) (hx : ∀ b ∈ wr, ∃ o, h'.get? b = some o) :
    Pre G C env A (fun a => P a ∧ a ∉ wr) σ tm F { s with heap := h', toks := tk } := by
  have g := (p.grow' (tk := tk) hk).pre
  have R := g.rep
  have ex : ∀ {b o}, s.heap.get? b = some o → b ∉ wr := fun e hb => by rw [hn _ hb] at e; cases e
  obtain ⟨m, hns, hv⟩ := p.rep.vars
  have own' : ∀ {b ys}, OwnAt P F s.heap b ys → OwnAt (fun a => P a ∧ a ∉ wr) F h' b ys := fun {b ys} o => by
    obtain ⟨p', f, us, ⟨o', k, e, r⟩, hu⟩ := o
    exact ⟨⟨p', ex e⟩, f, us, ⟨o', k, hk _ _ e, r⟩, hu⟩
  obtain ⟨oL, _, _, eL, _⟩ := id hns
  refine ⟨p.sc, p.room, p.fs, fun a e => ⟨?_, fun hb => ?_⟩, ⟨R.base, fun q => R.ptab q.1, R.kind, R.glb, R.blt, ⟨R.plocals, ex eL⟩, R.flocals, fun n k => ?_, R.cellex, R.cinj, ⟨m, hns.at' fun o e => hk _ o e, fun x mv e => ?_⟩, R.dist, R.tdist, fun t ht => own' (p.rep.tms t ht), R.tmd⟩⟩
  · refine p.fresh a ?_
    cases q : s.heap.get? a with
    | none => rfl
    | some o => have e' : h'.get? a = none := e; rw [hk a o q] at e'; cases e'
  · obtain ⟨o, q⟩ := hx a hb
    have e' : h'.get? a = none := e
    rw [q] at e'; cases e'
  · obtain ⟨c, l, q⟩ := R.cells n k
    obtain ⟨v, o, ec, _⟩ := p.rep.cellex n c l
    exact ⟨c, l, fun w => ⟨⟨(q w).1, ex ec⟩, (q w).2⟩⟩
  · obtain ⟨v, at', r⟩ := hv x mv e
    refine ⟨v, ?_, ?_⟩
    · rcases at' with r | ⟨k, c, l, o, ho, hd⟩
      · exact .inl r
      · exact .inr ⟨k, c, l, o, hk _ _ ho, hd⟩
    · cases mv with
      | own b ys => exact ⟨r.1, own' r.2⟩
      | _ => exact r
theorem OwnAt.widen {P P' : Addr → Prop} {h : Heap} {a : Addr} {xs : List MV} (x : OwnAt P' F h a xs) (hp : ∀ a, P' a → P a) : OwnAt P F h a xs := ⟨hp _ x.p, x.f, x.l⟩
theorem Pre.widen {P' : Addr → Prop} (p : Pre G C env A P' σ tm F s) (hp : ∀ a, P' a → P a) (ht : ¬ P G.tp) : Pre G C env A P σ tm F s := by
  have R := p.rep
  refine ⟨p.sc, p.room, p.fs, fun a e => hp a (p.fresh a e), ⟨R.base, ht, R.kind, R.glb, R.blt, hp _ R.plocals, R.flocals, fun n k => ?_, R.cellex, R.cinj, ?_, R.dist, R.tdist, fun t h => (R.tms t h).widen hp, R.tmd⟩⟩
  · obtain ⟨c, l, q⟩ := R.cells n k
    exact ⟨c, l, fun w => ⟨hp _ (q w).1, (q w).2⟩⟩
  · obtain ⟨m, hns, hv⟩ := R.vars
    refine ⟨m, hns, fun x mv e => ?_⟩
    obtain ⟨v, a, r⟩ := hv x mv e
    refine ⟨v, a, ?_⟩
    cases mv with
    | own b ys => exact ⟨r.1, r.2.widen hp⟩
    | _ => exact r

/-- what a loop runs over: single items -/
inductive WIP (G : GCtx) (C : SC) (env : Env) (A : Around) (P : Addr → Prop) (s : Shared) (F : FMap) (tm : List (Addr × List MV)) (K : List MV → Vars → Prop) (it : Value) (s₂ : Shared) : Prop
  | mk (items : List MV) (σ₂ : Vars) (F₂ : FMap) (sm : Shared) (I : Addr) (fp wr : List Addr) (Pi : Nat → Value → Prop) (St : Nat → Heap → Prop) (e : it = .ref I) (am : Aft G C env A P s F σ₂ tm F₂ sm)
      (es : ∃ h' tk, s₂ = { sm with heap := h', toks := tk }) (hk : ∀ a o, sm.heap.get? a = some o → s₂.heap.get? a = some o) (W : Walks G.prog G.w A I fp wr (List.length items) Pi St) (st0 : St 0 s₂.heap)
      (hPi : ∀ i v, Pi i v → ∃ mv, items[i]? = some mv ∧ VRep F₂ mv v) (hfp : ∀ b ∈ fp, b ∉ wr → ∃ o, F₂ b = some o) (hwr : ∀ b ∈ wr, sm.heap.get? b = none) (hex : ∀ i h, St i h → ∀ b ∈ wr, ∃ o, h.get? b = some o) (q : K items σ₂)
structure WI (G : GCtx) (C : SC) (e : Expr) (σ : Vars) (K : List MV → Vars → Prop) : Prop where
  run : ∀ env A P tm F s, Pre G C env A P σ tm F s →
    wpAny (model G.prog G.w) A (eval e env) (fun xv s₁ => wpAny (model G.prog G.w) A (pyIter xv) (WIP G C env A P s F tm K) (fun _ _ => False) s₁) (fun _ _ => False) s
end
end Mine
end
section
open PySem PySem.W PySem.Calls PyProof.Rows
namespace Mine

section
variable {G : GCtx} {C : SC} {env : Env} {A : Around} {P : Addr → Prop} {σ : Vars} {tm tm' : List (Addr × List MV)} {F F' : FMap} {s : Shared}

/-! ### what loops run over -/
theorem Walks.bounded {prog : Program} {w : World} {I : Addr} {fp wr : List Addr} {n : Nat} {Pi : Nat → Value → Prop} {St : Nat → Heap → Prop} (W : Walks prog w A I fp wr n Pi St) : Walks prog w A I fp wr n (fun i v => i < n ∧ Pi i v) St :=
  ⟨W.sub, W.frame, fun i s Q E hi st hQ => W.item i s Q E hi st fun v h' tk hp st' hk => hQ v h' tk ⟨hi, hp⟩ st' hk, W.done, W.self⟩

inductive LstP (K : List MV → Vars → Prop) (σ : Vars) (v : MV) : Prop
  | mk (xs : List MV) (ev : v = .list xs) (q : K xs σ)
theorem WI_list {e : Expr} {K : List MV → Vars → Prop} (h : WE G C e σ (fun v σ₁ => LstP K σ₁ v)) : WI G C e σ K := .mk fun env A P tm F s p =>
  h.thn p (fun v s₁ mv σ₁ F₁ a₁ r₁ q₁ => by
    obtain ⟨xs, rfl, q⟩ := q₁
    obtain ⟨a, o, vs, n, rfl, f, c, d, hv⟩ := r₁.listF
    have hl : s₁.heap.IsList a vs := ⟨o, a₁.pre.rep.base.sub _ _ f, c, n, d⟩
    have hlt : a < s₁.heap.objs.size := Heap.lt_size (a₁.pre.rep.base.sub _ _ f)
    refine wpAny_pyIter_list hl ?_
    have hlen : vs.size = xs.length := by have := hv.length; simpa using this
    have W := Walks.list (prog := G.prog) (w := G.w) p.room.handled s₁.heap.objs.size a (Nat.ne_of_lt hlt) vs
    rw [hlen] at W
    refine ⟨xs, σ₁, F₁, s₁, _, _, _, _, _, rfl, a₁, ⟨_, _, rfl⟩, fun a o e => Heap.get?_push_of_some _ e, W, ⟨⟨_, Heap.get?_push_size _ rfl, rfl, rfl⟩, hl.push _⟩, fun i v e => ?_, memc (fun hn => absurd (.head _) hn) (mem1 fun _ => ⟨o, f⟩), mem1 (new_none (Nat.le_refl _)), fun i h' st => mem1 (let ⟨o, e, _⟩ := st.1; ⟨o, e⟩), q⟩
    exact hv.get' i v (by simpa using e))

noncomputable def rng (a c : Int) (n : Nat) : List MV := (List.range n).map fun (i : Nat) => .int (a + (i : Int) * c)
theorem rng_length (a c : Int) (n : Nat) : (rng a c n).length = n := by simp [rng]
theorem rng_get {a c : Int} {n i : Nat} (h : i < n) : (rng a c n)[i]? = some (.int (a + (i : Int) * c)) := by simp [rng, h]

/-- the range object stands; its iterator -/
theorem range_iter {a b c : Int} {t u v : Tok} {r : Addr} {n : Nat} {K : List MV → Vars → Prop} {F₁ : FMap} {s₁ : Shared} {σ₁ : Vars} {h₁ : Heap} {tk : Nat} (a₁ : Aft G C env A P s F σ₁ tm F₁ s₁)
    (hk : ∀ a o, s₁.heap.get? a = some o → h₁.get? a = some o) (hr : IsRange h₁ r a b c t u v) (hsm : Builtin.Range.small a b c = true) (hn : Builtin.Range.rangeSize a b c = (n : Int)) (q : K (rng a c n) σ₁) :
    wpAny (model G.prog G.w) A (pyIter (.ref r)) (WIP G C env A P s F tm K) (fun _ _ => False) { s₁ with heap := h₁, toks := tk } := by
  refine wpAny_pyIter_range hr hsm ?_
  have W := Walks.bounded (Walks.range (prog := G.prog) (w := G.w) a₁.pre.room.handled h₁.objs.size a c n)
  rw [← rng_length a c n] at W
  refine ⟨rng a c n, σ₁, F₁, s₁, _, _, _, _, _, rfl, a₁, ⟨_, _, rfl⟩, fun a o e => Heap.get?_push_of_some _ (hk a o e), W, ?_, fun i v e => ?_, fun b hb hn => absurd hb hn, mem1 (none_end hk), fun i h' st => mem1 ⟨_, st⟩, q⟩
  · show IsRangeIter _ _ _ _ _
    rw [hn, rng_length]
    simpa using Heap.get?_push_size _ rfl
  · obtain ⟨hi, t, rfl⟩ := e
    rw [rng_length] at hi
    exact ⟨_, rng_get hi, VRep_int⟩

theorem WI_range1 {x : Str} {np pos : Pos} {e : Expr} {K : List MV → Vars → Prop}
    (h : WE G C (.Name x np) σ (fun fv σ₁ => ∃ f, fv = .raw f ∧ IsBuilt f ∧ WA G C [e] σ₁ (fun xs σ₂ => f = .type "range" ∧ ∃ n, xs = [.int n] ∧ (-(2 ^ 62) ≤ n ∧ n < 2 ^ 62) ∧ K (rng 0 1 n.toNat) σ₂)))
    (he : ∀ env, starEach [e] env = (false, eval e env) :: starEach [] env := by intro _; rfl) : WI G C (.Call (.Name x np) [e] [] pos) σ K := .mk fun env A P tm F s p =>
  eval_callBuilt p h he (fun _ => rfl) fun f vs xs σ₂ F₂ s₂ a₂ r₂ ⟨e1, n, e2, hn, q⟩ => by
    subst e1 e2
    obtain ⟨v, rfl, t, rfl⟩ := r₂.one
    refine call_range_1 ?_
    exact range_iter a₂ (fun a o e => Heap.get?_push_of_some _ e) (IsRange.new ..) (small_one (by decide) (by decide) hn.1 hn.2) (by rw [rangeSize_nat]; simp) q
theorem WI_range2 {x : Str} {np pos : Pos} {e₁ e₂ : Expr} {K : List MV → Vars → Prop}
    (h : WE G C (.Name x np) σ (fun fv σ₁ => ∃ f, fv = .raw f ∧ IsBuilt f ∧ WA G C [e₁, e₂] σ₁ (fun xs σ₂ => f = .type "range" ∧ ∃ a b, xs = [.int a, .int b] ∧ (-(2 ^ 62) ≤ a ∧ a < 2 ^ 62 ∧ -(2 ^ 62) ≤ b ∧ b < 2 ^ 62) ∧ K (rng a 1 (b - a).toNat) σ₂)))
    (he : ∀ env, starEach [e₁, e₂] env = (false, eval e₁ env) :: starEach [e₂] env := by intro _; rfl) (hp : ∀ env, (backTo pos (starEach [e₂] env)).any (·.1) = false := by intro _; rfl) : WI G C (.Call (.Name x np) [e₁, e₂] [] pos) σ K := .mk fun env A P tm F s p =>
  eval_callBuilt p h he hp fun f vs xs σ₂ F₂ s₂ a₂ r₂ ⟨e1, a, b, e2, hn, q⟩ => by
    subst e1 e2
    obtain ⟨_, _, rfl, ⟨t, rfl⟩, u, rfl⟩ := r₂.two
    refine call_range_2 ?_
    exact range_iter a₂ (fun a o e => Heap.get?_push_of_some _ e) (IsRange.new ..) (small_one hn.1 hn.2.1 hn.2.2.1 hn.2.2.2) (rangeSize_nat _ _) q
theorem small_up {a b c : Int} (ha : 0 ≤ a) (ha' : a < 2 ^ 61) (hb : 0 ≤ b) (hb' : b < 2 ^ 61) (hc : 0 < c) (hc' : c < 2 ^ 61) : Builtin.Range.small a b c = true := by
  unfold Builtin.Range.small
  have h1 : Builtin.Range.rangeSize a b c ≤ 2 ^ 61 ∧ 0 ≤ Builtin.Range.rangeSize a b c := by
    unfold Builtin.Range.rangeSize
    rw [if_pos hc]
    split
    · have h1 : (b - a - 1) / c ≤ b - a - 1 := Int.ediv_le_self _ (by omega)
      have h2 : 0 ≤ (b - a - 1) / c := Int.ediv_nonneg (by omega) (by omega)
      omega
    · omega
  simp only [Builtin.Range.rangeFitsLong, Bool.and_eq_true, Bool.or_eq_true, decide_eq_true_eq, beq_iff_eq, if_pos (show c > 0 from hc)]
  omega
/-- range(a, b, -1) and range(a, b, c) -/
theorem WI_range3 {x : Str} {np pos : Pos} {e₁ e₂ e₃ : Expr} {K : List MV → Vars → Prop}
    (h : WE G C (.Name x np) σ (fun fv σ₁ => ∃ f, fv = .raw f ∧ IsBuilt f ∧ WA G C [e₁, e₂, e₃] σ₁ (fun xs σ₂ => f = .type "range" ∧ ∃ a b c, xs = [.int a, .int b, .int c] ∧ (c ≠ 0 ∧ c.natAbs < 1073741824 ∧ Builtin.Range.small a b c = true) ∧ ∃ n : Nat, Builtin.Range.rangeSize a b c = n ∧ K (rng a c n) σ₂)))
    (he : ∀ env, starEach [e₁, e₂, e₃] env = (false, eval e₁ env) :: starEach [e₂, e₃] env := by intro _; rfl) (hp : ∀ env, (backTo pos (starEach [e₂, e₃] env)).any (·.1) = false := by intro _; rfl) : WI G C (.Call (.Name x np) [e₁, e₂, e₃] [] pos) σ K := .mk fun env A P tm F s p =>
  eval_callBuilt p h he hp fun f vs xs σ₂ F₂ s₂ a₂ r₂ ⟨e1, a, b, c, e2, hc, n, hn, q⟩ => by
    subst e1 e2
    obtain ⟨_, _, _, rfl, ⟨t, rfl⟩, ⟨u, rfl⟩, w, rfl⟩ := r₂.three
    refine call_range_3 hc.1 ?_ (.inl (PyProof.noPylong_small hc.2.1))
    exact range_iter a₂ (fun a o e => Heap.get?_push_of_some _ e) (IsRange.new ..) hc.2.2 hn q
end
end Mine
end
section
open PySem PySem.W PySem.Calls PyProof.Rows
namespace Mine

/-! ### entering a def -/
theorem bindL_not {kind : Str → Option NameKind} {x : Str} : ∀ {binds : List (Str × Value)} {m : Str → Option Value}, (∀ y ∈ binds, y.1 ≠ x) → bindL kind binds m x = m x
  | [], _, _ => rfl
  | (n, v) :: r, m, h => by
    rw [bindL, bindL_not fun y hy => h y (List.mem_cons_of_mem _ hy)]
    split
    · exact if_neg fun e => h (n, v) (List.mem_cons_self ..) (Eq.symm e)
    · rfl
theorem bindC_not {kind : Str → Option NameKind} {x : Str} : ∀ {binds : List (Str × Value)} {m : Str → Option Value}, (∀ y ∈ binds, y.1 ≠ x) → bindC kind binds m x = m x
  | [], _, _ => rfl
  | (n, v) :: r, m, h => by
    rw [bindC, bindC_not fun y hy => h y (List.mem_cons_of_mem _ hy)]
    split
    · rfl
    · exact if_neg fun e => h (n, v) (List.mem_cons_self ..) (Eq.symm e)
theorem bindL_at {kind : Str → Option NameKind} {x : Str} {v : Value} (hk : kind x = some .local) : ∀ {binds : List (Str × Value)} {m : Str → Option Value}, (binds.map (·.1)).Nodup → (x, v) ∈ binds → bindL kind binds m x = some v
  | (n, u) :: r, m, hn, hm => by
    obtain ⟨h1, h2⟩ := List.nodup_cons.mp (show (n :: r.map (·.1)).Nodup from hn)
    rcases List.mem_cons.mp hm with e | hm
    · cases e
      rw [bindL, bindL_not fun y hy e => h1 (List.mem_map.mpr ⟨y, hy, e⟩), if_pos hk]; exact if_pos rfl
    · rw [bindL]; exact bindL_at hk h2 hm
theorem bindC_at {kind : Str → Option NameKind} {x : Str} {v : Value} (hk : kind x ≠ some .local) : ∀ {binds : List (Str × Value)} {m : Str → Option Value}, (binds.map (·.1)).Nodup → (x, v) ∈ binds → bindC kind binds m x = some v
  | (n, u) :: r, m, hn, hm => by
    obtain ⟨h1, h2⟩ := List.nodup_cons.mp (show (n :: r.map (·.1)).Nodup from hn)
    rcases List.mem_cons.mp hm with e | hm
    · cases e
      rw [bindC, bindC_not fun y hy e => h1 (List.mem_map.mpr ⟨y, hy, e⟩), if_neg hk]; exact if_pos rfl
    · rw [bindC]; exact bindC_at hk h2 hm

theorem zip_get {F : FMap} : ∀ {ps : List Str} {args : List MV} {vs : List Value} {x : Str} {mv : MV}, VReps F args vs → Vars.get (ps.zip args) x = some mv → ∃ v, (x, v) ∈ ps.zip vs ∧ VRep F mv v
  | [], _, _, x, mv, _, h => by simp [Vars.get] at h
  | p :: ps, [], _, x, mv, _, h => by simp [Vars.get] at h
  | p :: ps, a :: args, vs, x, mv, hv, h => by
    rw [VReps] at hv
    obtain ⟨v, r, rfl, hx, hr⟩ := hv
    simp only [List.zip_cons_cons, Vars.get] at h
    split at h
    · rename_i e; subst e; cases h; exact ⟨v, by simp, hx⟩
    · obtain ⟨u, h1, h2⟩ := zip_get hr h
      exact ⟨u, by rw [List.zip_cons_cons]; exact List.mem_cons_of_mem _ h1, h2⟩

/-- the def's object, as the claim's head writes it out -/
structure DefAt (G : GCtx) (f : Addr) (fd : FuncData) (body : List Stmt) (ps : List Str) : Prop where
  obj : ∃ oc od sl, G.H0.get? f = some (⟨oc, od, .func fd, sl⟩ : Obj)
  code : G.H0.CodeRec fd.code fd.qualname
  body : fd.body = .stmts body
  glob : fd.globals = mainGlobals
  blt : fd.builtins = builtinsNs
  clos : fd.closure = []
  co : fd.scope.isCoroutine = false
  gen : fd.scope.isGenerator = false
  kind : fd.scope.kind = .function
  bind : ∀ vs : List Value, vs.length = ps.length → bindArgs fd ⟨vs, []⟩ = pure (ps.zip vs)
  nd : ps.Nodup
  loc : ∀ p ∈ ps, fd.scope.names.lookup p = some .local ∨ fd.scope.names.lookup p = some .cell
theorem DefAt.celln {G : GCtx} {f : Addr} {fd : FuncData} {body : List Stmt} {ps : List Str} (D : DefAt G f fd body ps) (n : Nat) (x : Str) (h : fd.scope.names.lookup x = some .cell) : ((cellsFrom n fd.scope.names []).lookup x).isSome = true := cellsFrom_some _ _ _ (.inl h)

section
variable {G : GCtx}

noncomputable def retV : MFlow → MV
  | .ret v => v
  | _ => .none
noncomputable def retP (Q : MV → Prop) : MFlow → Vars → Prop := fun mf _ => Q (retV mf)
noncomputable def flV : Flow → Value
  | .ret v => v
  | _ => .none
theorem FRep.val {F : FMap} {mf : MFlow} {fl : Flow} (r : FRep F mf fl) : VRep F (retV mf) (flV fl) := by
  cases mf with
  | ret v => obtain ⟨u, rfl, r⟩ := r; exact r
  | _ => cases r; rfl
theorem not_own {F : FMap} {a : Addr} {xs : List MV} {v : Value} (r : VRep F (.own a xs) v) : False := by rw [VRep] at r; exact r
theorem SRep.of {P : Addr → Prop} {F : FMap} {h : Heap} {mv : MV} {v : Value} (r : VRep F mv v) : SRep P F h mv v := by
  cases mv with
  | own a xs => exact (not_own r).elim
  | _ => exact r
theorem SRep.grow {P : Addr → Prop} {F : FMap} {h h' : Heap} {mv : MV} {v : Value} (r : SRep P F h mv v) (hk : ∀ a o, h.get? a = some o → h'.get? a = some o) : SRep P F h' mv v := by
  cases mv with
  | own a xs => exact ⟨r.1, r.2.p, r.2.f, let ⟨vs, ⟨o, n, e, q⟩, hv⟩ := r.2.l; ⟨vs, ⟨o, n, hk _ _ e, q⟩, hv⟩⟩
  | _ => exact r
theorem Base.tabIn {F : FMap} {h : Heap} (B : Base G F h) : ¬ h.get? G.tp = none := fun e => by
  obtain ⟨q, e', _⟩ := B.tab
  rw [e'] at e; cases e
theorem Base.fz {F : FMap} {h : Heap} (B : Base G F h) {a : Addr} (e : h.get? a = none) : F a = none := by
  cases q : F a with
  | none => rfl
  | some o => rw [B.sub _ _ q] at e; cases e
theorem keep_none {h h' : Heap} (hk : ∀ a o, h.get? a = some o → h'.get? a = some o) {a : Addr} (e : h'.get? a = none) : h.get? a = none := by
  cases q : h.get? a with
  | none => rfl
  | some o => rw [hk a o q] at e; cases e
theorem Room.deep {A : Around} {k : Nat} (R : Room A (k + 1)) (env : Env) : Room (A.deeper env) k :=
  ⟨R.handled, by have := R.depth; show A.depth + 1 + k < _; omega, by have := R.units; show A.units + 3 + 4 * k + 16 < _; omega⟩
/-- a def is entered: its frame stands -/
theorem DefAt.enter {k : Nat} {Fs : FMap} {f : Addr} {fd : FuncData} {body : List Stmt} {ps : List Str} (D : DefAt G f fd body ps) {A : Around} {F : FMap} {s : Shared} {vs : List Value} {σ : Vars} {P : Addr → Prop} (R : Room A (k + 1)) (hF : Fs.le F) (B : Base G F s.heap) (hl : vs.length = ps.length)
    (hP : ¬ P G.tp) (hPf : ∀ a, s.heap.get? a = none → P a) (hσ : ∀ x mv, σ.get x = some mv → ∃ v, (x, v) ∈ ps.zip vs ∧ SRep P F s.heap mv v) (hd : ∀ x y a xs ys, σ.get x = some (.own a xs) → σ.get y = some (.own a ys) → x = y) {K E : Value → Shared → Prop}
    (h : ∀ env h' tk', Pre G ⟨k, fd.scope, true, Fs⟩ env (A.deeper env) P σ [] F { s with heap := h', toks := tk' } → env.code = fd.code → env.qual = fd.qualname ++ ".<locals>." → (∀ a o, s.heap.get? a = some o → h'.get? a = some o) →
      wpAny (model G.prog G.w) (A.deeper env) (execs body env) (fun fl s₂ => K (flV fl) s₂) (fun _ _ => False) { s with heap := h', toks := tk' }) :
    wpAny (model G.prog G.w) A (call (.ref f) vs) K E s := by
  obtain ⟨oc, od, sl, ho⟩ := D.obj
  refine wpAny_call (codeAny_call_function (fd := fd) (body := body) (by have := R.depth; omega) (B.keep _ _ ho) rfl D.co D.gen D.body (D.code.keeps B.keep) ?_)
  rw [D.bind vs hl, D.clos]
  refine wpAny_pure (wpAny_newFunctionEnv_cells D.kind (fun x hx => ?_) fun env he s' X => ?_)
  · exact (D.loc _ (List.of_mem_zip (show (x.1, x.2) ∈ ps.zip vs from hx)).1).imp id fun e => ⟨e, D.celln _ _ e⟩
  obtain ⟨h', tk', rfl⟩ := X.toInCall.same
  have hk := X.toInCall.keep
  refine ⟨B.nolimit.keeps hk, codeAny_func ?_⟩
  subst he
  have hL : s.heap.get? s.heap.objs.size = none := none_end fun _ _ e => e
  have cN : ∀ {n c}, (cellsFrom (s.heap.objs.size + 1) fd.scope.names []).lookup n = some c → s.heap.get? c = none := fun {n c} l => new_none (Nat.le_of_lt (X.above n c (mem_of_lookup l)))
  have hnd : ((ps.zip vs).map (·.1)).Nodup := by rw [List.map_fst_zip (Nat.le_of_eq hl.symm)]; exact D.nd
  refine wpAny_mono (h _ _ _ ⟨rfl, R.deep _, hF, fun a e => hPf a (keep_none hk e), ⟨B.grow hk, hP, D.kind, D.glob, D.blt, hPf _ hL, B.fz hL, fun n kn => ?_, fun n c l => ⟨_, X.cell n c l⟩,
    fun n n' c l l' => name_of_addr X.apart (mem_of_lookup l) (mem_of_lookup l'), ⟨_, X.toInCall.ns, fun x mv e => ?_⟩, hd, fun x a xs e t ht => (nomatch ht), fun t ht => (nomatch ht), List.nodup_nil⟩⟩ rfl rfl hk) (fun fl s₂ q => ?_) fun _ _ x => x.elim
  · obtain ⟨c, l⟩ := Option.isSome_iff_exists.mp (D.celln (s.heap.objs.size + 1) n kn)
    exact ⟨c, l, fun _ => ⟨hPf _ (cN l), B.fz (cN l)⟩⟩
  · obtain ⟨v, hm, r⟩ := hσ x mv e
    refine ⟨v, ?_, r.grow hk⟩
    rcases D.loc x (List.of_mem_zip hm).1 with kl | kc
    · exact .inl ⟨kl, bindL_at kl hnd hm⟩
    · obtain ⟨c, l⟩ := Option.isSome_iff_exists.mp (D.celln (s.heap.objs.size + 1) x kc)
      have hc := X.cell x c l
      rw [bindC_at (by show fd.scope.names.lookup x ≠ _; rw [kc]; decide) hnd hm] at hc
      exact .inr ⟨.inl kc, c, l, hc⟩
  · exact q
theorem zip_rep {P : Addr → Prop} {F : FMap} {h : Heap} {ps : List Str} {args : List MV} {vs : List Value} (hv : VReps F args vs) (x : Str) (mv : MV) (e : Vars.get (ps.zip args) x = some mv) : ∃ v, (x, v) ∈ ps.zip vs ∧ SRep P F h mv v :=
  (zip_get hv e).imp fun _ q => ⟨q.1, .of q.2⟩
theorem zip_dist {F : FMap} {ps : List Str} {args : List MV} {vs : List Value} (hv : VReps F args vs) (x y : Str) (a : Addr) (xs ys : List MV) (e : Vars.get (ps.zip args) x = some (.own a xs)) (_ : Vars.get (ps.zip args) y = some (.own a ys)) : x = y :=
  let ⟨_, _, r⟩ := zip_get hv e
  (not_own r).elim
theorem WS.call {k : Nat} {Fs : FMap} {f : Addr} {fd : FuncData} {body : List Stmt} {ps : List Str} {args : List MV} {Q : MV → Prop} (D : DefAt G f fd body ps) (hlen : args.length = ps.length)
    (h : WS G ⟨k, fd.scope, true, Fs⟩ body (ps.zip args) (retP Q)) : CallOK G (k + 1) Fs (.ref f) args Q := .mk fun A F s vs R hF B hv =>
  D.enter R hF B (hv.length.trans hlen) B.tabIn (fun _ e => e) (zip_rep hv) (zip_dist hv) fun env h' tk' p _ _ hk => h.thn p fun fl s₂ mf σ' F' a r q =>
    let ⟨h₂, tk₂, e⟩ := a.rest
    ⟨retV mf, F', h₂, tk₂, e, (by rw [e] at a; exact a.pre.rep.base), (by rw [e] at a; exact (Step.grow hk).trans a.step), r.val, q⟩
end
end Mine
end
section
open PySem PySem.W PySem.Calls PyProof.Rows
namespace Mine
open AutoSeq1 (wpAny_loadPart')

/-! ### loops whose target is one name or two -/
noncomputable def StoreAll (M : Model) (A : Around) (E : Value → Shared → Prop) (env : Env) (Q : Shared → Prop) : List Str → List Value → Shared → Prop
  | x :: xs, v :: vs, s => wpAny M A (storeName env x v) (fun _ s' => StoreAll M A E env Q xs vs s') E s
  | _, _, s => Q s

noncomputable def Vars.setAll : Vars → List Str → List MV → Vars
  | σ, x :: xs, v :: vs => Vars.setAll (σ.set x v) xs vs
  | σ, _, _ => σ

structure IterT (prog : Program) (w : World) (A : Around) (tgt : Expr) (names : List Str) (I : Addr) (fp gd : List Addr) (n : Nat) (Pt : Nat → List Value → Prop) (St : Nat → Heap → Prop) : Prop where
  frame : ∀ i h h', St i h → (∀ b ∈ fp, ∀ o, h.get? b = some o → h'.get? b = some o) → St i h'
  live : ∀ i h, St i h → ∀ b ∈ gd, ∃ o, h.get? b = some o
  turn : ∀ (env : Env) i (s : Shared) (E : Value → Shared → Prop) (Qn : Shared → Prop) (Q : Shared → Prop), i < n → St i s.heap →
    (∀ vals h' tk, Pt i vals → St (i + 1) h' → (∀ b o, b ∉ gd → s.heap.get? b = some o → h'.get? b = some o) → StoreAll (model prog w) A E env Q names vals { s with heap := h', toks := tk }) →
    wpAny (model prog w) A (pyNext (.ref I)) (fun r s₁ => match r with
      | none => Qn s₁
      | some v => wpAny (model prog w) A (letOwnedTupleGo tgt (.ref I) v) (fun _ s₁' => wpAny (model prog w) A (assign tgt env v) (fun _ s₂ => Q s₂) E s₁') E s₁) E s
  done : ∀ (s : Shared) (E : Value → Shared → Prop) (Qn : Shared → Prop) (Qs : Value → Shared → Prop), St n s.heap →
    (∀ h' tk, (∀ b o, b ∉ gd → s.heap.get? b = some o → h'.get? b = some o) → Qn { s with heap := h', toks := tk }) →
    wpAny (model prog w) A (pyNext (.ref I)) (fun r s₁ => match r with | none => Qn s₁ | some v => Qs v s₁) E s
  self : ∀ i (s : Shared) (Q : Value → Shared → Prop) (E : Value → Shared → Prop), St i s.heap → Q (.ref I) s → wpAny (model prog w) A (pyIter (.ref I)) Q E s

theorem IterT.ofWalks {prog : Program} {w : World} {A : Around} {x : Str} {px : Pos} {I : Addr} {fp wr : List Addr} {n : Nat} {P : Nat → Value → Prop} {St : Nat → Heap → Prop} (W : Walks prog w A I fp wr n P St)
    (hl : ∀ i h, St i h → ∀ b ∈ wr, ∃ o, h.get? b = some o) : IterT prog w A (.Name x px) [x] I fp wr n (fun i vals => ∃ v, vals = [v] ∧ P i v) St where
  frame := W.frame
  live := hl
  turn := fun env i s E Qn Q hi st hQ => W.item i s _ E hi st fun v h' tk hp st' hk => by
    refine wpAny_of_eq (show letOwnedTupleGo (.Name x px) (.ref I) v = pure () from rfl) ?_
    exact wpAny_assign_Name (hQ [v] h' tk ⟨v, rfl, hp⟩ st' hk)
  done := fun s E Qn Qs st hQ => W.done s _ E st hQ
  self := W.self

theorem IterT.ofWalksU {prog : Program} {w : World} {A : Around} {x y : Str} {px py pt : Pos} {k : Nat} {I : Addr} {fp wr gd : List Addr} {n : Nat} {Pt : Nat → Array Value → Prop} {St : Nat → Heap → Prop} {Mid : Nat → Addr → Heap → Prop} (W : WalksU prog w A I fp wr n Pt St Mid)
    (hh : A.handled = none) (hwg : ∀ b ∈ wr, b ∈ gd) (h2 : ∀ i vals, Pt i vals → ∃ v₀ v₁, vals = #[v₀, v₁])
    (hl : ∀ i h, St i h → ∀ b ∈ gd, ∃ o, h.get? b = some o) : IterT prog w A (.Tuple [.Name x px, .Name y py] k pt) [x, y] I fp gd n (fun i vals => Pt i vals.toArray) St where
  frame := W.frame
  live := hl
  turn := fun env i s E Qn Q hi st hQ => W.item i s _ E hi st fun T vals h₁ tk hp hT hM hk => by
    obtain ⟨v₀, v₁, rfl⟩ := h2 i vals hp
    refine W.go _ k pt i T _ _ _ hM fun h₂ st₂ hk₂ => ?_
    have hT₂ : h₂.IsTuple T #[v₀, v₁] := hT.at fun o e => hk₂ T o (W.apart i T h₁ hM) e
    refine assign_Tuple_tuple hh hT₂ rfl rfl fun h₃ he => ?_
    have up : ∀ b o, h₂.get? b = some o → h₃.get? b = some o := fun b o e => he b o (Nat.ne_of_lt (Heap.lt_size e)) e
    have := hQ [v₀, v₁] h₃ tk hp (W.frame _ _ _ st₂ fun b _ o e => up b o e) fun b o hb e => up b o (hk₂ b o (fun q => hb (hwg b q)) (hk b o (fun q => hb (hwg b q)) e))
    refine assignInOrder_cons (wpAny_assign_Name (wpAny_mono this (fun _ s' h' => ?_) fun _ _ e => e))
    exact assignInOrder_cons (wpAny_assign_Name (wpAny_mono h' (fun _ s'' h'' => assignInOrder_nil h'') fun _ _ e => e))
  done := fun s E Qn Qs st hQ => W.done s _ E st fun h' tk hk => hQ h' tk fun b o hb e => hk b o (fun q => hb (hwg b q)) e
  self := W.self

section
variable {G : GCtx} {C : SC} {env : Env} {A : Around} {P : Addr → Prop} {σ : Vars} {tm tm' : List (Addr × List MV)} {F F' : FMap} {s : Shared}

theorem Pre.storeAll {E : Value → Shared → Prop} {Q : Shared → Prop} : ∀ {names : List Str} {mvs : List MV} {vals : List Value} {σ : Vars} {s : Shared}, Pre G C env A P σ tm F s → (∀ x ∈ names, Storable C x) → VReps F mvs vals →
    (∀ s', Aft G C env A P s F (σ.setAll names mvs) tm F s' → Q s') → StoreAll (model G.prog G.w) A E env Q names vals s
  | [], mvs, vals, σ, s, p, hn, hv, hQ => by
    have : Q s := hQ s (by cases mvs <;> exact .refl p)
    cases vals <;> exact this
  | x :: xs, [], vals, σ, s, p, hn, hv, hQ => by
    rw [VReps] at hv; subst hv
    exact hQ s (.refl p)
  | x :: xs, mv :: mvs, vals, σ, s, p, hn, hv, hQ => by
    rw [VReps] at hv
    obtain ⟨v, r, rfl, hx, hr⟩ := hv
    refine p.storeT (hn x (List.mem_cons_self ..)) (.inl ⟨hx, rfl⟩) (fun _ s' a => ?_)
    exact Pre.storeAll a.pre (fun y hy => hn y (List.mem_cons_of_mem _ hy)) hr fun s'' a' => hQ s'' (a.trans a')

/-- what a loop runs over -/
inductive TP (G : GCtx) (C : SC) (env : Env) (A : Around) (P : Addr → Prop) (s : Shared) (F : FMap) (tm : List (Addr × List MV)) (tgt : Expr) (names : List Str) (K : List (List MV) → Vars → Prop) (it : Value) (s₂ : Shared) : Prop
  | mk (items : List (List MV)) (σ₂ : Vars) (F₂ : FMap) (sm : Shared) (I : Addr) (fp gd : List Addr) (Pi : Nat → List Value → Prop) (St : Nat → Heap → Prop) (e : it = .ref I) (am : Aft G C env A P s F σ₂ tm F₂ sm)
      (es : ∃ h' tk, s₂ = { sm with heap := h', toks := tk }) (hk : ∀ a o, sm.heap.get? a = some o → s₂.heap.get? a = some o) (W : IterT G.prog G.w A tgt names I fp gd (List.length items) Pi St) (st0 : St 0 s₂.heap)
      (hPi : ∀ i vals, Pi i vals → ∃ mvs, items[i]? = some mvs ∧ VReps F₂ mvs vals) (hfp : ∀ b ∈ fp, b ∉ gd → ∃ o, F₂ b = some o) (hgd : ∀ b ∈ gd, sm.heap.get? b = none) (q : K items σ₂)
structure WIT (G : GCtx) (C : SC) (tgt : Expr) (names : List Str) (e : Expr) (σ : Vars) (K : List (List MV) → Vars → Prop) : Prop where
  run : ∀ env A P tm F s, Pre G C env A P σ tm F s →
    wpAny (model G.prog G.w) A (eval e env) (fun xv s₁ => wpAny (model G.prog G.w) A (pyIter xv) (TP G C env A P s F tm tgt names K) (fun _ _ => False) s₁) (fun _ _ => False) s
theorem WIT.thn {tgt : Expr} {names : List Str} {e : Expr} {K : List (List MV) → Vars → Prop} {R E : Value → Shared → Prop} (h : WIT G C tgt names e σ K) (p : Pre G C env A P σ tm F s) (k : ∀ it s₂, TP G C env A P s F tm tgt names K it s₂ → R it s₂) :
    wpAny (model G.prog G.w) A (eval e env) (fun xv s₁ => wpAny (model G.prog G.w) A (pyIter xv) R E s₁) E s :=
  wpAny_mono (h.run env A P tm F s p) (fun _ _ h₁ => wpAny_mono h₁ k fun _ _ x => x.elim) fun _ _ x => x.elim
theorem WIT.mono {tgt : Expr} {names : List Str} {e : Expr} {K K' : List (List MV) → Vars → Prop} (h : WIT G C tgt names e σ K) (hK : ∀ xs σ₁, K xs σ₁ → K' xs σ₁) : WIT G C tgt names e σ K' := .mk fun env A P tm F s p =>
  wpAny_mono (h.run env A P tm F s p) (fun _ _ h₁ => wpAny_mono h₁ (fun _ _ x => x.rec fun items σ₂ F₂ sm I fp gd Pi St a1 a2 a3 a4 a5 a6 a7 a8 a9 q => ⟨items, σ₂, F₂, sm, I, fp, gd, Pi, St, a1, a2, a3, a4, a5, a6, a7, a8, a9, hK _ _ q⟩) fun _ _ e => e) fun _ _ e => e
theorem WIT.ofWI {x : Str} {px : Pos} {e : Expr} {K : List MV → Vars → Prop} {K' : List (List MV) → Vars → Prop} (h : WI G C e σ K) (hK : ∀ xs σ₁, K xs σ₁ → K' (xs.map fun v => [v]) σ₁) : WIT G C (.Name x px) [x] e σ K' := .mk fun env A P tm F s p =>
  wpAny_mono (h.run env A P tm F s p) (fun xv s₁ h₁ => wpAny_mono h₁ (fun it s₂ x => x.rec fun items σ₂ F₂ sm I fp wr Pi St e1 am e2 hk W st0 hPi hfp hwr hex q =>
    ⟨items.map fun v => [v], σ₂, F₂, sm, I, fp, wr, _, St, e1, am, e2, hk, (List.length_map (as := items) (fun v => [v])).symm ▸ IterT.ofWalks W hex, st0, fun i vals hp => by
      obtain ⟨v, rfl, hp⟩ := hp
      obtain ⟨mv, hm, r⟩ := hPi i v hp
      exact ⟨[mv], by rw [List.getElem?_map, hm]; rfl, .cons r .nil⟩, hfp, hwr, hK _ _ q⟩) fun _ _ e => e) fun _ _ e => e

inductive LoopI (G : GCtx) (C : SC) (env : Env) (A : Around) (P : Addr → Prop) (s : Shared) (F : FMap) (tm : List (Addr × List MV)) (len : Nat) (F₂ : FMap) (wr : List Addr) (St : Nat → Heap → Prop) (Inv : Nat → Vars → Prop) (n : Nat) (s' : Shared) : Prop
  | mk (i : Nat) (σ' : Vars) (F' : FMap) (hi : i ≤ len) (hn : n = len + 1 - i) (p : Pre G C env A (fun a => P a ∧ a ∉ wr) σ' tm F' s') (stp : Step G P s.heap F s'.heap F') (rs : ∃ h tk, s' = { s with heap := h, toks := tk }) (hle : F₂.le F') (hfw : ∀ b ∈ wr, F' b = none)
      (st : St i s'.heap) (hI : Inv i σ')
theorem W1_forT {tgt : Expr} {names : List Str} {pos : Pos} {iter : Expr} {body : List Stmt} {Q : MFlow → Vars → Prop} (hx : ∀ x ∈ names, Storable C x)
    (h : WIT G C tgt names iter σ (fun items σ₁ => ∃ Inv : Nat → Vars → Prop, Inv 0 σ₁ ∧ (∀ i x₁ σ', items[i]? = some x₁ → Inv i σ' → WS G C body (σ'.setAll names x₁) (loopPost Q (Inv (i + 1)))) ∧ ∀ σ', Inv items.length σ' → Q .next σ'))
    (hs : ∀ env x, foldedSetIterable iter env x = pure x := by intro _ _; rfl) : W1 G C (.For tgt iter body [] pos) σ Q := .mk fun env A P tm F s p => by
  refine wpAny_For (h.thn p fun it s₂ h₂ => ?_) (hs env)
  obtain ⟨items, σ₂, F₂, sm, I, fp, wr, Pi, St, rfl, am, ⟨hh, tk, rfl⟩, hk, W, st0, hPi, hfp, hwr, Inv, i0, turn, done⟩ := h₂
  have hfr : ∀ b ∈ wr, F₂ b = none := fun b hb => by
    cases q : F₂ b with
    | none => rfl
    | some o => have := am.pre.rep.base.sub b o q; rw [hwr b hb] at this; cases this
  have hPw : ∀ b ∈ wr, P b := fun b hb => am.pre.fresh b (hwr b hb)
  have hcl : ∀ n c, env.cells.lookup n = some c → c ∉ wr := fun n c l hb => by
    obtain ⟨v, o, e, _⟩ := am.pre.rep.cellex n c l
    rw [hwr c hb] at e; cases e
  have htp : G.tp ∉ wr := fun hb => am.pre.rep.ptab (hPw _ hb)
  have p0 := am.pre.guard (tk := tk) hk hwr fun b hb => W.live 0 _ st0 b hb
  have stp0 : Step G P s.heap F hh F₂ := am.step.trans ((Step.grow hk).weaken am.pre.fresh)
  refine codeAny_forLoop_any (LoopI G C env A P s F tm items.length F₂ wr St Inv)
    ?_ (items.length + 1) ⟨0, σ₂, F₂, Nat.zero_le _, rfl, p0, stp0, by obtain ⟨h, t, rfl⟩ := am.rest; exact ⟨_, _, rfl⟩, FMap.le.refl _, hfr, st0, i0⟩
  rintro n s' ⟨i, σ', F', hi, rfl, p', stp, ⟨h', tk', rfl⟩, hle, hfw, hst, hI⟩
  by_cases hlt : i < items.length
  · refine W.turn env i _ _ _ _ hlt hst fun vals h₁ tk₁ hP hst₁ hk₁ => ?_
    obtain ⟨x₁, hx₁, hr⟩ := hPi i vals hP
    have p₁ : Pre G C env A (fun a => P a ∧ a ∉ wr) σ' tm F' { s with heap := h₁, toks := tk₁ } := p'.turned (tk := tk₁) hk₁ (fun b hb => ⟨fun q => q.2 hb, hfw b hb, fun q => htp (q ▸ hb)⟩) hcl fun b hb => W.live _ _ hst₁ b hb
    have stp₁ : Step G P s.heap F h₁ F' := stp.trans ⟨fun a o hp _ e => hk₁ a o (fun hb => hp (hPw a hb)) e, fun _ _ _ _ _ => rfl, FMap.le.refl _⟩
    refine p₁.storeAll hx (hr.mono hle) fun s₃ a₃ => ?_
    refine (turn i x₁ σ' hx₁ hI).thn a₃.pre (fun f s₄ mf σ₄ F₄ a₄ r q => ?_)
    have a := a₃.trans a₄
    have stpw : Step G P s.heap F s₄.heap F₄ := stp₁.trans (a.step.weaken fun _ q => q.1)
    have rest : ∃ h tk, s₄ = { s with heap := h, toks := tk } := by obtain ⟨h, t, rfl⟩ := a.rest; exact ⟨h, t, rfl⟩
    have wfz : ∀ b ∈ wr, F₄ b = none := fun b hb => by
      obtain ⟨o, e⟩ := W.live _ _ hst₁ b hb
      exact (a.step.frz b o (fun q => q.2 hb) (fun q => htp (q ▸ hb)) e).trans (hfw b hb)
    have st' : St (i + 1) s₄.heap := W.frame _ _ _ hst₁ fun b hb o e => by
      by_cases hw : b ∈ wr
      · exact a.step.keep b o (fun q => q.2 hw) (fun q => htp (q ▸ hw)) e
      · obtain ⟨o', e'⟩ := hfp b hb hw
        have e1 := p₁.rep.base.sub b o' (hle b o' e')
        have e2 : h₁.get? b = some o' := e1
        rw [e2] at e; cases e
        exact a.pre.rep.base.sub b o (a.step.mono b o (hle b o e'))
    have again : Inv (i + 1) σ₄ → ∃ m, m < items.length + 1 - i ∧ LoopI G C env A P s F tm items.length F₂ wr St Inv m s₄ :=
      fun hI' => ⟨items.length + 1 - (i + 1), by omega, i + 1, σ₄, F₄, hlt, rfl, a.pre, stpw, rest, hle.trans a.step.mono, wfz, st', hI'⟩
    have fin : Aft G C env A P s F σ₄ tm F₄ s₄ := ⟨a.pre.widen (fun _ q => q.1) p.rep.ptab, stpw, rest⟩
    cases mf with
    | next => cases r; exact again q
    | cont => cases r; exact again q
    | brk => cases r; exact ⟨.next, σ₄, F₄, fin, rfl, q⟩
    | ret u => obtain ⟨w, rfl, r⟩ := r; exact ⟨.ret u, σ₄, F₄, fin, ⟨w, rfl, r⟩, q⟩
  · have hie : i = items.length := by omega
    subst hie
    refine W.done _ _ _ _ hst fun h₁ tk₁ hk₁ => wpAny_execs_nil ?_
    have p₁ := p'.turnedTo (P' := P) (tk := tk₁) hk₁ (fun b hb => ⟨fun q => q.2 hb, hfw b hb, fun q => htp (q ▸ hb)⟩) hcl (fun _ q => q.1) p.rep.ptab fun b hb => .inl (hPw b hb)
    exact ⟨.next, σ', F', ⟨p₁, stp.trans ⟨fun a o hp _ e => hk₁ a o (fun hb => hp (hPw a hb)) e, fun _ _ _ _ _ => rfl, FMap.le.refl _⟩, h₁, tk₁, rfl⟩, rfl, done σ' hI⟩

theorem W1_for {x : Str} {px pos : Pos} {iter : Expr} {body : List Stmt} {Q : MFlow → Vars → Prop} (hx : Storable C x)
    (h : WI G C iter σ (fun items σ₁ => ∃ Inv : Nat → Vars → Prop, Inv 0 σ₁ ∧ (∀ i x₁ σ', items[i]? = some x₁ → Inv i σ' → WS G C body (σ'.set x x₁) (loopPost Q (Inv (i + 1)))) ∧ ∀ σ', Inv items.length σ' → Q .next σ'))
    (hs : ∀ env x, foldedSetIterable iter env x = pure x := by intro _ _; rfl) : W1 G C (.For (.Name x px) iter body [] pos) σ Q :=
  W1_forT (names := [x]) (fun y hy => (List.mem_singleton.mp hy) ▸ hx) (WIT.ofWI h fun xs σ₁ ⟨Inv, i0, turn, done⟩ => ⟨Inv, i0, fun i x₁ σ' hx hi => by
    rw [List.getElem?_map] at hx
    obtain ⟨v, hv, rfl⟩ := Option.map_eq_some_iff.mp hx
    exact turn i v σ' hv hi, fun σ' hi => done σ' (List.length_map (as := xs) (fun v => [v]) ▸ hi)⟩) hs

/-! ### sources of pairs -/
theorem meets_enumerate_newL (l : Addr) (items : Array Value) :
    Meets (Builtin.«enumerate.__new__» ⟨[.type "enumerate", .ref l], []⟩) (fun _ R s => s.heap.IsList l items ∧
      R (.ok (.ret (.ref (s.heap.push { cls := .type "list_iterator", data := .fields #[.ref l, .int 0 0] }).objs.size)))
        { s with heap := (s.heap.push { cls := .type "list_iterator", data := .fields #[.ref l, .int 0 0] }).push { cls := .type "enumerate", data := .fields #[.none, .bool false, .ref s.heap.objs.size, rawInt 0, .none, .none] } }) :=
  .of_wp fun prog w A R s h => by
    obtain ⟨hp, g, d, tk, os⟩ := s; obtain ⟨hL, h⟩ := h
    have hsub := sub_enumerate
    obtain ⟨⟨cls, dd, dt, sl⟩, hl, hc, n, hd⟩ := id hL
    simp only at hc hd
    subst hc hd
    have hL : Heap.IsList (Shared.heap ⟨hp, g, d, tk, os⟩) l items := hL
    wp_walk using wpAny_loadPart' hl
    refine wpAny_stack_any fun st => wpAny_pure ?_
    split
    · rename_i c _ _ _ _ _
      cases (c == Value.type "enumerate")
      · wp_walk using wpAny_loadPart' hl, wpAny_pyIter_list hL
        exact ⟨_, rfl, h⟩
      · wp_walk using wpAny_loadPart' hl, wpAny_pyIter_list hL
        exact ⟨_, rfl, h⟩
    · wp_walk using wpAny_loadPart' hl, wpAny_pyIter_list hL
      exact ⟨_, rfl, h⟩
theorem call_enumerateL {prog : Program} {w : World} {A : Around} {E : Value → Shared → Prop} {s : Shared} {l : Addr} {items : Array Value} {Q : Value → Shared → Prop} (hl : s.heap.IsList l items)
    (h : ∀ h', IsEnum h' (s.heap.objs.size + 1) s.heap.objs.size 0 .none → h'.IsListIter s.heap.objs.size l 0 → h'.objs.size = s.heap.objs.size + 2 →
      (∀ b o, s.heap.get? b = some o → h'.get? b = some o) → Q (.ref (s.heap.objs.size + 1)) { s with heap := h' }) :
    wpAny (model prog w) A (call (.type "enumerate") [.ref l]) Q E s := by
  refine callType_new F.called_enumerate (by decide) (F.typeCall_enumerate_1 _) (F.newCall_enumerate_1 _) (fun obj => F.args_object_init_2 obj _) F.entry_enumerate_new
    (meets_enumerate_newL l items) ⟨hl, ?_⟩
  have hz : (s.heap.push { cls := .type "list_iterator", data := .fields #[.ref l, .int 0 0] }).objs.size = s.heap.objs.size + 1 := Heap.size_push ..
  show _ ∧ _
  rw [hz]
  have he : IsEnum ((s.heap.push { cls := .type "list_iterator", data := .fields #[.ref l, .int 0 0] }).push
      { cls := .type "enumerate", data := .fields #[.none, .bool false, .ref s.heap.objs.size, rawInt 0, .none, .none] }) (s.heap.objs.size + 1) s.heap.objs.size 0 .none := by
    have := Heap.get?_push_size (s.heap.push { cls := .type "list_iterator", data := .fields #[.ref l, .int 0 0] })
      (o := { cls := .type "enumerate", data := .fields #[.none, .bool false, .ref s.heap.objs.size, rawInt 0, .none, .none] }) rfl
    rw [hz] at this; exact this
  refine ⟨⟨_, he, rfl⟩, h _ he ⟨_, Heap.get?_push_of_some _ (Heap.get?_push_size _ rfl), rfl, rfl⟩ (by rw [Heap.size_push, hz]) fun b o x => Heap.get?_push_of_some _ (Heap.get?_push_of_some _ x)⟩

noncomputable def enumd (xs : List MV) : List (List MV) := (List.range xs.length).map fun (i : Nat) => [.int i, xs.getD i .none]
theorem enumd_length (xs : List MV) : (enumd xs).length = xs.length := by simp [enumd]
theorem enumd_get {xs : List MV} {i : Nat} {x : MV} (h : xs[i]? = some x) : (enumd xs)[i]? = some [.int i, x] := by
  obtain ⟨hi, rfl⟩ := List.getElem?_eq_some_iff.mp h
  simp [enumd, hi]

theorem WIT_enum {x y z : Str} {px py pt np pos : Pos} {k : Nat} {e : Expr} {K : List (List MV) → Vars → Prop}
    (h : WE G C (.Name z np) σ (fun fv σ₁ => ∃ f, fv = .raw f ∧ IsBuilt f ∧ WA G C [e] σ₁ (fun as σ₂ => f = .type "enumerate" ∧ ∃ xs, as = [.list xs] ∧ K (enumd xs) σ₂)))
    (he : ∀ env, starEach [e] env = (false, eval e env) :: starEach [] env := by intro _; rfl) : WIT G C (.Tuple [.Name x px, .Name y py] k pt) [x, y] (.Call (.Name z np) [e] [] pos) σ K := .mk fun env A P tm F s p =>
  eval_callBuilt p h he (fun _ => rfl) fun f vs as σ₂ F₂ s₂ a₂ r₂ ⟨e1, xs, e2, q⟩ => by
    subst e1 e2
    obtain ⟨v, rfl, r⟩ := r₂.one
    obtain ⟨l, o, us, n, rfl, f, c, d, hv⟩ := r.listF
    have hl : s₂.heap.IsList l us := ⟨o, a₂.pre.rep.base.sub _ _ f, c, n, d⟩
    have hlt : l < s₂.heap.objs.size := Heap.lt_size (a₂.pre.rep.base.sub _ _ f)
    refine call_enumerateL hl fun h' hE hI hz hk => ?_
    refine wpAny_pyIter_enum hE ?_
    have hlen : us.size = (enumd xs).length := by rw [enumd_length]; have := hv.length; simpa using this
    have W := (WalksT.enumerate (prog := G.prog) (w := G.w) a₂.pre.room.handled (s₂.heap.objs.size + 1) s₂.heap.objs.size l (Nat.succ_ne_self _) (Nat.ne_of_lt (Nat.lt_succ_of_lt hlt)) (Nat.ne_of_lt hlt) us).toU
    rw [hlen] at W
    have W' := IterT.ofWalksU (gd := [s₂.heap.objs.size + 1, s₂.heap.objs.size]) (x := x) (y := y) (px := px) (py := py) (pt := pt) (k := k) W a₂.pre.room.handled (fun b hb => hb) (fun i vals ⟨t, x, _, e⟩ => ⟨_, _, e⟩) fun i h st => by
      obtain ⟨⟨old, e1⟩, ⟨o2, e2, _⟩, _⟩ := st
      exact mem2 ⟨_, e1⟩ ⟨_, e2⟩
    refine ⟨enumd xs, σ₂, F₂, s₂, _, _, _, _, _, rfl, a₂, ⟨_, _, rfl⟩, hk, W', ⟨⟨_, hE⟩, hI, hl.at fun o e => hk _ o e⟩, fun i vals ⟨t, x, hx, e⟩ => ?_, memc (fun hn => absurd (.head _) hn) (memc (fun hn => absurd (.tail _ (.head _)) hn) (memc (fun _ => ⟨o, f⟩) fun _ h => nomatch h)), mem2 (new_none (Nat.le_succ _)) (new_none (Nat.le_refl _)), q⟩
    · have : vals = [.int i t, x] := by simpa using congrArg Array.toList e
      subst this
      obtain ⟨mv, hm, r⟩ := hv.get' i x (by simpa using hx)
      exact ⟨_, enumd_get hm, .cons VRep_int (.cons r .nil)⟩

noncomputable def zipd (xs ys : List MV) : List (List MV) := (List.range (min xs.length ys.length)).map fun (i : Nat) => [xs.getD i .none, ys.getD i .none]
theorem zipd_length (xs ys : List MV) : (zipd xs ys).length = min xs.length ys.length := by simp [zipd]
theorem zipd_get {xs ys : List MV} {i : Nat} {x y : MV} (h : xs[i]? = some x) (h' : ys[i]? = some y) : (zipd xs ys)[i]? = some [x, y] := by
  obtain ⟨hi, rfl⟩ := List.getElem?_eq_some_iff.mp h
  obtain ⟨hi', rfl⟩ := List.getElem?_eq_some_iff.mp h'
  have : i < min xs.length ys.length := by omega
  simp [zipd, hi, hi', this]

theorem zipApart (m l l' : Nat) (h : l < m) (h' : l' < m) : ZipApart (m + 4) (m + 2) (m + 3) m (m + 1) l l' := by
  constructor <;> (show @Ne Nat _ _; omega)

theorem WIT_zip {x y z : Str} {px py pt np pos : Pos} {k : Nat} {e₁ e₂ : Expr} {K : List (List MV) → Vars → Prop}
    (h : WE G C (.Name z np) σ (fun fv σ₁ => ∃ f, fv = .raw f ∧ IsBuilt f ∧ WA G C [e₁, e₂] σ₁ (fun as σ₂ => f = .type "zip" ∧ ∃ xs ys, as = [.list xs, .list ys] ∧ K (zipd xs ys) σ₂)))
    (he : ∀ env, starEach [e₁, e₂] env = (false, eval e₁ env) :: starEach [e₂] env := by intro _; rfl) (hp : ∀ env, (backTo pos (starEach [e₂] env)).any (·.1) = false := by intro _; rfl) :
    WIT G C (.Tuple [.Name x px, .Name y py] k pt) [x, y] (.Call (.Name z np) [e₁, e₂] [] pos) σ K := .mk fun env A P tm F s p =>
  eval_callBuilt p h he hp fun f vs as σ₂ F₂ s₂ a₂ r₂ ⟨e1, xs, ys, e2, q⟩ => by
    subst e1 e2
    rw [VReps] at r₂
    obtain ⟨v, r', rfl, r, rn⟩ := r₂
    obtain ⟨v', rfl, rr⟩ := rn.one
    obtain ⟨l, o, us, n, rfl, f, c, d, hv⟩ := r.listF
    obtain ⟨l', o', us', n', rfl, f', c', d', hv'⟩ := rr.listF
    have hl : s₂.heap.IsList l us := ⟨o, a₂.pre.rep.base.sub _ _ f, c, n, d⟩
    have hl' : s₂.heap.IsList l' us' := ⟨o', a₂.pre.rep.base.sub _ _ f', c', n', d'⟩
    have hlt : l < s₂.heap.objs.size := Heap.lt_size (a₂.pre.rep.base.sub _ _ f)
    have hlt' : l' < s₂.heap.objs.size := Heap.lt_size (a₂.pre.rep.base.sub _ _ f')
    refine call_zip_2 hl hl' fun h' hZ hP1 hP2 hI1 hI2 hz hk => ?_
    refine wpAny_pyIter_zip hZ ?_
    have hlen : min us.size us'.size = (zipd xs ys).length := by rw [zipd_length]; have := hv.length; have := hv'.length; simp at *; omega
    generalize hm : s₂.heap.objs.size = m at *
    have W := (WalksT.zip2 (prog := G.prog) (w := G.w) a₂.pre.room.handled (m + 4) (m + 2) (m + 3) m (m + 1) l l' (zipApart m l l' hlt hlt') us us').toU
    rw [hlen] at W
    have W' := IterT.ofWalksU (gd := [m + 4, m + 2, m + 3, m, m + 1]) (x := x) (y := y) (px := px) (py := py) (pt := pt) (k := k) W a₂.pre.room.handled (memc (.head _) (memc (.tail _ (.tail _ (.head _))) (mem2 (.tail _ (.tail _ (.tail _ (.head _)))) (.tail _ (.tail _ (.tail _ (.tail _ (.head _)))))))) (fun i vals ⟨x, y, _, _, e⟩ => ⟨_, _, e⟩) fun i h st => by
      obtain ⟨e1, e2, ⟨_, _, e3⟩, ⟨o4, e4, _⟩, ⟨o5, e5, _⟩, _⟩ := st
      exact memc ⟨_, e1⟩ (memc ⟨_, e2⟩ (memc ⟨_, e3⟩ (mem2 ⟨_, e4⟩ ⟨_, e5⟩)))
    refine ⟨zipd xs ys, σ₂, F₂, s₂, _, _, _, _, _, rfl, a₂, ⟨_, _, rfl⟩, hk, W', ⟨hZ, hP1, ⟨_, _, hP2⟩, hI1, hI2, hl.at fun o e => hk _ o e, hl'.at fun o e => hk _ o e⟩, fun i vals ⟨x, y, hx, hy, e⟩ => ?_, (memc (fun hn => absurd (.head _) hn) <| memc (fun hn => absurd (.tail _ (.head _)) hn) <| memc (fun hn => absurd (.tail _ (.tail _ (.head _))) hn) <| memc (fun hn => absurd (.tail _ (.tail _ (.tail _ (.head _)))) hn) <|
      memc (fun hn => absurd (.tail _ (.tail _ (.tail _ (.tail _ (.head _))))) hn) <| memc (fun _ => ⟨o, f⟩) <| memc (fun _ => ⟨o', f'⟩) fun _ h => nomatch h),
      memc (new_none (hm ▸ Nat.le_add_right m 4)) (memc (new_none (hm ▸ Nat.le_add_right m 2)) (memc (new_none (hm ▸ Nat.le_add_right m 3)) (mem2 (new_none (Nat.le_of_eq hm)) (new_none (hm ▸ Nat.le_add_right m 1))))), q⟩
    · have : vals = [x, y] := by simpa using congrArg Array.toList e
      subst this
      obtain ⟨mv, hm, r⟩ := hv.get' i x (by simpa using hx)
      obtain ⟨mv', hm', r'⟩ := hv'.get' i y (by simpa using hy)
      exact ⟨_, zipd_get hm hm', .cons r (.cons r' .nil)⟩
end
end Mine
end
section
open PySem PySem.W PySem.Calls PyProof.Rows
namespace Mine

theorem IterT.pairs {prog : Program} {w : World} {A : Around} {x y : Str} {px py pt : Pos} {k : Nat} {a₀ b₀ a₁ b₁ : Value} {I T T₀ T₁ : Addr} (hh : A.handled = none) (hTI : T ≠ I) (h0 : T₀ ≠ I) (h1 : T₁ ≠ I) :
    IterT prog w A (.Tuple [.Name x px, .Name y py] k pt) [x, y] I [I, T, T₀, T₁] [I, T, T₀, T₁] 2 (fun i vals => (i = 0 ∧ vals = [a₀, b₀]) ∨ (i = 1 ∧ vals = [a₁, b₁]))
      (fun i h => h.IsTupleIter I T i ∧ h.IsTuple T #[.ref T₀, .ref T₁] ∧ h.IsTuple T₀ #[a₀, b₀] ∧ h.IsTuple T₁ #[a₁, b₁]) where
  frame := fun _ _ _ st hk => ⟨st.1.at fun o e => hk I (.head _) o e, st.2.1.at fun o e => hk T (.tail _ (.head _)) o e, st.2.2.1.at fun o e => hk T₀ (.tail _ (.tail _ (.head _))) o e, st.2.2.2.at fun o e => hk T₁ (.tail _ (.tail _ (.tail _ (.head _)))) o e⟩
  live := fun i h st => by
    obtain ⟨⟨o1, e1, _⟩, ⟨o2, e2, _⟩, ⟨o3, e3, _⟩, ⟨o4, e4, _⟩⟩ := st
    exact memc ⟨_, e1⟩ (memc ⟨_, e2⟩ (mem2 ⟨_, e3⟩ ⟨_, e4⟩))
  turn := fun env i s E Qn Q hi st hQ => by
    have step : ∀ (U : Addr) (u v : Value), (#[.ref T₀, .ref T₁] : Array Value)[i]? = some (.ref U) → U ≠ I → s.heap.IsTuple U #[u, v] → ((i = 0 ∧ [u, v] = [a₀, b₀]) ∨ (i = 1 ∧ [u, v] = [a₁, b₁])) →
        wpAny (model prog w) A (pyNext (.ref I)) (fun r s₁ => match r with
          | none => Qn s₁
          | some v => wpAny (model prog w) A (letOwnedTupleGo (.Tuple [.Name x px, .Name y py] k pt) (.ref I) v) (fun _ s₁' => wpAny (model prog w) A (assign (.Tuple [.Name x px, .Name y py] k pt) env v) (fun _ s₂ => Q s₂) E s₁') E s₁) E s := fun U u v hx hUI hU hp => by
      refine wpAny_pyNext_tuple_item st.1 st.2.1 hx fun h' hit' hs' => ?_
      refine letGo_tupleiter hit' ?_
      have hU' := hU.extBut hs'.extBut hUI
      refine assign_Tuple_tuple hh hU' rfl rfl fun h₃ he => ?_
      have up : ∀ b o, h'.get? b = some o → h₃.get? b = some o := fun b o e => he b o (Nat.ne_of_lt (Heap.lt_size e)) e
      have := hQ [u, v] h₃ s.toks hp ⟨hit'.at fun o e => up _ o e, (st.2.1.extBut hs'.extBut hTI).at fun o e => up _ o e, (st.2.2.1.extBut hs'.extBut h0).at fun o e => up _ o e, (st.2.2.2.extBut hs'.extBut h1).at fun o e => up _ o e⟩
        fun b o hb e => up b o (hs'.extBut b o (fun q => hb (by rw [q]; exact .head _)) e)
      refine assignInOrder_cons (wpAny_assign_Name (wpAny_mono this (fun _ s' h' => ?_) fun _ _ e => e))
      exact assignInOrder_cons (wpAny_assign_Name (wpAny_mono h' (fun _ s'' h'' => assignInOrder_nil h'') fun _ _ e => e))
    have hi' : i = 0 ∨ i = 1 := by omega
    rcases hi' with e | e
    · exact step T₀ a₀ b₀ (by rw [e]; rfl) h0 st.2.2.1 (.inl ⟨e, rfl⟩)
    · exact step T₁ a₁ b₁ (by rw [e]; rfl) h1 st.2.2.2 (.inr ⟨e, rfl⟩)
  done := fun s E Qn Qs st hQ => wpAny_pyNext_tuple_end hh st.1 st.2.1 (by simp) fun h' he' => hQ h' s.toks fun b o hb e => he' b o (fun q => hb (by rw [q]; exact .head _)) e
  self := fun _ _ _ _ st hQ => wpAny_pyIter_tupleiter st.1 hQ

section
variable {G : GCtx} {C : SC} {env : Env} {A : Around} {P : Addr → Prop} {σ : Vars} {tm tm' : List (Addr × List MV)} {F F' : FMap} {s : Shared}

/-- a name with a plain value, read: nothing moves -/
theorem Pre.plainName (p : Pre G C env A P σ tm F s) {x : Str} {px : Pos} {mv : MV} (hx : σ.get x = some mv) (ho : ∀ a xs, mv ≠ .own a xs) 
    (hd : (x == ("__debug__" : Str)) = false := by decide) (hn : (x == ("__classdict__" : Str)) = false := by decide) :
    ∃ v, VRep F mv v ∧ ∀ (Q : Value → Shared → Prop) E, Q v s → wpAny (model G.prog G.w) A (eval (.Name x px) env) Q E s := by
  obtain ⟨v, r, hl⟩ := p.load hx hn
  refine ⟨v, ?_, fun Q E h => wpAny_Name (hl Q E h) hd⟩
  cases mv with
  | own a xs => exact absurd rfl (ho a xs)
  | _ => exact r

theorem WIT_pairs {x y a b : Str} {px py pt p1 p2 p3 p4 q1 q2 q3 : Pos} {k k1 k2 k3 : Nat} {u v : MV} {K : List (List MV) → Vars → Prop}
    (ha : σ.get a = some u) (hb : σ.get b = some v) (hu : ∀ a xs, u ≠ .own a xs) (hv : ∀ a xs, v ≠ .own a xs) (h : K [[u, v], [v, u]] σ)
    (hda : (a == ("__debug__" : Str)) = false := by decide) (hna : (a == ("__classdict__" : Str)) = false := by decide) (hdb : (b == ("__debug__" : Str)) = false := by decide) (hnb : (b == ("__classdict__" : Str)) = false := by decide) :
    WIT G C (.Tuple [.Name x px, .Name y py] k pt) [x, y] (.Tuple [.Tuple [.Name a p1, .Name b p2] k1 q1, .Tuple [.Name b p3, .Name a p4] k2 q2] k3 q3) σ K := .mk fun env A P tm F s p => by
  obtain ⟨va, ra, la⟩ := p.plainName (px := p1) ha hu hda hna
  obtain ⟨vb, rb, lb⟩ := p.plainName (px := p2) hb hv hdb hnb
  refine wpAny_Tuple (wpAny_items_cons (wpAny_Tuple (wpAny_items_cons (la _ _ (wpAny_items_cons (lb _ _ (wpAny_items_nil ⟨by rw [sizeLine_eq]; simp, ?_⟩)))))))
  have g1 := p.grow' (tk := s.toks) (h' := s.heap.push { cls := .type "tuple", data := .seq [va, vb].toArray }) fun c o e => Heap.get?_push_of_some _ e
  obtain ⟨vb', rb', lb'⟩ := g1.pre.plainName (px := p3) hb hv hdb hnb
  obtain ⟨va', ra', la'⟩ := g1.pre.plainName (px := p4) ha hu hda hna
  refine wpAny_items_cons (wpAny_Tuple (wpAny_items_cons (lb' _ _ (wpAny_items_cons (la' _ _ (wpAny_items_nil ⟨by rw [sizeLine_eq]; simp, wpAny_items_nil ⟨by rw [sizeLine_eq]; simp, ?_⟩⟩))))))
  have z1 : (s.heap.push { cls := .type "tuple", data := .seq [va, vb].toArray }).objs.size = s.heap.objs.size + 1 := Heap.size_push ..
  refine wpAny_pyIter_tuple (items := #[.ref s.heap.objs.size, .ref (s.heap.objs.size + 1)]) ⟨_, Heap.get?_push_size _ rfl, rfl, _, by rw [z1]⟩ ?_
  generalize hH1 : s.heap.push { cls := .type "tuple", data := .seq [va, vb].toArray } = H1 at *
  generalize hH2 : H1.push { cls := .type "tuple", data := .seq [vb', va'].toArray } = H2 at *
  have z2 : H2.objs.size = s.heap.objs.size + 2 := by rw [← hH2, Heap.size_push, z1]
  generalize hH3 : H2.push { cls := .type "tuple", data := .seq [Value.ref s.heap.objs.size, Value.ref H1.objs.size].toArray } = H3 at *
  have z3 : H3.objs.size = s.heap.objs.size + 3 := by rw [← hH3, Heap.size_push, z2]
  have up1 : ∀ c o, s.heap.get? c = some o → H1.get? c = some o := fun c o e => by rw [← hH1]; exact Heap.get?_push_of_some _ e
  have up2 : ∀ c o, H1.get? c = some o → H2.get? c = some o := fun c o e => by rw [← hH2]; exact Heap.get?_push_of_some _ e
  have up3 : ∀ c o, H2.get? c = some o → H3.get? c = some o := fun c o e => by rw [← hH3]; exact Heap.get?_push_of_some _ e
  have T0 : H3.IsTuple s.heap.objs.size #[va, vb] := ⟨_, up3 _ _ (up2 _ _ (by rw [← hH1]; exact Heap.get?_push_size _ rfl)), rfl, _, rfl⟩
  have T1 : H3.IsTuple (s.heap.objs.size + 1) #[vb', va'] := ⟨_, up3 _ _ (by rw [← hH2, ← z1]; exact Heap.get?_push_size _ rfl), rfl, _, rfl⟩
  have T2 : H3.IsTuple (s.heap.objs.size + 2) #[.ref s.heap.objs.size, .ref (s.heap.objs.size + 1)] := ⟨_, by rw [← hH3, ← z2]; exact Heap.get?_push_size _ rfl, rfl, _, by rw [z1]⟩
  have I3 : (H3.push { cls := .type "tuple_iterator", data := .fields #[.ref H2.objs.size, .int 0 0] }).IsTupleIter (s.heap.objs.size + 3) (s.heap.objs.size + 2) 0 := ⟨_, by rw [← z3]; exact Heap.get?_push_size _ rfl, rfl, by rw [z2]; rfl⟩
  refine ⟨[[u, v], [v, u]], σ, F, s, s.heap.objs.size + 3, _, _, _, _, by rw [z3], .refl p, ⟨_, _, rfl⟩, fun c o e => Heap.get?_push_of_some _ (up3 _ _ (up2 _ _ (up1 _ _ e))),
    IterT.pairs (a₀ := va) (b₀ := vb) (a₁ := vb') (b₁ := va') p.room.handled (T := s.heap.objs.size + 2) (T₀ := s.heap.objs.size) (T₁ := s.heap.objs.size + 1) (Nat.ne_of_lt (Nat.lt_succ_self _)) (Nat.ne_of_lt (Nat.lt_add_of_pos_right (by decide))) (Nat.ne_of_lt (Nat.add_lt_add_left (by decide) _)),
    ⟨I3, T2.push _, T0.push _, T1.push _⟩, fun i vals hp => ?_, fun b hb hn => absurd hb hn, memc (new_none (Nat.le_add_right _ 3)) (memc (new_none (Nat.le_add_right _ 2)) (mem2 (new_none (Nat.le_refl _)) (new_none (Nat.le_succ _)))), h⟩
  · rcases hp with ⟨rfl, rfl⟩ | ⟨rfl, rfl⟩
    · exact ⟨_, rfl, .cons ra (.cons rb .nil)⟩
    · exact ⟨_, rfl, .cons rb' (.cons ra' .nil)⟩
end
end Mine
end
section
open PySem PySem.W PySem.Calls PyProof.Rows
namespace Mine

/-! ### comprehensions -/
noncomputable abbrev testsOf (ifs : List Expr) (env : Env) : Sem Bool := forIn ifs true fun c r => if r = true then do let ok ← isTrue c env (eval c env); pure (ForInStep.yield ok) else pure (ForInStep.yield r)

theorem compLoopT {prog : Program} {w : World} {A : Around} {R : Result → Shared → Prop} {s : Shared} {elt tgt iter : Expr} {ifs : List Expr} {scope : Scope} {pos : Pos} {it acc : Value} {env : Env} (I : Nat → Shared → Prop)
    (turn : ∀ n s, I n s → wpAny (model prog w) A (pyNext it) (fun r s₁ => match r with
      | none => R (.ok .next) s₁
      | some v => wpAny (model prog w) A (letOwnedTupleGo tgt it v) (fun _ s₁' => wpAny (model prog w) A (assign tgt env v) (fun _ s₂ =>
          wpAny (model prog w) A (testsOf ifs env) (fun ok s₃ =>
            if ok = true then wpAny (model prog w) A (eval elt env) (fun x s₄ =>
              wpAny (model prog w) A (call (.builtin "list.append") [acc, x]) (fun _ s₅ => ∃ m, m < n ∧ I m s₅) (notedBy (model prog w) A env fun e s' => R (.error e) s') s₄) (notedBy (model prog w) A env fun e s' => R (.error e) s') s₃
            else ∃ m, m < n ∧ I m s₃) (notedBy (model prog w) A env fun e s' => R (.error e) s') s₂) (notedBy (model prog w) A env fun e s' => R (.error e) s') s₁') (notedBy (model prog w) A env fun e s' => R (.error e) s') s₁) (notedBy (model prog w) A env fun e s' => R (.error e) s') s)
    (n : Nat) (h : I n s) :
    codeAny (model prog w) A (.compLoop (.ListComp elt [⟨tgt, iter, ifs, 0⟩] scope pos) 0 it acc env) R s := by
  refine codeAny_loop rfl I (fun n s hI => ?_) n h
  show wpAny _ A ((compTurn (.ListComp elt [⟨tgt, iter, ifs, 0⟩] scope pos) 0 it acc env).onRaise (fun x => do noteFrame x env; theTreesLotGoes x)) _ _ s
  refine wpAny_noted ?_
  rw [compTurn_list]
  refine wpAny_bind (wpAny_standAt (wpAny_bind (wpAny_mono (turn n s hI) (fun r s₁ h₁ => ?_) fun _ _ h' => h')))
  cases r with
  | none => exact wpAny_pure h₁
  | some v =>
    refine wpAny_bind (wpAny_mono h₁ (fun _ s₁' h₁' => ?_) fun _ _ h' => h')
    refine wpAny_bind (wpAny_mono h₁' (fun _ s₂ h₂ => wpAny_bind (wpAny_mono h₂ (fun ok s₃ h₃ => ?_) fun _ _ h' => h')) fun _ _ h' => h')
    cases ok with
    | false => exact wpAny_pure ⟨rfl, h₃⟩
    | true =>
      exact wpAny_bind (wpAny_bind (wpAny_mono h₃ (fun x s₄ h₄ => wpAny_bind (wpAny_mono h₄ (fun _ s₅ h₅ => wpAny_pure (wpAny_pure ⟨rfl, h₅⟩)) fun _ _ h' => h')) fun _ _ h' => h'))

/-! the captured cells -/
noncomputable def capt (cells : List (Str × Addr)) : List (Str × NameKind) → List (Str × Addr) → List (Str × Addr)
  | [], cs => cs
  | (n, k) :: r, cs => capt cells r (if k == .free then (n, (cells.lookup n).getD 0) :: cs else cs)
theorem closureFor_capt {scope : Scope} {env : Env} (h : ∀ x ∈ scope.names, x.2 = .free → ∃ c, env.cells.lookup x.1 = some c) : closureFor scope env = pure (capt env.cells scope.names []) := by
  have key : ∀ (names : List (Str × NameKind)) (cs : List (Str × Addr)), (∀ x ∈ names, x.2 = .free → ∃ c, env.cells.lookup x.1 = some c) →
      (forIn names cs (fun (x : Str × NameKind) (r : List (Str × Addr)) => (if (x.2 == NameKind.free) = true then do let c ← cellOf env x.1; pure (ForInStep.yield ((x.1, c) :: r)) else pure (ForInStep.yield r) : Sem (ForInStep (List (Str × Addr)))))) = pure (capt env.cells names cs) := by
    intro names
    induction names with
    | nil => intro cs _; rfl
    | cons x r ih =>
      intro cs hx
      obtain ⟨n, k⟩ := x
      rw [List.forIn_cons]
      by_cases hk : (k == NameKind.free) = true
      · have hk' : k = .free := by simpa using hk
        obtain ⟨c, hc⟩ := hx (n, k) (List.mem_cons_self ..) hk'
        simp only [hk, if_true, cellOf, capt] at hc ⊢
        rw [hc]
        simp only [pure_bind, Option.getD_some]
        exact ih _ fun y hy => hx y (List.mem_cons_of_mem _ hy)
      · simp only [hk, Bool.false_eq_true, if_false, pure_bind, capt]
        exact ih _ fun y hy => hx y (List.mem_cons_of_mem _ hy)
  exact (congrArg (fun m => m >>= fun s => pure s) (key scope.names [] h)).trans (pure_bind ..)
theorem capt_mem {cells : List (Str × Addr)} : ∀ {names : List (Str × NameKind)} {cs : List (Str × Addr)} {p : Str × Addr}, p ∈ capt cells names cs → p ∈ cs ∨ ((p.1, .free) ∈ names ∧ p.2 = (cells.lookup p.1).getD 0)
  | [], _, _, h => .inl h
  | (n, k) :: r, cs, p, h => by
    rcases capt_mem (names := r) h with h' | ⟨h1, h2⟩
    · split at h'
      · rename_i hk
        have hk' : k = .free := by simpa using hk
        rcases List.mem_cons.mp h' with rfl | h'
        · exact .inr ⟨by simp [hk'], rfl⟩
        · exact .inl h'
      · exact .inl h'
    · exact .inr ⟨List.mem_cons_of_mem _ h1, h2⟩
theorem capt_of_acc {cells : List (Str × Addr)} : ∀ {names : List (Str × NameKind)} {cs : List (Str × Addr)} {p : Str × Addr}, p ∈ cs → p ∈ capt cells names cs
  | [], _, _, h => h
  | (n, k) :: r, cs, p, h => by
    refine capt_of_acc (names := r) ?_
    split
    · exact List.mem_cons_of_mem _ h
    · exact h
theorem capt_has {cells : List (Str × Addr)} : ∀ {names : List (Str × NameKind)} {cs : List (Str × Addr)} {x : Str}, (x, .free) ∈ names → (x, (cells.lookup x).getD 0) ∈ capt cells names cs
  | [], _, _, h => nomatch h
  | (n, k) :: r, cs, x, h => by
    rcases List.mem_cons.mp h with e | h
    · cases e
      refine capt_of_acc (names := r) ?_
      rw [if_pos (by rfl)]
      exact List.mem_cons_self ..
    · exact capt_has (names := r) h
theorem lookup_some_of_mem {α : Type} : ∀ {l : List (Str × α)} {x : Str} {a : α}, (x, a) ∈ l → ∃ b, l.lookup x = some b
  | [], _, _, h => nomatch h
  | (y, b) :: r, x, a, h => by
    rw [List.lookup_cons]
    cases e : x == y with
    | true => exact ⟨b, rfl⟩
    | false =>
      rcases List.mem_cons.mp h with q | h
      · cases q; simp at e
      · exact lookup_some_of_mem h

structure ClOK (env : Env) (scope : Scope) (cl : List (Str × Addr)) : Prop where
  eq : closureFor scope env = pure cl
  out : ∀ n c, cl.lookup n = some c → env.cells.lookup n = some c
  has : ∀ n, (n, .free) ∈ scope.names → ∃ c, cl.lookup n = some c
theorem clOK {env : Env} {scope : Scope} (h : ∀ x ∈ scope.names, x.2 = .free → ∃ c, env.cells.lookup x.1 = some c) : ClOK env scope (capt env.cells scope.names []) := by
  refine ⟨closureFor_capt h, fun n c l => ?_, fun n hn => lookup_some_of_mem (capt_has hn)⟩
  rcases capt_mem (mem_of_lookup l) with h' | ⟨h1, h2⟩
  · cases h'
  · obtain ⟨c', hc'⟩ := h _ h1 rfl
    have e2 : c = (env.cells.lookup n).getD 0 := h2
    have e3 : env.cells.lookup n = some c' := hc'
    rw [e3] at e2 ⊢
    rw [e2]; rfl

/-! relabelling -/
theorem relabel_scope (scope : Scope) (env : Env) : relabel scope env = relabel scope (envAt env.scope) := rfl
theorem relabel_cell {env : Env} : ∀ {names : List (Str × NameKind)} {x : Str}, (names.map fun (n, k) => if (k == NameKind.free && env.scope.kind == .function && env.kindOf n == some .cell) then (n, NameKind.cell) else (n, k)).lookup x = some .cell →
    (x, .cell) ∈ names ∨ (x, .free) ∈ names
  | [], _, h => by simp at h
  | (n, k) :: r, x, h => by
    rw [List.map_cons] at h
    dsimp only at h
    by_cases hc : (k == NameKind.free && env.scope.kind == .function && env.kindOf n == some .cell) = true
    · rw [if_pos hc, List.lookup_cons] at h
      cases hx : x == n with
      | true =>
        have e : x = n := by simpa using hx
        subst e
        have : k = .free := by simp at hc; exact hc.1.1
        subst this
        exact .inr (List.mem_cons_self ..)
      | false =>
        rw [hx] at h
        exact (relabel_cell (env := env) h).imp (List.mem_cons_of_mem _) (List.mem_cons_of_mem _)
    · rw [if_neg hc, List.lookup_cons] at h
      cases hx : x == n with
      | true =>
        have e : x = n := by simpa using hx
        subst e
        rw [hx] at h
        cases h
        exact .inl (List.mem_cons_self ..)
      | false =>
        rw [hx] at h
        exact (relabel_cell (env := env) h).imp (List.mem_cons_of_mem _) (List.mem_cons_of_mem _)
theorem relabel_free {env : Env} : ∀ {names : List (Str × NameKind)} {x : Str}, names.lookup x = some .free →
    (names.map fun (n, k) => if (k == NameKind.free && env.scope.kind == .function && env.kindOf n == some .cell) then (n, NameKind.cell) else (n, k)).lookup x = some .cell ∨
    (names.map fun (n, k) => if (k == NameKind.free && env.scope.kind == .function && env.kindOf n == some .cell) then (n, NameKind.cell) else (n, k)).lookup x = some .free
  | [], _, h => by simp at h
  | (n, k) :: r, x, h => by
    rw [List.map_cons]
    rw [List.lookup_cons] at h
    dsimp only
    cases hx : x == n with
    | true =>
      rw [hx] at h
      cases h
      split
      · rw [List.lookup_cons, hx]; exact .inl rfl
      · rw [List.lookup_cons, hx]; exact .inr rfl
    | false =>
      rw [hx] at h
      have ih := relabel_free (env := env) h
      split
      · rw [List.lookup_cons, hx]; exact ih
      · rw [List.lookup_cons, hx]; exact ih

section
variable {G : GCtx} {C : SC} {env : Env} {A : Around} {P : Addr → Prop} {σ : Vars} {tm tm' : List (Addr × List MV)} {F F' : FMap} {s : Shared}

structure WTs (G : GCtx) (C : SC) (ifs : List Expr) (σ : Vars) (Q : Bool → Vars → Prop) : Prop where
  run : ∀ env A P tm F s, Pre G C env A P σ tm F s →
    wpAny (model G.prog G.w) A (testsOf ifs env) (BP G C env A P s F tm Q) (fun _ _ => False) s
theorem WTs.thn {ifs : List Expr} {Q : Bool → Vars → Prop} {R : Bool → Shared → Prop} {E : Value → Shared → Prop} (h : WTs G C ifs σ Q) (p : Pre G C env A P σ tm F s) (k : ∀ b s' σ' F', Aft G C env A P s F σ' tm F' s' → Q b σ' → R b s') :
    wpAny (model G.prog G.w) A (testsOf ifs env) R E s := wpAny_mono (h.run env A P tm F s p) (fun v s' x => x.rec (k v s')) fun _ _ x => x.elim
theorem WTs_nil {Q : Bool → Vars → Prop} (h : Q true σ) : WTs G C [] σ Q := .mk fun env A P tm F s p => wpAny_tests_nil ⟨σ, F, .refl p, h⟩
theorem WTs_one {e : Expr} {Q : Bool → Vars → Prop} (h : WB G C e σ Q) : WTs G C [e] σ Q := .mk fun env A P tm F s p => wpAny_tests_one (h.run env A P tm F s p)

theorem Pre.tmChange {a : Addr} {xs xs' : List MV} (p : Pre G C env A P σ ((a, xs) :: tm) F s) {h' : Heap} {tk : Nat} (hs : Heap.SameBut a s.heap h') {vs : List Value} (hl : PlainL h' a vs.toArray) (hv : VReps F xs' vs) :
    Aft G C env A P s F σ ((a, xs') :: tm) F { s with heap := h', toks := tk } := by
  have ho := p.rep.tms (a, xs) (List.mem_cons_self ..)
  have nt : a ≠ G.tp := fun q => p.rep.ptab (q ▸ ho.p)
  have B := p.rep.base.sameBut hs ho.f nt
  have st : Step G P s.heap F h' F := Step.sameBut ho.p hs
  obtain ⟨ws, hil⟩ := ho.isList
  obtain ⟨m, hns, hvs⟩ := p.rep.vars
  have R := p.rep
  have nd := List.nodup_cons.mp (show (a :: tm.map (·.1)).Nodup from R.tmd)
  refine ⟨⟨p.sc, p.room, p.fs, st.fresh B p.fresh, ⟨B, R.ptab, R.kind, R.glb, R.blt, R.plocals, R.flocals, R.cells, fun n c l => ?_, R.cinj, ⟨m, hns.sameBut hs (Ne.symm (Heap.IsList.ne_ns hil hns)), fun y mu e => ?_⟩, R.dist, fun y b ys e t ht => ?_, fun t ht => ?_, nd.1 |> fun h => List.nodup_cons.mpr ⟨h, nd.2⟩⟩⟩, st, h', tk, rfl⟩
  · obtain ⟨v, hc⟩ := R.cellex n c l
    exact ⟨v, hc.sameBut hs (Ne.symm (Heap.IsList.ne_cell hil hc))⟩
  · obtain ⟨v, at', r⟩ := hvs y mu e
    refine ⟨v, ?_, ?_⟩
    · rcases at' with r | ⟨k, c, l, hcell⟩
      · exact .inl r
      · exact .inr ⟨k, c, l, hcell.sameBut hs (Ne.symm (Heap.IsList.ne_cell hil hcell))⟩
    · cases mu with
      | own b ys => exact ⟨r.1, r.2.sameBut hs (R.tdist y b ys e (a, xs) (List.mem_cons_self ..))⟩
      | _ => exact r
  · rcases List.mem_cons.mp ht with rfl | ht
    · exact R.tdist y b ys e (a, xs) (List.mem_cons_self ..)
    · exact R.tdist y b ys e t (List.mem_cons_of_mem _ ht)
  · rcases List.mem_cons.mp ht with rfl | ht
    · exact ⟨ho.p, ho.f, vs, hl, hv⟩
    · exact (R.tms t (List.mem_cons_of_mem _ ht)).sameBut hs fun q => nd.1 (q ▸ List.mem_map_of_mem ht)

/-- fewer variables -/
theorem Pre.less (p : Pre G C env A P σ tm F s) {σ₀ : Vars} (h : ∀ x mv, σ₀.get x = some mv → σ.get x = some mv) : Pre G C env A P σ₀ tm F s := by
  have R := p.rep
  obtain ⟨m, hns, hvs⟩ := R.vars
  exact ⟨p.sc, p.room, p.fs, p.fresh, ⟨R.base, R.ptab, R.kind, R.glb, R.blt, R.plocals, R.flocals, R.cells, R.cellex, R.cinj, ⟨m, hns, fun x mv e => hvs x mv (h x mv e)⟩, fun x y a xs ys e e' => R.dist x y a xs ys (h _ _ e) (h _ _ e'), fun x a xs e => R.tdist x a xs (h _ _ e), R.tms, R.tmd⟩⟩

noncomputable abbrev compSC (C : SC) (scope : Scope) : SC := ⟨C.k, relabel scope (envAt C.scope), false, C.Fs⟩
noncomputable def NotOwn : MV → Prop
  | .own _ _ => False
  | _ => True
noncomputable def Caps (σ : Vars) (scope : Scope) : Vars → Prop
  | [] => True
  | (x, mv) :: r => σ.get x = some mv ∧ scope.names.lookup x = some .free ∧ NotOwn mv ∧ Caps σ scope r
theorem Caps.get {scope : Scope} : ∀ {σ₀ : Vars} {x : Str} {mv : MV}, Caps σ scope σ₀ → σ₀.get x = some mv → σ.get x = some mv ∧ scope.names.lookup x = some .free ∧ NotOwn mv
  | [], _, _, _, h => by simp [Vars.get] at h
  | (y, v) :: r, x, mv, hc, h => by
    simp only [Vars.get] at h
    split at h
    · rename_i e; subst e; cases h; exact ⟨hc.1, hc.2.1, hc.2.2.1⟩
    · exact hc.2.2.2.get h
theorem Vars.setAll_get {x : Str} : ∀ {names : List Str} {vs : List MV} {σ : Vars}, x ∉ names → (σ.setAll names vs).get x = σ.get x
  | [], [], _, _ => rfl
  | [], _ :: _, _, _ => rfl
  | _ :: _, [], _, _ => rfl
  | n :: ns, v :: vs, σ, h => by
    rw [Vars.setAll, Vars.setAll_get (names := ns) fun q => h (List.mem_cons_of_mem _ q), Vars.get_set, if_neg fun e => h (by rw [e]; exact List.mem_cons_self ..)]

inductive CompI (G : GCtx) (C : SC) (Ce : Env) (A : Around) (P' : Addr → Prop) (σ₀ : Vars) (D : Addr) (sm : Shared) (F : FMap) (len : Nat) (gd : List Addr) (St : Nat → Heap → Prop) (Y : Nat → List MV) (n : Nat) (s' : Shared) : Prop
  | mk (i : Nat) (F' : FMap) (ys : List MV) (hi : i ≤ len) (hn : n = len + 1 - i) (hy : ys = Y i) (p : Pre G C Ce A P' σ₀ [(D, ys)] F' s') (stp : Step G (Fresh sm.heap) sm.heap F s'.heap F') (rs : ∃ h tk, s' = { sm with heap := h, toks := tk }) (hfw : ∀ b ∈ gd, F' b = none) (st : St i s'.heap)
theorem compCore {tgt : Expr} {names : List Str} {elt iter : Expr} {ifs : List Expr} {scope : Scope} {pos : Pos} {cl : List (Str × Addr)} {items : List (List MV)} {sm : Shared} {I : Addr} {fp gd : List Addr} {Pi : Nat → List Value → Prop} {St : Nat → Heap → Prop}
    {RR : Value → Addr → Result → Shared → Prop} {hh : Heap} {tk : Nat} {σ₀ : Vars} {keepf : List MV → Bool} {f : List MV → MV} (p : Pre G C env A P σ tm F sm)
    (hk : ∀ a o, sm.heap.get? a = some o → hh.get? a = some o) (W : IterT G.prog G.w A tgt names I fp gd items.length Pi St) (st0 : St 0 hh) (hPi : ∀ i vals, Pi i vals → ∃ mvs, items[i]? = some mvs ∧ VReps F mvs vals)
    (hfp : ∀ b ∈ fp, b ∉ gd → ∃ o, F b = some o) (hgd : ∀ b ∈ gd, sm.heap.get? b = none) (hcl : ClOK env scope cl)
    (hnm : ∀ x ∈ names, scope.names.lookup x = some .local) (hcell : ∀ y ∈ scope.names, y.2 ≠ .cell) (hkind : scope.kind = .function) (hfree : ∀ y ∈ scope.names, y.2 = .free → C.scope.names.lookup y.1 = some .cell)
    (hcap : Caps σ scope σ₀) (hsz : items.length ≤ 1000000)
    (htests : ∀ x₁ ∈ items, WTs G (compSC C scope) ifs (σ₀.setAll names x₁) (fun b σ'' => σ'' = σ₀.setAll names x₁ ∧ b = keepf x₁))
    (helt : ∀ x₁ ∈ items, keepf x₁ = true → WE G (compSC C scope) elt (σ₀.setAll names x₁) (fun v σ'' => σ'' = σ₀.setAll names x₁ ∧ v = f x₁))
    (hRR : ∀ D Cc h' tk' m' F', h'.Ns Cc m' → Cc ≠ D → F' Cc = none → sm.heap.get? Cc = none → sm.heap.get? D = none → Base G F' h' → Step G (Fresh sm.heap) sm.heap F h' F' → OwnAt (Fresh sm.heap) F' h' D ((items.filter keepf).map f) → RR (.ref D) Cc (.ok .next) { sm with heap := h', toks := tk' }) :
    wpAny (model G.prog G.w) A (newList []) (fun acc s₃ => wpAny (model G.prog G.w) A (newFunctionEnv scope env.globals cl [] env.qual none .none (some env)) (fun cenv s₄ =>
      codeAny (model G.prog G.w) A (.compStart (.ListComp elt [⟨tgt, iter, ifs, 0⟩] scope pos) 0 (.ref I) acc { cenv with scope := relabel scope env }) (RR acc cenv.locals) s₄) (fun _ _ => False) s₃) (fun _ _ => False) { sm with heap := hh, toks := tk } := by
  refine wpAny_newObj_type (wpAny_newFunctionEnv hcell (by intro y hy; simp at hy) (fun h₁ hns₁ hsb₁ => ?_) hkind)
  dsimp only at hns₁ hsb₁ ⊢
  generalize hH2 : hh.push { cls := .type "list", dict := none, data := .seq ([] : List Value).toArray } = H2 at hns₁ hsb₁ ⊢
  have hC : H2.objs.size = hh.objs.size + 1 := by rw [← hH2, Heap.size_push]
  have hDC : hh.objs.size ≠ H2.objs.size := by rw [hC]; exact Nat.ne_of_lt (Nat.lt_succ_self _)
  have below : ∀ b, b < hh.objs.size → b ≠ H2.objs.size ∧ b ≠ hh.objs.size := fun b hb => ⟨by rw [hC]; exact Nat.ne_of_lt (Nat.lt_succ_of_lt hb), Nat.ne_of_lt hb⟩
  have old : ∀ b o, hh.get? b = some o → h₁.get? b = some o := fun b o e => hsb₁.extBut b o (below b (Heap.lt_size e)).1 (Heap.get?_push_of_some _ (hH2 ▸ Heap.get?_push_of_some _ e))
  have up : ∀ b o, sm.heap.get? b = some o → h₁.get? b = some o := fun b o e => old b o (hk b o e)
  have notold : ∀ {a}, hh.objs.size ≤ a → sm.heap.get? a = none := fun {a} ha => by
    cases e : sm.heap.get? a with
    | none => rfl
    | some o => exact absurd (Heap.lt_size (hk _ _ e)) (Nat.not_lt.mpr ha)
  have gdlt : ∀ b ∈ gd, b < hh.objs.size := fun b hb => let ⟨o, e⟩ := W.live 0 _ st0 b hb; Heap.lt_size e
  have notgd : ∀ {a}, hh.objs.size ≤ a → a ∉ gd := fun {a} ha hb => absurd (gdlt a hb) (Nat.not_lt.mpr ha)
  have frz : ∀ {a}, sm.heap.get? a = none → F a = none := fun {a} e => by
    cases q : F a with
    | none => rfl
    | some o => rw [p.rep.base.sub _ _ q] at e; cases e
  have hCn := notold (a := H2.objs.size) (by rw [hC]; exact Nat.le_succ _)
  have hDn := notold (a := hh.objs.size) (Nat.le_refl _)
  have hCg := notgd (a := H2.objs.size) (by rw [hC]; exact Nat.le_succ _)
  have hDg := notgd (a := hh.objs.size) (Nat.le_refl _)
  have hDh : h₁.get? hh.objs.size = some { cls := .type "list", dict := none, data := .seq ([] : List Value).toArray } := hsb₁.extBut _ _ hDC (Heap.get?_push_of_some _ (hH2 ▸ Heap.get?_push_size _ rfl))
  have hacc : PlainL h₁ hh.objs.size #[] := ⟨_, 0, hDh, rfl, rfl, rfl⟩
  let P' : Addr → Prop := fun a => sm.heap.get? a = none ∧ a ∉ gd
  let Ce : Env := compEnvC scope cl H2.objs.size env
  have htp : G.tp ∉ gd := fun hb => by
    obtain ⟨ps, e, _⟩ := p.rep.base.tab
    rw [hgd _ hb] at e; cases e
  have hst₁ : St 0 h₁ := W.frame _ _ _ st0 fun b _ o e => old b o e
  have kindf : ∀ {x}, env.kindOf x = C.scope.names.lookup x := fun {x} => by show env.scope.names.lookup x = _; rw [p.sc]
  have p0 : Pre G (compSC C scope) Ce A P' σ₀ [(hh.objs.size, [])] F { sm with heap := h₁, toks := tk } := by
    refine ⟨by show relabel scope env = _; rw [relabel_scope, p.sc], p.room, p.fs, fun a e => ⟨?_, fun hb => ?_⟩, ⟨p.rep.base.grow up, fun q => ?_, hkind, p.rep.glb, p.rep.blt, ⟨hCn, hCg⟩, frz hCn, fun n kn => ?_, fun n c l => ?_, fun n n' c l l' => p.rep.cinj n n' c (hcl.out _ _ l) (hcl.out _ _ l'), ?_, fun x y a xs ys e _ => ?_, fun x a xs e t ht => ?_, fun t ht => ?_, List.nodup_cons.mpr ⟨List.not_mem_nil, List.nodup_nil⟩⟩⟩
    · cases q : sm.heap.get? a with
      | none => rfl
      | some o => have e' : h₁.get? a = none := e; rw [up _ _ q] at e'; cases e'
    · obtain ⟨o, q⟩ := W.live 0 _ hst₁ a hb
      have e' : h₁.get? a = none := e
      rw [q] at e'; cases e'
    · obtain ⟨ps, e, _⟩ := p.rep.base.tab
      rw [q.1] at e; cases e
    · rcases relabel_cell (env := env) kn with h' | h'
      · exact absurd rfl (hcell _ h')
      · obtain ⟨c, l⟩ := hcl.has n h'
        exact ⟨c, l, fun q => nomatch q⟩
    · obtain ⟨v, o, e, d⟩ := p.rep.cellex n c (hcl.out n c l)
      exact ⟨v, o, up _ _ e, d⟩
    · obtain ⟨m, hns, hvs⟩ := p.rep.vars
      refine ⟨_, hns₁, fun x mv e => ?_⟩
      obtain ⟨e1, e2, e3⟩ := hcap.get e
      obtain ⟨v, at', r⟩ := hvs x mv e1
      refine ⟨v, ?_, ?_⟩
      · have kc := hfree (x, .free) (mem_of_lookup e2) rfl
        rcases at' with ⟨kl, _⟩ | ⟨_, c, l, o, ho, hd⟩
        · rw [kindf] at kl; rw [show C.scope.names.lookup x = _ from kc] at kl; cases kl
        · obtain ⟨c', l'⟩ := hcl.has x (mem_of_lookup e2)
          have := hcl.out _ _ l'
          rw [l] at this; cases this
          exact .inr ⟨relabel_free (env := env) e2, c, l', o, up _ _ ho, hd⟩
      · cases mv with
        | own a xs => exact e3.elim
        | _ => exact r
    · obtain ⟨_, _, e3⟩ := hcap.get e
      exact e3.elim
    · obtain ⟨_, _, e3⟩ := hcap.get e
      exact e3.elim
    · cases List.mem_singleton.mp ht
      exact ⟨⟨hDn, hDg⟩, frz hDn, [], hacc, .nil⟩
  have stor : ∀ x ∈ names, Storable (compSC C scope) x := fun x hx => .inl (lookup_relabel_local (hnm x hx))
  have disj : ∀ x mv, σ₀.get x = some mv → x ∉ names := fun x mv e hx => by
    have := (hcap.get e).2.1
    rw [hnm x hx] at this; cases this
  have loop : codeAny (model G.prog G.w) A (.compLoop (.ListComp elt [⟨tgt, iter, ifs, 0⟩] scope pos) 0 (.ref I) (.ref hh.objs.size) Ce) (RR (.ref hh.objs.size) H2.objs.size) { sm with heap := h₁, toks := tk + ([] : List (Str × Value)).length } := by
    refine compLoopT (CompI G (compSC C scope) Ce A P' σ₀ hh.objs.size sm F items.length gd St ((fun i => ((items.take i).filter keepf).map f)))
      ?_ (items.length + 1) ⟨0, F, [], Nat.zero_le _, rfl, by simp, p0, Step.grow up, ⟨_, _, rfl⟩, fun b hb => frz (hgd b hb), hst₁⟩
    rintro n s' ⟨i, F', ys, hi, rfl, hys, p', stp, ⟨h', tk', rfl⟩, hfw, hst⟩
    by_cases hlt : i < items.length
    · refine W.turn Ce i _ _ _ _ hlt hst fun vals h₂ tk₂ hP hst₂ hk₂ => ?_
      obtain ⟨x₁, hx₁, hr⟩ := hPi i vals hP
      have hmem : x₁ ∈ items := List.mem_of_getElem? hx₁
      have hclg : ∀ n c, Ce.cells.lookup n = some c → c ∉ gd := fun n c l hb => by
        obtain ⟨v, o, e, _⟩ := p.rep.cellex n c (hcl.out n c l)
        rw [hgd c hb] at e; cases e
      have p₂ : Pre G (compSC C scope) Ce A P' σ₀ [(hh.objs.size, ys)] F' { sm with heap := h₂, toks := tk₂ } := p'.turned (wr := gd) (tk := tk₂) hk₂ (fun b hb => ⟨fun q => q.2 hb, hfw b hb, fun q => htp (q ▸ hb)⟩) hclg fun b hb => W.live _ _ hst₂ b hb
      have stp₂ : Step G (Fresh sm.heap) sm.heap F h₂ F' := stp.trans ⟨fun a o hp _ e => hk₂ a o (fun hb => hp (hgd a hb)) e, fun _ _ _ _ _ => rfl, FMap.le.refl _⟩
      refine p₂.storeAll stor (hr.mono stp₂.mono) fun s₃ a₃ => ?_
      refine (htests x₁ hmem).thn a₃.pre (fun ok s₄ σ₄ F₄ a₄ e4k => ?_)
      obtain ⟨e4, ek⟩ := e4k
      subst e4
      have a34 := a₃.trans a₄
      have gen : ∀ {s₅ : Shared} {F₅ : FMap} {ys' : List MV}, Aft G (compSC C scope) Ce A P' { sm with heap := h₂, toks := tk₂ } F' (σ₀.setAll names x₁) [(hh.objs.size, ys')] F₅ s₅ → ys' = ((items.take (i + 1)).filter keepf).map f →
          ∃ m, m < items.length + 1 - i ∧ CompI G (compSC C scope) Ce A P' σ₀ hh.objs.size sm F items.length gd St (fun i => ((items.take i).filter keepf).map f) m s₅ := fun {s₅ F₅ ys'} a ey => by
        refine ⟨items.length + 1 - (i + 1), by omega, i + 1, F₅, ys', hlt, rfl, ey, a.pre.less fun x mv e => by rw [Vars.setAll_get (disj x mv e)]; exact e, stp₂.trans (a.step.weaken fun _ q => q.1), by obtain ⟨h, t, rfl⟩ := a.rest; exact ⟨h, t, rfl⟩, fun b hb => ?_, W.frame _ _ _ hst₂ fun b hb o e => ?_⟩
        · obtain ⟨o, e⟩ := W.live _ _ hst₂ b hb
          exact (a.step.frz b o (fun q => q.2 hb) (fun q => htp (q ▸ hb)) e).trans (hfw b hb)
        · by_cases hw : b ∈ gd
          · exact a.step.keep b o (fun q => q.2 hw) (fun q => htp (q ▸ hw)) e
          · obtain ⟨o', e'⟩ := hfp b hb hw
            have e1 := p₂.rep.base.sub b o' (stp₂.mono b o' e')
            have e2 : h₂.get? b = some o' := e1
            rw [e2] at e; cases e
            exact a.pre.rep.base.sub b o (a.step.mono b o (stp₂.mono b o e'))
      cases hko : keepf x₁ with
      | false =>
        rw [hko] at ek; subst ek
        simp only [Bool.false_eq_true, if_false]
        exact gen a34 (by rw [hys, take_succ_filter keepf _ i x₁ hx₁, hko]; simp)
      | true =>
        rw [hko] at ek; subst ek
        simp only [if_true]
        refine (helt x₁ hmem hko).thn a₄.pre (fun v s₅ mv σ₅ F₅ a₅ r e5v => ?_)
        obtain ⟨e5, ev⟩ := e5v
        subst e5 ev
        obtain ⟨_, _, us, hl, hu⟩ := a₅.pre.rep.tms _ (List.mem_cons_self ..)
        have hul : us.length ≤ items.length := by
          rw [hu.length, hys, List.length_map]
          exact Nat.le_trans (List.length_filter_le _ _) (by rw [List.length_take]; omega)
        refine PlainL_append hl (by rw [sizeLine_eq]; simp; omega) fun h' hl' hs' => ?_
        have e' : us.toArray.push v = (us ++ [v]).toArray := by simp
        rw [e'] at hl'
        have a₆ := a₅.pre.tmChange (tk := s₅.toks) hs' hl' (hu.append (.cons r .nil))
        exact gen ((a34.trans a₅).trans a₆) (by rw [hys, take_succ_filter keepf _ i x₁ hx₁, hko]; simp)
    · have hie : i = items.length := by omega
      subst hie
      refine W.done _ _ _ _ hst fun h₂ tk₂ hk₂ => ?_
      rw [List.take_length] at hys
      subst hys
      have hclg : ∀ n c, Ce.cells.lookup n = some c → c ∉ gd := fun n c l hb => by
        obtain ⟨v, o, e, _⟩ := p.rep.cellex n c (hcl.out n c l)
        rw [hgd c hb] at e; cases e
      have p₂ := p'.turnedTo (P' := Fresh sm.heap) (wr := gd) (tk := tk₂) hk₂ (fun b hb => ⟨fun q => q.2 hb, hfw b hb, fun q => htp (q ▸ hb)⟩) hclg (fun _ q => q.1) (fun q => by
        obtain ⟨ps, e, _⟩ := p.rep.base.tab
        rw [show sm.heap.get? G.tp = none from q] at e; cases e) fun b hb => .inl (hgd b hb)
      obtain ⟨m', hn', _⟩ := p₂.rep.vars
      refine hRR hh.objs.size H2.objs.size h₂ tk₂ m' F' hn' (Ne.symm hDC) p₂.rep.flocals hCn hDn p₂.rep.base (stp.trans ⟨fun a o hp _ e => hk₂ a o (fun hb => hp (hgd a hb)) e, fun _ _ _ _ _ => rfl, FMap.le.refl _⟩) (p₂.rep.tms _ (List.mem_cons_self ..))
  exact codeAny_compStart_list loop (W.self 0 _ _ _ hst₁ loop)

/-- the new list beside the frame -/
theorem Pre.addTm {h' : Heap} {tk : Nat} {F' : FMap} {D : Addr} {xs : List MV} (p : Pre G C env A P σ tm F s) (B : Base G F' h') (st : Step G (Fresh s.heap) s.heap F h' F') (ho : OwnAt (Fresh s.heap) F' h' D xs) :
    Aft G C env A P s F σ ((D, xs) :: tm) F' { s with heap := h', toks := tk } := by
  have a := p.grow (tk := tk) B st
  have R := a.pre.rep
  have hD : s.heap.get? D = none := ho.p
  obtain ⟨m, hns, hvs⟩ := p.rep.vars
  have ne : ∀ {b ys}, OwnAt P F s.heap b ys → b ≠ D := fun {b ys} o q => by
    obtain ⟨o', e⟩ := o.some
    rw [q, hD] at e; cases e
  refine ⟨⟨a.pre.sc, a.pre.room, a.pre.fs, a.pre.fresh, ⟨R.base, R.ptab, R.kind, R.glb, R.blt, R.plocals, R.flocals, R.cells, R.cellex, R.cinj, R.vars, R.dist, fun y b ys e t htm => ?_, fun t htm => ?_, List.nodup_cons.mpr ⟨fun hm => ?_, R.tmd⟩⟩⟩, a.step, a.rest⟩
  · rcases List.mem_cons.mp htm with rfl | htm
    · obtain ⟨u, _, r⟩ := hvs y _ e
      exact ne r.2
    · exact R.tdist y b ys e t htm
  · rcases List.mem_cons.mp htm with rfl | htm
    · exact ho.widen fun a q => p.fresh a q
    · exact R.tms t htm
  · obtain ⟨t, htm, e⟩ := List.mem_map.mp hm
    exact ne (p.rep.tms t htm) e

theorem Pre.shut {c : Addr} {m : Str → Option Value} (p : Pre G C env A P σ tm F s) (hc : s.heap.Ns c m) (hL : env.locals ≠ c) : Pre G C env A (fun a => P a ∧ a ≠ c) σ tm F s := by
  have R := p.rep
  have own' : ∀ {b ys}, OwnAt P F s.heap b ys → OwnAt (fun a => P a ∧ a ≠ c) F s.heap b ys := fun {b ys} o => ⟨⟨o.p, let ⟨us, hl⟩ := o.isList; Heap.IsList.ne_ns hl hc⟩, o.f, o.l⟩
  obtain ⟨m', hns, hvs⟩ := R.vars
  refine ⟨p.sc, p.room, p.fs, fun a e => ⟨p.fresh a e, fun q => ?_⟩, ⟨R.base, fun q => R.ptab q.1, R.kind, R.glb, R.blt, ⟨R.plocals, hL⟩, R.flocals, fun n k => ?_, R.cellex, R.cinj, ⟨m', hns, fun x mv e => ?_⟩, R.dist, R.tdist, fun t ht => own' (R.tms t ht), R.tmd⟩⟩
  · obtain ⟨o, _, _, ho, _⟩ := hc
    rw [q, ho] at e; cases e
  · obtain ⟨a, l, q⟩ := R.cells n k
    obtain ⟨v, hcell⟩ := R.cellex n a l
    exact ⟨a, l, fun w => ⟨⟨(q w).1, Heap.IsCell.ne_ns hcell hc⟩, (q w).2⟩⟩
  · obtain ⟨v, a, r⟩ := hvs x mv e
    refine ⟨v, a, ?_⟩
    cases mv with
    | own b ys => exact ⟨r.1, own' r.2⟩
    | _ => exact r

noncomputable def CompK (G : GCtx) (C : SC) (names : List Str) (ifs : List Expr) (elt : Expr) (scope : Scope) (items : List (List MV)) (σ₁ : Vars) (Q : List MV → Prop) : Prop :=
  ∃ σ₀ keepf f, Caps σ₁ scope σ₀ ∧ items.length ≤ 1000000 ∧
    (∀ x₁ ∈ items, WTs G (compSC C scope) ifs (σ₀.setAll names x₁) (fun b σ'' => σ'' = σ₀.setAll names x₁ ∧ b = keepf x₁)) ∧
    (∀ x₁ ∈ items, keepf x₁ = true → WE G (compSC C scope) elt (σ₀.setAll names x₁) (fun v σ'' => σ'' = σ₀.setAll names x₁ ∧ v = f x₁)) ∧ Q ((items.filter keepf).map f)

theorem WF_comp {tgt : Expr} {names : List Str} {elt iter : Expr} {ifs : List Expr} {scope : Scope} {pos : Pos} {Q : Addr → List MV → Vars → Prop}
    (hnm : ∀ x ∈ names, scope.names.lookup x = some .local) (hcell : ∀ y ∈ scope.names, y.2 ≠ .cell) (hkind : scope.kind = .function) (hnames : ∀ y ∈ scope.names, y.2 = .local → scope.names.lookup y.1 = some .local)
    (hfree : ∀ y ∈ scope.names, y.2 = .free → C.scope.names.lookup y.1 = some .cell)
    (h : WIT G C tgt names iter σ (fun items σ₁ => CompK G C names ifs elt scope items σ₁ (fun ys => ∀ a, Q a ys σ₁)))
    (hs : ∀ env x, foldedSetIterable iter env x = pure x := by intro _ _; rfl) : WF G C (.ListComp elt [⟨tgt, iter, ifs, 0⟩] scope pos) σ Q := .mk fun env A P tm F s p => by
  rw [eval_ListComp]
  have hcl := clOK (env := env) (scope := scope) fun x hx e => let ⟨c, l, _⟩ := p.rep.cells x.1 (by show env.scope.names.lookup x.1 = _; rw [p.sc]; exact hfree x hx e); ⟨c, l⟩
  refine wpAny_comprehension_free (use := none) rfl (hs env) hcl.eq hkind hnames (h.thn p fun it s₂ h₂ => ?_)
  obtain ⟨items, σ₂, F₂, sm, I, fp, gd, Pi, St, rfl, am, ⟨hh, tk, rfl⟩, hk, W, st0, hPi, hfp, hgd, σ₀, keepf, f, hcap, hsz, htests, helt, q⟩ := h₂
  refine compCore (RR := fun acc Cc => compPost (model G.prog G.w) A (fun _ _ => False) none (FP G C env A P s F tm Q) acc Cc) am.pre hk W st0 hPi hfp hgd hcl hnm hcell hkind hfree hcap hsz htests helt ?_
  intro D Cc h' tk' m' F' hn hCD hFC hCn hDn B st ho
  refine ⟨m', hn, fun h'' hs'' => ⟨D, _, σ₂, F', rfl, am.trans (am.pre.addTm (tk := tk') (B.sameBut hs'' hFC (Heap.Ns.ne_tab hn B.tab)) (st.trans (Step.sameBut (P := Fresh sm.heap) hCn hs'')) (ho.sameBut hs'' (Ne.symm hCD))), q D⟩⟩

end
end Mine
end
section
open PySem PySem.W PySem.Calls PyProof.Rows
namespace Mine

/-! ### fewer variables -/
noncomputable def Sub (σ₀ σ : Vars) : Prop := ∀ x mv, σ₀.get x = some mv → σ.get x = some mv
theorem Sub.refl (σ : Vars) : Sub σ σ := fun _ _ e => e
theorem Sub.nil {σ : Vars} : Sub [] σ := fun _ _ e => nomatch e
theorem Sub.cons {σ₀ σ : Vars} {x : Str} {v v' : MV} (h : σ.get x = some v') (e : v' = v) (r : Sub σ₀ σ) : Sub ((x, v) :: σ₀) σ := fun y mv h' => by
  subst e
  simp only [Vars.get] at h'
  split at h'
  · rename_i q; subst q; cases h'; exact h
  · exact r y mv h'
theorem Sub.set {σ₀ σ : Vars} (h : Sub σ₀ σ) (x : Str) (v : MV) : Sub (σ₀.set x v) (σ.set x v) := fun y mv e => by
  rw [Vars.get_set] at e ⊢
  split at e
  · rename_i q; rw [if_pos q]; exact e
  · rename_i q; rw [if_neg q]; exact h y mv e

section
variable {G : GCtx} {C : SC} {σ σ' σ₀ : Vars}
theorem WS.less {sts : List Stmt} {Q : MFlow → Vars → Prop} (h : WS G C sts σ₀ Q) (hs : Sub σ₀ σ) : WS G C sts σ Q := .mk fun env A P tm F s p =>
  h.thn (p.less hs) (fun f s' mf σ' F' a r q => ⟨mf, σ', F', ⟨a.pre, a.step, a.rest⟩, r, q⟩)
theorem WB.less {e : Expr} {Q : Bool → Vars → Prop} (h : WB G C e σ₀ Q) (hs : Sub σ₀ σ) : WB G C e σ Q := .mk fun env A P tm F s p =>
  h.thn (p.less hs) (fun f s' σ' F' a q => ⟨σ', F', ⟨a.pre, a.step, a.rest⟩, q⟩)

/-! ### what holds behind -/
noncomputable def seqP (G : GCtx) (C : SC) (rest : List Stmt) (Q : MFlow → Vars → Prop) : MFlow → Vars → Prop
  | .next, σ => WS G C rest σ Q
  | .brk, σ => Q .brk σ
  | .cont, σ => Q .cont σ
  | .ret v, σ => Q (.ret v) σ
theorem v_cons {st : Stmt} {rest : List Stmt} {Q : MFlow → Vars → Prop} (h : W1 G C st σ (seqP G C rest Q)) : WS G C (st :: rest) σ Q :=
  WS_cons (.mk fun env A P tm F s p => h.thn p (fun f s' mf σ' F' a r q => ⟨mf, σ', F', a, r, by cases mf <;> exact q⟩))
theorem seqP_next {rest : List Stmt} {Q : MFlow → Vars → Prop} (hs : σ = σ') (h : WS G C rest σ' Q) : seqP G C rest Q .next σ := by subst hs; exact h
theorem seqP_sub {rest : List Stmt} {Q : MFlow → Vars → Prop} (hs : Sub σ₀ σ) (h : WS G C rest σ₀ Q) : seqP G C rest Q .next σ := h.less hs
theorem seqP_ret {v : MV} {rest : List Stmt} {Q : MFlow → Vars → Prop} (h : Q (.ret v) σ) : seqP G C rest Q (.ret v) σ := h
theorem retP_ret {Q : MV → Prop} {v : MV} (h : Q v) : retP Q (.ret v) σ := h
noncomputable def ifP (T E : Vars → Prop) : Bool → Vars → Prop
  | true, σ => T σ
  | false, σ => E σ
theorem ifP_t {T E : Vars → Prop} (h : T σ) : ifP T E true σ := h
theorem ifP_f {T E : Vars → Prop} (h : E σ) : ifP T E false σ := h
theorem v_if {test : Expr} {body orelse : List Stmt} {pos : Pos} {Q : MFlow → Vars → Prop} (h : WB G C test σ (ifP (fun σ' => WS G C body σ' Q) (fun σ' => WS G C orelse σ' Q))) :
    W1 G C (.If test body orelse pos) σ Q := W1_if (h.mono fun b σ' q => by cases b <;> exact q)
theorem v_ifexp {test body orelse : Expr} {pos : Pos} {Q : MV → Vars → Prop} (h : WB G C test σ (ifP (fun σ' => WE G C body σ' Q) (fun σ' => WE G C orelse σ' Q))) :
    WE G C (.IfExp test body orelse pos) σ Q := WE_ifexp (h.mono fun b σ' q => by cases b <;> exact q)
theorem loopPost_next {Q : MFlow → Vars → Prop} {I : Vars → Prop} (h : I σ) : loopPost Q I .next σ := h
theorem loopPost_ret {Q : MFlow → Vars → Prop} {I : Vars → Prop} {v : MV} (h : Q (.ret v) σ) : loopPost Q I (.ret v) σ := h

/-! ### tests -/
noncomputable def notP (Q : Bool → Vars → Prop) : Bool → Vars → Prop := fun b σ => Q (!b) σ
theorem notP_t {Q : Bool → Vars → Prop} (h : Q false σ) : notP Q true σ := h
theorem notP_f {Q : Bool → Vars → Prop} (h : Q true σ) : notP Q false σ := h
theorem v_not {e : Expr} {pos : Pos} {Q : Bool → Vars → Prop} (h : WB G C e σ (notP Q)) : WB G C (.UnaryOp .Not e pos) σ Q := WB_not h
theorem v_and_nil {Q : Bool → Vars → Prop} (h : Q true σ) : WBs G C .And [] σ Q := WBs_and_nil h
theorem v_or_nil {Q : Bool → Vars → Prop} (h : Q false σ) : WBs G C .Or [] σ Q := WBs_or_nil h
theorem v_and {x : Expr} {rest : List Expr} {Q : Bool → Vars → Prop} (h : WB G C x σ (ifP (fun σ' => WBs G C .And rest σ' Q) (fun σ' => Q false σ'))) : WBs G C .And (x :: rest) σ Q :=
  WBs_and_cons (h.mono fun b σ' q => by cases b <;> exact q)
theorem v_or {x : Expr} {rest : List Expr} {Q : Bool → Vars → Prop} (h : WB G C x σ (ifP (fun σ' => Q true σ') (fun σ' => WBs G C .Or rest σ' Q))) : WBs G C .Or (x :: rest) σ Q :=
  WBs_or_cons (h.mono fun b σ' q => by cases b <;> exact q)

/-! ### loops -/
/-- what a loop keeps: some variables, and a word of some letters -/
noncomputable def Keeps {Y : Type} (L : Y → Vars) (P : Y → Prop) (σ : Vars) : Prop := ∃ y, P y ∧ Sub (L y) σ
theorem Keeps.intro {Y : Type} {L : Y → Vars} {P : Y → Prop} {σ : Vars} (y : Y) (hp : P y) (hs : Sub (L y) σ) : Keeps L P σ := ⟨y, hp, hs⟩
noncomputable def ForK (G : GCtx) (C : SC) (x : Str) (body : List Stmt) (Q : MFlow → Vars → Prop) (items : List MV) (σ : Vars) : Prop :=
  ∃ Inv : Nat → Vars → Prop, Inv 0 σ ∧ (∀ i x₁ σ', items[i]? = some x₁ → Inv i σ' → WS G C body (σ'.set x x₁) (loopPost Q (Inv (i + 1)))) ∧ ∀ σ', Inv items.length σ' → Q .next σ'
theorem v_for {x : Str} {px pos : Pos} {iter : Expr} {body : List Stmt} {Q : MFlow → Vars → Prop} (hx : Storable C x) (h : WI G C iter σ (ForK G C x body Q))
    (hs : ∀ env x, foldedSetIterable iter env x = pure x := by intro _ _; rfl) : W1 G C (.For (.Name x px) iter body [] pos) σ Q := W1_for hx h hs
theorem ForK.steps {x : Str} {body : List Stmt} {Q : MFlow → Vars → Prop} {a c : Int} {n : Nat} {Y : Type} (L : Nat → Y → Vars) (P : Nat → Y → Prop) (h0 : Keeps (L 0) (P 0) σ)
    (turn : ∀ i, i < n → ∀ y, P i y → WS G C body ((L i y).set x (.int (a + (i : Int) * c))) (loopPost Q (Keeps (L (i + 1)) (P (i + 1)))))
    (fin : ∀ y σ', P n y → Sub (L n y) σ' → Q .next σ') : ForK G C x body Q (rng a c n) σ := by
  refine ⟨fun i => Keeps (L i) (P i), h0, fun i x₁ σ' hx ⟨y, hp, hs⟩ => ?_, fun σ' h => ?_⟩
  · have hi : i < n := by
      have := (List.getElem?_eq_some_iff.mp hx).1
      rw [rng_length] at this; exact this
    rw [rng_get hi] at hx
    cases hx
    exact (turn i hi y hp).less (hs.set _ _)
  · rw [rng_length] at h
    obtain ⟨y, hp, hs⟩ := h
    exact fin y σ' hp hs
theorem ForK.list {x : Str} {body : List Stmt} {Q : MFlow → Vars → Prop} {items : List MV} {Y : Type} (L : Nat → Y → Vars) (P : Nat → Y → Prop) (h0 : Keeps (L 0) (P 0) σ)
    (turn : ∀ i x₁, items[i]? = some x₁ → ∀ y, P i y → WS G C body ((L i y).set x x₁) (loopPost Q (Keeps (L (i + 1)) (P (i + 1)))))
    (fin : ∀ y σ', P items.length y → Sub (L items.length y) σ' → Q .next σ') : ForK G C x body Q items σ :=
  ⟨fun i => Keeps (L i) (P i), h0, fun i x₁ σ' hx ⟨y, hp, hs⟩ => (turn i x₁ hx y hp).less (hs.set _ _), fun σ' ⟨y, hp, hs⟩ => fin y σ' hp hs⟩

noncomputable def ForT (G : GCtx) (C : SC) (names : List Str) (body : List Stmt) (Q : MFlow → Vars → Prop) (items : List (List MV)) (σ : Vars) : Prop :=
  ∃ Inv : Nat → Vars → Prop, Inv 0 σ ∧ (∀ i x₁ σ', items[i]? = some x₁ → Inv i σ' → WS G C body (σ'.setAll names x₁) (loopPost Q (Inv (i + 1)))) ∧ ∀ σ', Inv items.length σ' → Q .next σ'
theorem v_for2 {x y : Str} {px py pt pos : Pos} {k : Nat} {iter : Expr} {body : List Stmt} {Q : MFlow → Vars → Prop} (hx : Storable C x) (hy : Storable C y)
    (h : WIT G C (.Tuple [.Name x px, .Name y py] k pt) [x, y] iter σ (ForT G C [x, y] body Q))
    (hs : ∀ env x, foldedSetIterable iter env x = pure x := by intro _ _; rfl) : W1 G C (.For (.Tuple [.Name x px, .Name y py] k pt) iter body [] pos) σ Q :=
  W1_forT (fun z hz => by rcases List.mem_cons.mp hz with rfl | hz; exact hx; rw [List.mem_singleton.mp hz]; exact hy) h hs
theorem ForT.list {x₀ y₀ : Str} {body : List Stmt} {Q : MFlow → Vars → Prop} {items : List (List MV)} {Y : Type} (L : Nat → Y → Vars) (P : Nat → Y → Prop) (h0 : Keeps (L 0) (P 0) σ)
    (turn : ∀ i u v, items[i]? = some [u, v] → ∀ y, P i y → WS G C body (((L i y).set x₀ u).set y₀ v) (loopPost Q (Keeps (L (i + 1)) (P (i + 1)))))
    (h2 : ∀ x ∈ items, ∃ u v, x = [u, v])
    (fin : ∀ y σ', P items.length y → Sub (L items.length y) σ' → Q .next σ') : ForT G C [x₀, y₀] body Q items σ := by
  refine ⟨fun i => Keeps (L i) (P i), h0, fun i x₁ σ' hx ⟨y, hp, hs⟩ => ?_, fun σ' ⟨y, hp, hs⟩ => fin y σ' hp hs⟩
  obtain ⟨u, v, rfl⟩ := h2 x₁ (List.mem_of_getElem? hx)
  exact (turn i u v hx y hp).less ((hs.set _ _).set _ _)
theorem enumd_pairs {xs : List MV} : ∀ x ∈ enumd xs, ∃ u v, x = [u, v] := fun x hx => by
  obtain ⟨i, _, e⟩ := List.mem_map.mp hx; exact ⟨_, _, e.symm⟩
theorem enumd_at {xs : List MV} {i : Nat} {u v : MV} (h : (enumd xs)[i]? = some [u, v]) : u = .int i ∧ xs[i]? = some v := by
  obtain ⟨hi, e⟩ := List.getElem?_eq_some_iff.mp h
  have hi' : i < xs.length := by rw [enumd_length] at hi; exact hi
  have := enumd_get (List.getElem?_eq_getElem hi')
  rw [h] at this
  cases this
  exact ⟨rfl, List.getElem?_eq_getElem hi'⟩

theorem v_while {test : Expr} {body : List Stmt} {pos : Pos} {Q : MFlow → Vars → Prop} {Y : Type} (L : Y → Vars) (P : Y → Prop) (μ : Y → Nat) (h0 : Keeps L P σ)
    (turn : ∀ y, P y → WB G C test (L y) (ifP (fun σ'' => WS G C body σ'' (loopPost Q (Keeps L (fun y' => P y' ∧ μ y' < μ y)))) (fun σ'' => Q .next σ''))) :
    W1 G C (.While test body [] pos) σ Q := by
  obtain ⟨y0, hp0, hs0⟩ := h0
  refine W1_while (fun n σ => ∃ y, (P y ∧ μ y = n) ∧ Sub (L y) σ) (μ y0) ⟨y0, ⟨hp0, rfl⟩, hs0⟩ fun n σ' ⟨y, ⟨hp, hn⟩, hs⟩ => ?_
  refine ((turn y hp).less hs).mono fun b σ'' q => ?_
  cases b with
  | true =>
    refine WS.mono (show WS G C body σ'' _ from q) fun mf σ₃ q => ?_
    have key : ∀ σ, Keeps L (fun y' => P y' ∧ μ y' < μ y) σ → ∃ m, m < n ∧ ∃ y, (P y ∧ μ y = m) ∧ Sub (L y) σ := fun σ ⟨y', ⟨h1, h2⟩, h3⟩ => ⟨μ y', by omega, y', ⟨h1, rfl⟩, h3⟩
    cases mf with
    | next => exact key _ q
    | cont => exact key _ q
    | brk => exact q
    | ret v => exact q
  | false => exact q

/-! ### calls -/
theorem call_det {k k' : Nat} {Fs : FMap} {f : Value} {args : List MV} {r : MV} {Q : MV → Prop} (h : CallOK G k Fs f args (fun v => v = r)) (hk : k ≤ k') (q : Q r) : CallK G k' Fs f args Q :=
  ⟨k, hk, h.mono (Nat.le_refl _) (FMap.le.refl _) fun v e => by subst e; exact q⟩
theorem call_any {k k' : Nat} {Fs : FMap} {f : Value} {args : List MV} {R Q : MV → Prop} (h : CallOK G k Fs f args R) (hk : k ≤ k') (q : ∀ v, R v → Q v) : CallK G k' Fs f args Q :=
  ⟨k, hk, h.mono (Nat.le_refl _) (FMap.le.refl _) q⟩
theorem v_call {x : Str} {np pos : Pos} {e : Expr} {rest : List Expr} {a : Addr} {Q : MV → Vars → Prop} (hx : C.scope.names.lookup x = some .globalImplicit) (hv : G.mg x = some (.ref a)) (hf : FnF C.Fs a)
    (h : WA G C (e :: rest) σ (fun xs σ₂ => CallK G C.k C.Fs (.ref a) xs (fun v => Q v σ₂)))
    (hd : (x == ("__debug__" : Str)) = false := by decide)
    (he : ∀ env, starEach (e :: rest) env = (false, eval e env) :: starEach rest env := by intro _; rfl) (hplain : ∀ env, (backTo pos (starEach rest env)).any (·.1) = false := by intro _; rfl) :
    WE G C (.Call (.Name x np) (e :: rest) [] pos) σ Q := WE_call (WE_glob hx hv ⟨a, rfl, hf, h⟩ hd) he hplain
/-- a call of a function that a name of the frame holds -/
theorem v_callv {x : Str} {np pos : Pos} {e : Expr} {rest : List Expr} {a : Addr} {Q : MV → Vars → Prop} (hx : σ.get x = some (.raw (.ref a))) (hf : FnF C.Fs a)
    (h : WA G C (e :: rest) σ (fun xs σ₂ => CallK G C.k C.Fs (.ref a) xs (fun v => Q v σ₂)))
    (hd : (x == ("__debug__" : Str)) = false := by decide) (hn : (x == ("__classdict__" : Str)) = false := by decide)
    (he : ∀ env, starEach (e :: rest) env = (false, eval e env) :: starEach rest env := by intro _; rfl) (hplain : ∀ env, (backTo pos (starEach rest env)).any (·.1) = false := by intro _; rfl) :
    WE G C (.Call (.Name x np) (e :: rest) [] pos) σ Q := WE_call (WE_name hx (by intro _ _; nofun) ⟨a, rfl, hf, h⟩ hd hn) he hplain
theorem v_callIO {x y : Str} {np yp pos : Pos} {rest : List Expr} {f a : Addr} {xs : List MV} {Q : MV → Vars → Prop} (hx : C.scope.names.lookup x = some .globalImplicit) (hv : G.mg x = some (.ref f)) (hf : FnF C.Fs f) (hy : σ.get y = some (.own a xs))
    (h : WA G C rest σ (fun vs σ₂ => ∃ xs₂, σ₂.get y = some (.own a xs₂) ∧ CallIOK G C.k C.Fs (.ref f) xs₂ vs (fun v xs' => Q v (σ₂.set y (.own a xs')))))
    (hdx : (x == ("__debug__" : Str)) = false := by decide)
    (he : ∀ env, starEach (.Name y yp :: rest) env = (false, eval (.Name y yp) env) :: starEach rest env := by intro _; rfl) (hplain : ∀ env, (backTo pos (starEach rest env)).any (·.1) = false := by intro _; rfl)
    (hd : (y == ("__debug__" : Str)) = false := by decide) (hn : (y == ("__classdict__" : Str)) = false := by decide) :
    WE G C (.Call (.Name x np) (.Name y yp :: rest) [] pos) σ Q := WE_callIO (WE_glob hx hv ⟨f, a, xs, rfl, hf, hy, h⟩ hdx) he hplain hd hn
theorem v_callB {x : Str} {np pos : Pos} {e : Expr} {rest : List Expr} {f : Value} {Q : MV → Vars → Prop} (hx : C.scope.names.lookup x = some .globalImplicit) (hm : G.mg x = none) (hv : bootBuiltins x = some f) (hb : IsBuilt f)
    (h : WA G C (e :: rest) σ (fun xs σ₂ => CallB G C f xs σ₂ Q))
    (hne : x ≠ "__name__" := by decide) (hd : (x == ("__debug__" : Str)) = false := by decide)
    (he : ∀ env, starEach (e :: rest) env = (false, eval e env) :: starEach rest env := by intro _; rfl) (hplain : ∀ env, (backTo pos (starEach rest env)).any (·.1) = false := by intro _; rfl) :
    WE G C (.Call (.Name x np) (e :: rest) [] pos) σ Q := WE_callB (WE_builtin hx hm hv ⟨f, rfl, hb, h⟩ hne hd) he hplain
theorem v_len_own {x y : Str} {np yp pos : Pos} {a : Addr} {xs : List MV} {Q : MV → Vars → Prop} (hx : C.scope.names.lookup x = some .globalImplicit) (hm : G.mg x = none) (hv : bootBuiltins x = some (.builtin "len"))
    (hy : σ.get y = some (.own a xs)) (hz : xs.length < 2 ^ 62) (h : Q (.int xs.length) σ)
    (hne : x ≠ "__name__" := by decide) (hdx : (x == ("__debug__" : Str)) = false := by decide)
    (he : ∀ env, starEach [.Name y yp] env = [(false, eval (.Name y yp) env)] := by intro _; rfl) (hd : (y == ("__debug__" : Str)) = false := by decide) (hn : (y == ("__classdict__" : Str)) = false := by decide) :
    WE G C (.Call (.Name x np) [.Name y yp] [] pos) σ Q := WE_len_own (WE_builtin hx hm hv ⟨a, xs, rfl, hy, hz, h⟩ hne hdx) he hd hn
inductive Rng1 (K : List MV → Vars → Prop) (σ : Vars) (v : MV) : Prop
  | mk (n : Int) (ev : v = .int n) (hn : -(2 ^ 62) ≤ n ∧ n < 2 ^ 62) (q : K (rng 0 1 n.toNat) σ)
inductive Rng2 (K : List MV → Vars → Prop) (σ : Vars) (v u : MV) : Prop
  | mk (a b : Int) (ev : v = .int a) (eu : u = .int b) (hn : -(2 ^ 62) ≤ a ∧ a < 2 ^ 62 ∧ -(2 ^ 62) ≤ b ∧ b < 2 ^ 62) (q : K (rng a 1 (b - a).toNat) σ)
inductive RngN (K : List MV → Vars → Prop) (σ : Vars) (a b c : Int) : Prop
  | mk (n : Nat) (hn : Builtin.Range.rangeSize a b c = n) (q : K (rng a c n) σ)
inductive Rng3 (K : List MV → Vars → Prop) (σ : Vars) (v u w : MV) : Prop
  | mk (a b c : Int) (ev : v = .int a) (eu : u = .int b) (ew : w = .int c) (hc : c ≠ 0 ∧ c.natAbs < 1073741824 ∧ Builtin.Range.small a b c = true) (q : RngN K σ a b c)
inductive ZipP (K : List (List MV) → Vars → Prop) (σ : Vars) (v u : MV) : Prop
  | mk (xs ys : List MV) (ev : v = .list xs) (eu : u = .list ys) (q : K (zipd xs ys) σ)
theorem v_range1 {x : Str} {np pos : Pos} {e : Expr} {K : List MV → Vars → Prop} (hx : C.scope.names.lookup x = some .globalImplicit) (hm : G.mg x = none) (hv : bootBuiltins x = some (.type "range"))
    (h : WE G C e σ (fun v σ₂ => Rng1 K σ₂ v))
    (hne : x ≠ "__name__" := by decide) (hd : (x == ("__debug__" : Str)) = false := by decide)
    (he : ∀ env, starEach [e] env = (false, eval e env) :: starEach [] env := by intro _; rfl) : WI G C (.Call (.Name x np) [e] [] pos) σ K :=
  WI_range1 (WE_builtin hx hm hv ⟨_, rfl, trivial, WA_cons (h.mono fun v σ' ⟨n, e, hn, k⟩ => WA_nil ⟨rfl, n, by rw [e], hn, k⟩) he⟩ hne hd) he
theorem v_range2 {x : Str} {np pos : Pos} {e₁ e₂ : Expr} {K : List MV → Vars → Prop} (hx : C.scope.names.lookup x = some .globalImplicit) (hm : G.mg x = none) (hv : bootBuiltins x = some (.type "range"))
    (h : WE G C e₁ σ (fun v₁ σ₁ => WE G C e₂ σ₁ (fun v₂ σ₂ => Rng2 K σ₂ v₁ v₂)))
    (hne : x ≠ "__name__" := by decide) (hd : (x == ("__debug__" : Str)) = false := by decide)
    (he : ∀ env, starEach [e₁, e₂] env = (false, eval e₁ env) :: starEach [e₂] env := by intro _; rfl) (he₂ : ∀ env, starEach [e₂] env = (false, eval e₂ env) :: starEach [] env := by intro _; rfl) (hp : ∀ env, (backTo pos (starEach [e₂] env)).any (·.1) = false := by intro _; rfl) :
    WI G C (.Call (.Name x np) [e₁, e₂] [] pos) σ K :=
  WI_range2 (WE_builtin hx hm hv ⟨_, rfl, trivial, WA_cons (h.mono fun v₁ σ₁ h₁ => WA_cons (h₁.mono fun v₂ σ₂ ⟨a, b, e, e', hn, k⟩ => WA_nil ⟨rfl, a, b, by rw [e, e'], hn, k⟩) he₂) he⟩ hne hd) he hp
theorem v_range3 {x : Str} {np pos : Pos} {e₁ e₂ e₃ : Expr} {K : List MV → Vars → Prop} (hx : C.scope.names.lookup x = some .globalImplicit) (hm : G.mg x = none) (hv : bootBuiltins x = some (.type "range"))
    (h : WE G C e₁ σ (fun v₁ σ₁ => WE G C e₂ σ₁ (fun v₂ σ₂ => WE G C e₃ σ₂ (fun v₃ σ₃ => Rng3 K σ₃ v₁ v₂ v₃))))
    (hne : x ≠ "__name__" := by decide) (hd : (x == ("__debug__" : Str)) = false := by decide)
    (he : ∀ env, starEach [e₁, e₂, e₃] env = (false, eval e₁ env) :: starEach [e₂, e₃] env := by intro _; rfl) (he₂ : ∀ env, starEach [e₂, e₃] env = (false, eval e₂ env) :: starEach [e₃] env := by intro _; rfl) (he₃ : ∀ env, starEach [e₃] env = (false, eval e₃ env) :: starEach [] env := by intro _; rfl)
    (hp : ∀ env, (backTo pos (starEach [e₂, e₃] env)).any (·.1) = false := by intro _; rfl) :
    WI G C (.Call (.Name x np) [e₁, e₂, e₃] [] pos) σ K :=
  WI_range3 (WE_builtin hx hm hv ⟨_, rfl, trivial, WA_cons (h.mono fun v₁ σ₁ h₁ => WA_cons (h₁.mono fun v₂ σ₂ h₂ => WA_cons (h₂.mono fun v₃ σ₃ ⟨a, b, c, e, e', e'', hn, ⟨n, h1, k⟩⟩ => WA_nil ⟨rfl, a, b, c, by rw [e, e', e''], hn, n, h1, k⟩) he₃) he₂) he⟩ hne hd) he hp
theorem v_enum {x y z : Str} {px py pt np pos : Pos} {k : Nat} {e : Expr} {K : List (List MV) → Vars → Prop} (hx : C.scope.names.lookup z = some .globalImplicit) (hm : G.mg z = none) (hv : bootBuiltins z = some (.type "enumerate"))
    (h : WE G C e σ (fun v σ₂ => LstP (fun xs σ => K (enumd xs) σ) σ₂ v))
    (hne : z ≠ "__name__" := by decide) (hd : (z == ("__debug__" : Str)) = false := by decide)
    (he : ∀ env, starEach [e] env = (false, eval e env) :: starEach [] env := by intro _; rfl) : WIT G C (.Tuple [.Name x px, .Name y py] k pt) [x, y] (.Call (.Name z np) [e] [] pos) σ K :=
  WIT_enum (WE_builtin hx hm hv ⟨_, rfl, trivial, WA_cons (h.mono fun v σ' ⟨xs, e, k⟩ => WA_nil ⟨rfl, xs, by rw [e], k⟩) he⟩ hne hd) he
theorem v_zip {x y z : Str} {px py pt np pos : Pos} {k : Nat} {e₁ e₂ : Expr} {K : List (List MV) → Vars → Prop} (hx : C.scope.names.lookup z = some .globalImplicit) (hm : G.mg z = none) (hv : bootBuiltins z = some (.type "zip"))
    (h : WE G C e₁ σ (fun v₁ σ₁ => WE G C e₂ σ₁ (fun v₂ σ₂ => ZipP K σ₂ v₁ v₂)))
    (hne : z ≠ "__name__" := by decide) (hd : (z == ("__debug__" : Str)) = false := by decide)
    (he : ∀ env, starEach [e₁, e₂] env = (false, eval e₁ env) :: starEach [e₂] env := by intro _; rfl) (he₂ : ∀ env, starEach [e₂] env = (false, eval e₂ env) :: starEach [] env := by intro _; rfl) (hp : ∀ env, (backTo pos (starEach [e₂] env)).any (·.1) = false := by intro _; rfl) :
    WIT G C (.Tuple [.Name x px, .Name y py] k pt) [x, y] (.Call (.Name z np) [e₁, e₂] [] pos) σ K :=
  WIT_zip (WE_builtin hx hm hv ⟨_, rfl, trivial, WA_cons (h.mono fun v₁ σ₁ h₁ => WA_cons (h₁.mono fun v₂ σ₂ ⟨xs, ys, e, e', k⟩ => WA_nil ⟨rfl, xs, ys, by rw [e, e'], k⟩) he₂) he⟩ hne hd) he hp

theorem WS_freeze {x : Str} {a : Addr} {xs : List MV} {sts : List Stmt} {Q : MFlow → Vars → Prop} (hx : σ.get x = some (.own a xs)) (hs : σ.set x (.list xs) = σ') (h : WS G C sts σ' Q) : WS G C sts σ Q := .mk fun env A P tm F s p => by
  subst hs
  obtain ⟨F', af, _⟩ := p.freezeVar hx
  exact h.thn af.pre (fun f s'' mf σ'' F'' a' r q => ⟨mf, σ'', F'', af.trans a', r, q⟩)
end
end Mine
end
section
open PySem PySem.W PySem.Calls PyProof.Rows
namespace Mine

/-! ### cheap side conditions -/
structure OkN (x : Str) : Prop where
  d : (x == ("__debug__" : Str)) = false
  c : (x == ("__classdict__" : Str)) = false
  n : x ≠ "__name__"
noncomputable def okB (x : Str) : Bool := !(x == ("__debug__" : Str)) && (!(x == ("__classdict__" : Str)) && !(x == ("__name__" : Str)))
theorem okn {x : Str} (h : okB x = true) : OkN x := by
  obtain ⟨a, b⟩ := Bool.and_eq_true_iff.mp h
  obtain ⟨b, c⟩ := Bool.and_eq_true_iff.mp b
  refine ⟨Bool.not_eq_true' _ ▸ a, Bool.not_eq_true' _ ▸ b, fun e => ?_⟩
  rw [e, beq_self_eq_true] at c
  cases c
theorem eq_set {σ σ₁ σ₂ : Vars} {x : Str} {v : MV} (h : σ = σ₁) (h' : σ₁.set x v = σ₂) : σ.set x v = σ₂ := by subst h; exact h'
theorem zip_nil : ([] : List Str).zip ([] : List MV) = [] := rfl
theorem zip_cons {x : Str} {v : MV} {xs : List Str} {vs : List MV} {r : Vars} (h : xs.zip vs = r) : (x :: xs).zip (v :: vs) = (x, v) :: r := by rw [List.zip_cons_cons, h]

noncomputable def notStar : Expr → Bool
  | .Starred .. => false
  | _ => true
noncomputable def plainE : Expr → Bool
  | .Starred .. => false
  | .ListComp .. => false
  | .SetComp .. => false
  | .DictComp .. => false
  | .Set .. => false
  | .Slice .. => false
  | _ => true
noncomputable def allStar : List Expr → Bool
  | [] => true
  | e :: r => notStar e && allStar r
theorem star_of {e : Expr} {rest : List Expr} {env : Env} (h : notStar e = true) : starEach (e :: rest) env = (false, eval e env) :: starEach rest env := by
  cases e <;> first | rfl | exact Bool.noConfusion h
theorem back_of {pos : Pos} {env : Env} : ∀ {es : List Expr}, allStar es = true → (backTo pos (starEach es env)).any (·.1) = false
  | [], _ => rfl
  | e :: r, h => by
    obtain ⟨h1, h2⟩ := Bool.and_eq_true_iff.mp (show (notStar e && allStar r) = true from h)
    rw [star_of h1]
    show (false || (backTo pos (starEach r env)).any (·.1)) = false
    rw [back_of h2]; rfl
theorem swaps_of {e : Expr} {t : Option Expr} {l : Nat} {env : Env} (h : plainE e = true) : swapsWith e t l env = pure false := by
  cases e <;> first | rfl | exact Bool.noConfusion h
theorem sole_of {ts : List Expr} {e : Expr} {l : Nat} {env : Env} (h : plainE e = true) : swapsWithSole ts e l env = pure false := by
  match ts with
  | [] => rfl
  | [t] => exact swaps_of h
  | _ :: _ :: _ => rfl
theorem marks_of {op : CmpOp} {e : Expr} (h : plainE e = true) : behindInMarks op e = false := by
  cases e <;> first | rfl | exact Bool.noConfusion h
theorem folded_of {e : Expr} {env : Env} {x : Value} (h : plainE e = true) : foldedSetIterable e env x = pure x := by
  cases e <;> first | rfl | exact Bool.noConfusion h
theorem idx_of {e : Expr} (h : plainE e = true) : PlainIdx e := fun l k u => by
  cases e <;> first | rfl | exact Bool.noConfusion h

section
variable {G : GCtx} {C : SC} {σ σ' σ₀ : Vars}
theorem x_name {x : Str} {pos : Pos} {mv : MV} {Q : MV → Vars → Prop} (hx : σ.get x = some mv) (ho : NotOwn mv) (hk : OkN x) (h : Q mv σ) : WE G C (.Name x pos) σ Q :=
  WE_name hx (fun a xs e => by subst e; exact ho) h hk.d hk.c
theorem x_name_own {x : Str} {pos : Pos} {a : Addr} {xs : List MV} {Q : MV → Vars → Prop} (hx : σ.get x = some (.own a xs)) (hk : OkN x) (h : Q (.list xs) (σ.set x (.list xs))) : WE G C (.Name x pos) σ Q :=
  WE_name_own hx h hk.d hk.c
/-- a name that holds an own list gives the list up for good -/
theorem x_acons {e : Expr} {rest : List Expr} {Q : List MV → Vars → Prop} (hs : notStar e = true) (h : WE G C e σ (fun v σ' => WA G C rest σ' (fun vs σ'' => Q (v :: vs) σ''))) : WA G C (e :: rest) σ Q :=
  WA_cons h fun env => star_of hs
theorem x_glob {x : Str} {pos : Pos} {v : Value} {Q : MV → Vars → Prop} (hx : C.scope.names.lookup x = some .globalImplicit) (hv : G.mg x = some v) (hk : OkN x) (h : Q (.raw v) σ) : WE G C (.Name x pos) σ Q := WE_glob hx hv h hk.d
theorem x_call {x : Str} {np pos : Pos} {e : Expr} {rest : List Expr} {a : Addr} {Q : MV → Vars → Prop} (hv : G.mg x = some (.ref a)) (hf : FnF C.Fs a) (hx : C.scope.names.lookup x = some .globalImplicit) (hk : OkN x)
    (hs : allStar (e :: rest) = true) (h : WA G C (e :: rest) σ (fun xs σ₂ => CallK G C.k C.Fs (.ref a) xs (fun v => Q v σ₂))) : WE G C (.Call (.Name x np) (e :: rest) [] pos) σ Q :=
  v_call hx hv hf h hk.d (fun env => star_of (Bool.and_eq_true_iff.mp hs).1) (fun env => back_of (Bool.and_eq_true_iff.mp hs).2)
theorem x_callv {x : Str} {np pos : Pos} {e : Expr} {rest : List Expr} {a : Addr} {Q : MV → Vars → Prop} (hx : σ.get x = some (.raw (.ref a))) (hf : FnF C.Fs a) (hk : OkN x)
    (hs : allStar (e :: rest) = true) (h : WA G C (e :: rest) σ (fun xs σ₂ => CallK G C.k C.Fs (.ref a) xs (fun v => Q v σ₂))) : WE G C (.Call (.Name x np) (e :: rest) [] pos) σ Q :=
  v_callv hx hf h hk.d hk.c (fun env => star_of (Bool.and_eq_true_iff.mp hs).1) (fun env => back_of (Bool.and_eq_true_iff.mp hs).2)
theorem x_callIO {x y : Str} {np yp pos : Pos} {rest : List Expr} {f a : Addr} {xs : List MV} {Q : MV → Vars → Prop} (hv : G.mg x = some (.ref f)) (hf : FnF C.Fs f) (hx : C.scope.names.lookup x = some .globalImplicit) (hk : OkN x)
    (hy : σ.get y = some (.own a xs)) (hky : OkN y) (hs : allStar rest = true)
    (h : WA G C rest σ (fun vs σ₂ => ∃ xs₂, σ₂.get y = some (.own a xs₂) ∧ CallIOK G C.k C.Fs (.ref f) xs₂ vs (fun v xs' => Q v (σ₂.set y (.own a xs'))))) :
    WE G C (.Call (.Name x np) (.Name y yp :: rest) [] pos) σ Q := v_callIO hx hv hf hy h hk.d (fun env => star_of rfl) (fun env => back_of hs) hky.d hky.c
theorem x_callB {x : Str} {np pos : Pos} {e : Expr} {rest : List Expr} {f : Value} {Q : MV → Vars → Prop} (hm : G.mg x = none) (hv : bootBuiltins x = some f) (hb : IsBuilt f) (hx : C.scope.names.lookup x = some .globalImplicit) (hk : OkN x) (hs : allStar (e :: rest) = true)
    (h : WA G C (e :: rest) σ (fun xs σ₂ => CallB G C f xs σ₂ Q)) : WE G C (.Call (.Name x np) (e :: rest) [] pos) σ Q :=
  v_callB hx hm hv hb h hk.n hk.d (fun env => star_of (Bool.and_eq_true_iff.mp hs).1) (fun env => back_of (Bool.and_eq_true_iff.mp hs).2)
theorem bi_len : bootBuiltins ("len" : Str) = some (.builtin "len") := rfl
theorem bi_range : bootBuiltins ("range" : Str) = some (.type "range") := rfl
theorem bi_abs : bootBuiltins ("abs" : Str) = some (.builtin "abs") := rfl
theorem bi_int : bootBuiltins ("int" : Str) = some (.type "int") := rfl
theorem bi_enumerate : bootBuiltins ("enumerate" : Str) = some (.type "enumerate") := rfl
theorem bi_zip : bootBuiltins ("zip" : Str) = some (.type "zip") := rfl
/-- len of a plain list -/
inductive LenP (Q : MV → Vars → Prop) (σ : Vars) (v : MV) : Prop
  | mk (xs : List MV) (ev : v = .list xs) (hz : xs.length < 2 ^ 62) (q : Q (.int xs.length) σ)
theorem x_len {np pos : Pos} {e : Expr} {Q : MV → Vars → Prop} (hm : G.mg (Str.ofString "len") = none) (hx : C.scope.names.lookup (Str.ofString "len") = some .globalImplicit) (hs : notStar e = true)
    (h : WE G C e σ (fun v σ' => LenP Q σ' v)) : WE G C (.Call (.Name (Str.ofString "len") np) [e] [] pos) σ Q :=
  x_callB hm bi_len trivial hx (okn (by kernel_rfl)) (by rw [allStar, hs]; rfl) (x_acons hs (h.mono fun v σ' ⟨xs, e, hz, q⟩ => WA_nil (by rw [e]; exact CallB_len hz q)))
theorem x_len_own {y : Str} {np yp pos : Pos} {a : Addr} {xs : List MV} {Q : MV → Vars → Prop} (hm : G.mg (Str.ofString "len") = none) (hx : C.scope.names.lookup (Str.ofString "len") = some .globalImplicit)
    (hy : σ.get y = some (.own a xs)) (hky : OkN y) (hz : xs.length < 2 ^ 62) (h : Q (.int xs.length) σ) : WE G C (.Call (.Name (Str.ofString "len") np) [.Name y yp] [] pos) σ Q :=
  v_len_own hx hm bi_len hy hz h (by decide) (by decide) (fun env => star_of rfl) hky.d hky.c
theorem x_range1 {np pos : Pos} {e : Expr} {K : List MV → Vars → Prop} (hm : G.mg (Str.ofString "range") = none) (hx : C.scope.names.lookup (Str.ofString "range") = some .globalImplicit) (hs : notStar e = true)
    (h : WE G C e σ (fun v σ₂ => Rng1 K σ₂ v)) : WI G C (.Call (.Name (Str.ofString "range") np) [e] [] pos) σ K :=
  v_range1 hx hm bi_range h (by decide) (by decide) (fun env => star_of hs)
theorem x_range2 {np pos : Pos} {e₁ e₂ : Expr} {K : List MV → Vars → Prop} (hm : G.mg (Str.ofString "range") = none) (hx : C.scope.names.lookup (Str.ofString "range") = some .globalImplicit) (hs : notStar e₁ = true) (hs₂ : notStar e₂ = true)
    (h : WE G C e₁ σ (fun v₁ σ₁ => WE G C e₂ σ₁ (fun v₂ σ₂ => Rng2 K σ₂ v₁ v₂))) :
    WI G C (.Call (.Name (Str.ofString "range") np) [e₁, e₂] [] pos) σ K :=
  v_range2 hx hm bi_range h (by decide) (by decide) (fun env => star_of hs) (fun env => star_of hs₂) (fun env => back_of (by rw [allStar, hs₂]; rfl))
theorem x_range3 {np pos : Pos} {e₁ e₂ e₃ : Expr} {K : List MV → Vars → Prop} (hm : G.mg (Str.ofString "range") = none) (hx : C.scope.names.lookup (Str.ofString "range") = some .globalImplicit) (hs : notStar e₁ = true) (hs₂ : notStar e₂ = true) (hs₃ : notStar e₃ = true)
    (h : WE G C e₁ σ (fun v₁ σ₁ => WE G C e₂ σ₁ (fun v₂ σ₂ => WE G C e₃ σ₂ (fun v₃ σ₃ => Rng3 K σ₃ v₁ v₂ v₃)))) :
    WI G C (.Call (.Name (Str.ofString "range") np) [e₁, e₂, e₃] [] pos) σ K :=
  v_range3 hx hm bi_range h (by decide) (by decide) (fun env => star_of hs) (fun env => star_of hs₂) (fun env => star_of hs₃) (fun env => back_of (by rw [allStar, allStar, hs₂, hs₃]; rfl))
theorem x_enum {x y : Str} {px py pt np pos : Pos} {k : Nat} {e : Expr} {K : List (List MV) → Vars → Prop} (hm : G.mg (Str.ofString "enumerate") = none) (hx : C.scope.names.lookup (Str.ofString "enumerate") = some .globalImplicit) (hs : notStar e = true)
    (h : WE G C e σ (fun v σ₂ => LstP (fun xs σ => K (enumd xs) σ) σ₂ v)) : WIT G C (.Tuple [.Name x px, .Name y py] k pt) [x, y] (.Call (.Name (Str.ofString "enumerate") np) [e] [] pos) σ K :=
  v_enum hx hm bi_enumerate h (by decide) (by decide) (fun env => star_of hs)
theorem x_zip {x y : Str} {px py pt np pos : Pos} {k : Nat} {e₁ e₂ : Expr} {K : List (List MV) → Vars → Prop} (hm : G.mg (Str.ofString "zip") = none) (hx : C.scope.names.lookup (Str.ofString "zip") = some .globalImplicit) (hs : notStar e₁ = true) (hs₂ : notStar e₂ = true)
    (h : WE G C e₁ σ (fun v₁ σ₁ => WE G C e₂ σ₁ (fun v₂ σ₂ => ZipP K σ₂ v₁ v₂))) :
    WIT G C (.Tuple [.Name x px, .Name y py] k pt) [x, y] (.Call (.Name (Str.ofString "zip") np) [e₁, e₂] [] pos) σ K :=
  v_zip hx hm bi_zip h (by decide) (by decide) (fun env => star_of hs) (fun env => star_of hs₂) (fun env => back_of (by rw [allStar, hs₂]; rfl))
theorem x_item {value slice : Expr} {pos : Pos} {Q : MV → Vars → Prop} (hs : plainE slice = true)
    (h : WE G C value σ (fun v σ₁ => WE G C slice σ₁ (fun i σ₂ => ItemP Q σ₂ v i))) : WE G C (.Subscript value slice pos) σ Q := WE_item h (idx_of hs)
theorem x_item_own {y : Str} {yp pos : Pos} {slice : Expr} {a : Addr} {xs : List MV} {Q : MV → Vars → Prop} (hy : σ.get y = some (.own a xs)) (hky : OkN y) (hs : plainE slice = true)
    (h : WE G C slice σ (fun i σ₂ => ItemO y a Q σ₂ i)) : WE G C (.Subscript (.Name y yp) slice pos) σ Q := WE_item_own hy h (idx_of hs) hky.d hky.c
theorem x_item_neg {value slice : Expr} {pos : Pos} {Q : MV → Vars → Prop} (hs : plainE slice = true)
    (h : WE G C value σ (fun v σ₁ => WE G C slice σ₁ (fun i σ₂ => ItemN Q σ₂ v i))) : WE G C (.Subscript value slice pos) σ Q := WE_item_neg h (idx_of hs)
theorem x_cmpB {l r : Expr} {op : CmpOp} {pos : Pos} {Q : Bool → Vars → Prop} (ho : isCmp op = true) (hm : plainE r = true)
    (h : WE G C l σ (fun x σ₁ => WE G C r σ₁ (fun y σ₂ => CmpP op Q σ₂ x y))) : WB G C (.Compare l [op] [r] pos) σ Q := WB_cmp h ho (marks_of hm)
theorem x_cmpE {l r : Expr} {op : CmpOp} {pos : Pos} {Q : MV → Vars → Prop} (ho : isCmp op = true) (hm : plainE r = true)
    (h : WE G C l σ (fun x σ₁ => WE G C r σ₁ (fun y σ₂ => CmpV op Q σ₂ x y))) : WE G C (.Compare l [op] [r] pos) σ Q := WE_cmp h ho (marks_of hm)
theorem x_for {x : Str} {px pos : Pos} {iter : Expr} {body : List Stmt} {Q : MFlow → Vars → Prop} (hx : Storable C x) (hp : plainE iter = true) (h : WI G C iter σ (ForK G C x body Q)) : W1 G C (.For (.Name x px) iter body [] pos) σ Q :=
  v_for hx h fun env v => folded_of hp
theorem x_for2 {x y : Str} {px py pt pos : Pos} {k : Nat} {iter : Expr} {body : List Stmt} {Q : MFlow → Vars → Prop} (hx : Storable C x) (hy : Storable C y) (hp : plainE iter = true)
    (h : WIT G C (.Tuple [.Name x px, .Name y py] k pt) [x, y] iter σ (ForT G C [x, y] body Q)) : W1 G C (.For (.Tuple [.Name x px, .Name y py] k pt) iter body [] pos) σ Q := v_for2 hx hy h fun env v => folded_of hp
theorem x_assign {x : Str} {px pos : Pos} {e : Expr} {Q : MFlow → Vars → Prop} (hp : plainE e = true) (hx : Storable C x) (h : WE G C e σ (fun v σ₁ => Q .next (σ₁.set x v))) : W1 G C (.Assign [.Name x px] e pos) σ Q := W1_assign h hx fun env => swaps_of hp
theorem x_assignF {x : Str} {px pos : Pos} {e : Expr} {Q : MFlow → Vars → Prop} (hp : plainE e = true) (hx : Storable C x) (h : WF G C e σ (fun a xs σ₁ => Q .next (σ₁.set x (.own a xs)))) : W1 G C (.Assign [.Name x px] e pos) σ Q := W1_assignF h hx fun env => swaps_of hp
theorem x_aug {x : Str} {px pos : Pos} {op : Operator} {e : Expr} {a : Int} {Q : MFlow → Vars → Prop} (h0 : σ.get x = some (.int a)) (hx : Storable C x) (hk : OkN x)
    (h : WE G C e σ (fun v σ₁ => AugP G op a x Q σ₁ v)) : W1 G C (.AugAssign (.Name x px) op e pos) σ Q := W1_aug h0 h hx hk.c
theorem x_setitem {y : Str} {yp ip pos : Pos} {idx value : Expr} {Q : MFlow → Vars → Prop} (hp : plainE value = true) (hk : OkN y)
    (h : WE G C value σ (fun v σ₁ => ∃ a xs, σ₁.get y = some (.own a xs) ∧ WE G C idx σ₁ (fun i σ₂ => SetI y a v Q σ₂ i))) :
    W1 G C (.Assign [.Subscript (.Name y yp) idx ip] value pos) σ Q := W1_setitem h (fun env => swaps_of hp) hk.d hk.c
theorem app_few {e : Expr} {pos : Pos} {env : Env} (h : notStar e = true) : ((backTo pos (starEach [e] env)).all (fun x => !x.1) && (backToKw pos (keywordEach [] env)).all (fun x => x.1.isSome)
      && decide (([e] : List Expr).length + ([] : List Keyword).length + (if ([] : List Keyword).isEmpty then 0 else 1) < 30)) = true := by rw [star_of h]; rfl
theorem app_trees {e : Expr} {pos : Pos} {env : Env} (h : notStar e = true) : backTo pos (starEach [e] env) = [(false, eval e env)] := by rw [star_of h]; rfl
theorem x_append {y : Str} {yp apos pos pos' : Pos} {e : Expr} {a : Addr} {xs : List MV} {Q : MFlow → Vars → Prop} (hy : σ.get y = some (.own a xs)) (hk : OkN y) (hs : notStar e = true) (hline : (apos.endLine == pos.line) = true)
    (h : WE G C e σ (fun v σ₁ => AppP y a v Q σ₁)) :
    W1 G C (.Expr (.Call (.Attribute (.Name y yp) "append" apos) [e] [] pos) pos') σ Q :=
  W1_append hy h (fun env hk => by simp [interactive, hk]) (fun env => swaps_of rfl) (fun env => app_trees hs) (fun env => rfl) hline (fun env => app_few hs) hk.d hk.c

/-! two or three names at once -/
theorem dups2 {x y : Str} (h : (y == x) = false) : [x, y].eraseDups.length = 2 := by simp [List.eraseDups_cons, h]
theorem dups3 {x y z : Str} (h1 : (y == x) = false) (h2 : (z == x) = false) (h3 : (z == y) = false) : [x, y, z].eraseDups.length = 3 := by simp [List.eraseDups_cons, h1, h2, h3]
theorem kind_is {sc : Scope} (hk : sc.kind = .function) : (envAt sc).blockKind = .function := by simp [Env.blockKind, hk]
noncomputable def storeN (env : Env) (line : Nat) : Expr → Option Str
  | .Name id pos => if env.kindOf id == some .local && pos.line == line then some id else none
  | _ => none
theorem storeN_name {sc : Scope} {line : Nat} {x : Str} {p : Pos} (h : sc.names.lookup x = some .local) (hl : (p.line == line) = true) : storeN (envAt sc) line (.Name x p) = some x :=
  if_pos (show ((envAt sc).kindOf x == some .local && p.line == line) = true by rw [show (envAt sc).kindOf x = _ from h, hl]; rfl)
theorem storeN_cons {env : Env} {line : Nat} {e : Expr} {x : Str} {es : List Expr} {xs : List Str} (h : storeN env line e = some x) (hs : es.filterMap (storeN env line) = xs) : (e :: es).filterMap (storeN env line) = x :: xs := by
  rw [List.filterMap_cons_some h, hs]
theorem swapped_gen {ts vs : List Expr} {tp vp : Pos} {k k' : Nat} {sc : Scope} {names : List Str} {line : Nat} (hk : sc.kind = .function)
    (c1 : (ts.length == 2 || ts.length == 3) = true) (c1' : (vs.length != ts.length) = false) (hs : ∀ v ∈ vs, notStar v = true)
    (hl : ((ts.head?.map (·.pos.line)).getD 0) = line)
    (hn : ts.filterMap (storeN (envAt sc) line) = names)
    (c3 : (names.length != ts.length || names.eraseDups.length != names.length) = false) (c4 : vs.all (foldedForSure 8) = false) (c5 : vs.all (constantsAlone 8) = false) :
    swappedStores [.Tuple ts k tp] (.Tuple vs k' vp) (envAt sc) = pure (some names) := by
  subst hl
  subst hn
  refine (if_neg ?_).trans ((if_neg ?_).trans ((if_neg ?_).trans ((if_neg ?_).trans (if_neg ?_))))
  · rw [c1, c1', kind_is hk]; decide
  · intro h
    obtain ⟨v, hv, e⟩ := List.any_eq_true.mp h
    have := hs v hv
    cases v <;> first | exact Bool.noConfusion e | exact Bool.noConfusion this
  · exact fun h => absurd (c3.symm.trans h) (by decide)
  · exact fun h => absurd (c4.symm.trans h) (by decide)
  · exact fun h => absurd (c5.symm.trans h) (by decide)
theorem and_false {a b : Bool} (h : (a && b) = false) (c : Bool) : (a && (b && c)) = false := by rw [← Bool.and_assoc, h]; rfl
theorem swapped2 {x y : Str} {px py tp vp : Pos} {k k' : Nat} {e₁ e₂ : Expr} {sc : Scope} (hk : sc.kind = .function) (hx : sc.names.lookup x = some .local) (hy : sc.names.lookup y = some .local) (hxy : (y == x) = false) (hl : (py.line == px.line) = true)
    (hs : (notStar e₁ && notStar e₂) = true) (hf : (foldedForSure 8 e₁ && foldedForSure 8 e₂) = false) (hc : (constantsAlone 8 e₁ && constantsAlone 8 e₂) = false) :
    swappedStores [.Tuple [.Name x px, .Name y py] k tp] (.Tuple [e₁, e₂] k' vp) (envAt sc) = pure (some [x, y]) := by
  obtain ⟨h1, h2⟩ := Bool.and_eq_true_iff.mp hs
  refine swapped_gen (line := px.line) hk rfl rfl (List.forall_mem_cons.mpr ⟨h1, List.forall_mem_cons.mpr ⟨h2, fun _ h => nomatch h⟩⟩) rfl ?_ (by rw [dups2 hxy]; rfl) (and_false hf true) (and_false hc true)
  exact storeN_cons (storeN_name hx (beq_self_eq_true _)) (storeN_cons (storeN_name hy hl) rfl)
theorem swapped3 {x y z : Str} {px py pz tp vp : Pos} {k k' : Nat} {e₁ e₂ e₃ : Expr} {sc : Scope} (hk : sc.kind = .function) (hx : sc.names.lookup x = some .local) (hy : sc.names.lookup y = some .local) (hz : sc.names.lookup z = some .local)
    (hxy : (y == x) = false) (hxz : (z == x) = false) (hyz : (z == y) = false) (hl : (py.line == px.line) = true) (hlz : (pz.line == px.line) = true)
    (hs : (notStar e₁ && notStar e₂ && notStar e₃) = true) (hf : (foldedForSure 8 e₁ && (foldedForSure 8 e₂ && foldedForSure 8 e₃)) = false) (hc : (constantsAlone 8 e₁ && (constantsAlone 8 e₂ && constantsAlone 8 e₃)) = false) :
    swappedStores [.Tuple [.Name x px, .Name y py, .Name z pz] k tp] (.Tuple [e₁, e₂, e₃] k' vp) (envAt sc) = pure (some [x, y, z]) := by
  obtain ⟨h12, h3⟩ := Bool.and_eq_true_iff.mp hs
  obtain ⟨h1, h2⟩ := Bool.and_eq_true_iff.mp h12
  refine swapped_gen (line := px.line) hk rfl rfl (List.forall_mem_cons.mpr ⟨h1, List.forall_mem_cons.mpr ⟨h2, List.forall_mem_cons.mpr ⟨h3, fun _ h => nomatch h⟩⟩⟩) rfl ?_ (by rw [dups3 hxy hxz hyz]; rfl)
    ((congrArg (foldedForSure 8 e₁ && ·) (congrArg (foldedForSure 8 e₂ && ·) (Bool.and_true _))).trans hf) ((congrArg (constantsAlone 8 e₁ && ·) (congrArg (constantsAlone 8 e₂ && ·) (Bool.and_true _))).trans hc)
  exact storeN_cons (storeN_name hx (beq_self_eq_true _)) (storeN_cons (storeN_name hy hl) (storeN_cons (storeN_name hz hlz) rfl))
/-- what a swapped store asks -/
structure Loc2 (C : SC) (x y : Str) : Prop where
  k : C.scope.kind = .function
  l : C.scope.names.lookup x = some .local
  r : C.scope.names.lookup y = some .local
  ne : (y == x) = false
noncomputable def tupB2 (px py : Pos) (e₁ e₂ : Expr) : Bool := (py.line == px.line) && ((notStar e₁ && notStar e₂) && (!(foldedForSure 8 e₁ && foldedForSure 8 e₂) && !(constantsAlone 8 e₁ && constantsAlone 8 e₂)))
structure Tup2 (px py : Pos) (e₁ e₂ : Expr) : Prop where
  l : (py.line == px.line) = true
  s : (notStar e₁ && notStar e₂) = true
  f : (foldedForSure 8 e₁ && foldedForSure 8 e₂) = false
  c : (constantsAlone 8 e₁ && constantsAlone 8 e₂) = false
theorem Tup2.of {px py : Pos} {e₁ e₂ : Expr} (h : tupB2 px py e₁ e₂ = true) : Tup2 px py e₁ e₂ := by
  obtain ⟨a, h⟩ := Bool.and_eq_true_iff.mp h
  obtain ⟨b, h⟩ := Bool.and_eq_true_iff.mp h
  obtain ⟨c, d⟩ := Bool.and_eq_true_iff.mp h
  exact ⟨a, b, Bool.not_eq_true' _ ▸ c, Bool.not_eq_true' _ ▸ d⟩
theorem x_tup2 {x y : Str} {px py tp vp pos : Pos} {k k' : Nat} {e₁ e₂ : Expr} {Q : MFlow → Vars → Prop} (L : Loc2 C x y) (hc : tupB2 px py e₁ e₂ = true)
    (h : WE G C e₁ σ (fun v₁ σ₁ => WE G C e₂ σ₁ (fun v₂ σ₂ => Q .next ((σ₂.set y v₂).set x v₁)))) : W1 G C (.Assign [.Tuple [.Name x px, .Name y py] k tp] (.Tuple [e₁, e₂] k' vp) pos) σ Q := by
  have T := Tup2.of hc
  obtain ⟨h1, h2⟩ := Bool.and_eq_true_iff.mp T.s
  exact W1_tup2 h (.inl L.l) (.inl L.r) (swapped2 L.k L.l L.r L.ne T.l T.s T.f T.c) (fun env => star_of h1) (fun env => star_of h2) (fun env => sole_of rfl)
theorem x_tup2F {x y : Str} {px py tp vp pos : Pos} {k k' : Nat} {e₁ e₂ : Expr} {Q : MFlow → Vars → Prop} (L : Loc2 C x y) (hc : tupB2 px py e₁ e₂ = true)
    (h : WF G C e₁ σ (fun a xs σ₁ => WE G C e₂ σ₁ (fun v₂ σ₂ => Q .next ((σ₂.set y v₂).set x (.own a xs))))) : W1 G C (.Assign [.Tuple [.Name x px, .Name y py] k tp] (.Tuple [e₁, e₂] k' vp) pos) σ Q := by
  have T := Tup2.of hc
  obtain ⟨h1, h2⟩ := Bool.and_eq_true_iff.mp T.s
  exact W1_tup2F h (.inl L.l) (.inl L.r) (swapped2 L.k L.l L.r L.ne T.l T.s T.f T.c) (fun env => star_of h1) (fun env => star_of h2) (fun env => sole_of rfl)
noncomputable def tupB3 (px py pz : Pos) (e₁ e₂ e₃ : Expr) : Bool := ((py.line == px.line) && (pz.line == px.line)) && ((notStar e₁ && notStar e₂ && notStar e₃) && (!(foldedForSure 8 e₁ && (foldedForSure 8 e₂ && foldedForSure 8 e₃)) && !(constantsAlone 8 e₁ && (constantsAlone 8 e₂ && constantsAlone 8 e₃))))
theorem x_tup3F {x y z : Str} {px py pz tp vp pos : Pos} {k k' : Nat} {e₁ e₂ e₃ : Expr} {Q : MFlow → Vars → Prop} (L : Loc2 C x y) (L2 : Loc2 C x z) (hyz : (z == y) = false) (hc : tupB3 px py pz e₁ e₂ e₃ = true)
    (h : WF G C e₁ σ (fun a xs σ₁ => WE G C e₂ σ₁ (fun v₂ σ₂ => WE G C e₃ σ₂ (fun v₃ σ₃ => Q .next (((σ₃.set z v₃).set y v₂).set x (.own a xs)))))) :
    W1 G C (.Assign [.Tuple [.Name x px, .Name y py, .Name z pz] k tp] (.Tuple [e₁, e₂, e₃] k' vp) pos) σ Q := by
  obtain ⟨a, b⟩ := Bool.and_eq_true_iff.mp hc
  obtain ⟨hl, hlz⟩ := Bool.and_eq_true_iff.mp a
  obtain ⟨hs, b⟩ := Bool.and_eq_true_iff.mp b
  obtain ⟨f, c⟩ := Bool.and_eq_true_iff.mp b
  obtain ⟨h12, h3⟩ := Bool.and_eq_true_iff.mp hs
  obtain ⟨h1, h2⟩ := Bool.and_eq_true_iff.mp h12
  exact W1_tup3F h (.inl L.l) (.inl L.r) (.inl L2.r) (swapped3 L.k L.l L.r L2.r L.ne L2.ne hyz hl hlz hs (Bool.not_eq_true' _ ▸ f) (Bool.not_eq_true' _ ▸ c)) (fun env => star_of h1) (fun env => star_of h2) (fun env => star_of h3) (fun env => sole_of rfl)
end
end Mine
end
section
open PySem PySem.W PySem.Calls PyProof.Rows
namespace Mine
set_option maxRecDepth 100000

structure Setup (G : GCtx) : Prop where
  ok : GOK G
  X : Says pw G.H0
/-- the frozen part holds at least what stood at the start -/
noncomputable def HF (G : GCtx) (Fs : FMap) : Prop := ∀ a o, G.H0.get? a = some o → Fs a = some o
noncomputable def isTab (i f c : Nat) : Bool := fnTab.contains (i, f, c)
theorem tab_mem {i f c : Nat} (h : isTab i f c = true) : (i, f, c) ∈ fnTab := List.contains_iff_mem.mp h
noncomputable abbrev fnD (name : Str) (params : Arguments) (body : List Stmt) (scope : Scope) (c : Addr) (doc pm ct : Value) : FuncData := ⟨name, name, params, .stmts body, scope, mainGlobals, [], .none, .none, doc, pm, none, .ref c, ct, builtinsNs⟩
theorem seeF_some {o : Option Obj} {F : FuncData} (h : seeF o = some F) : ∃ fd oc od sl, o = some ⟨oc, od, .func fd, sl⟩ ∧ bareF fd = F := by
  cases o with
  | none => cases h
  | some o =>
    obtain ⟨oc, od, d, sl⟩ := o
    cases d with
    | func fd => exact ⟨fd, oc, od, sl, rfl, Option.some.inj h⟩
    | _ => cases h
theorem unbare {fd : FuncData} {name : Str} {params : Arguments} {body : List Stmt} {scope : Scope} {c : Addr} (e : bareF fd = fnD name params body scope c .none .none .none) : fd = fnD name params body scope c fd.doc fd.pyModule fd.closureTuple :=
  (show fd = { bareF fd with doc := fd.doc, pyModule := fd.pyModule, closureTuple := fd.closureTuple } from rfl).trans (congrArg (fun x : FuncData => { x with doc := fd.doc, pyModule := fd.pyModule, closureTuple := fd.closureTuple }) e)
theorem seeQ_some {o : Option Obj} {q : Str} (h : seeQ o = some q) : ∃ oc od vs sl t, o = some ⟨oc, od, .fields vs, sl⟩ ∧ vs[1]? = some (.str q t) := by
  unfold seeQ at h
  split at h
  · split at h
    · rename_i e; cases h; exact ⟨_, _, _, _, _, rfl, e⟩
    · cases h
  · cases h
theorem seeG_some {h : Heap} {mg : Str → Option Value} {x : Str} {v : Option Value} (g : h.Ns mainGlobals mg) (e : seeG x (h.get? mainGlobals) = some v) : mg x = v := by
  obtain ⟨⟨oc, od, d, sl⟩, es, ep, ho, hd, _, hm⟩ := g
  simp only at hd
  subst hd
  rw [ho] at e
  exact (hm x).symm.trans (Option.some.inj e)
theorem Setup.mgn {G : GCtx} (S : Setup G) {x : Str} (h : x ∈ noNames) : G.mg x = none := seeG_some S.ok.g (S.X.no x h)
theorem mgAt {G : GCtx} (S : Setup G) {i f c : Nat} (h : isTab i f c = true) : G.mg (fnW pw i c).name = some (.ref f) := seeG_some S.ok.g (Prod.mk.inj (Prod.mk.inj (S.X.fn _ (tab_mem h))).2).2
theorem fnAt {G : GCtx} {Fs : FMap} (S : Setup G) (hF : HF G Fs) {f : Nat} (h : (fnTab.any fun e => e.2.1 == f) = true) : FnF Fs f := by
  obtain ⟨e, he, q⟩ := List.any_eq_true.mp h
  have := (Prod.mk.inj (S.X.fn e he)).1
  rw [eq_of_beq q] at this
  obtain ⟨fd, oc, od, sl, e, _⟩ := seeF_some this
  exact ⟨oc, od, fd, sl, hF _ _ e⟩
theorem mgn_len {G : GCtx} (S : Setup G) : G.mg (Str.ofString "len") = none := S.mgn (.head _)
theorem mgn_range {G : GCtx} (S : Setup G) : G.mg (Str.ofString "range") = none := S.mgn (.tail _ (.head _))
theorem mgn_abs {G : GCtx} (S : Setup G) : G.mg (Str.ofString "abs") = none := S.mgn (.tail _ (.tail _ (.head _)))
theorem mgn_int {G : GCtx} (S : Setup G) : G.mg (Str.ofString "int") = none := S.mgn (.tail _ (.tail _ (.tail _ (.head _))))
theorem mgn_enumerate {G : GCtx} (S : Setup G) : G.mg (Str.ofString "enumerate") = none := S.mgn (.tail _ (.tail _ (.tail _ (.tail _ (.head _)))))
theorem mgn_zip {G : GCtx} (S : Setup G) : G.mg (Str.ofString "zip") = none := S.mgn (.tail _ (.tail _ (.tail _ (.tail _ (.tail _ (.head _))))))

/-- what is seen of a def by its text alone -/
noncomputable def nodupS : List Str → Bool
  | [] => true
  | x :: r => !r.contains x && nodupS r
theorem nodup_of : ∀ {l : List Str}, nodupS l = true → l.Nodup
  | [], _ => List.nodup_nil
  | x :: r, h => by
    obtain ⟨a, b⟩ := Bool.and_eq_true_iff.mp (show (!r.contains x && nodupS r) = true from h)
    refine List.nodup_cons.mpr ⟨fun m => ?_, nodup_of b⟩
    rw [List.contains_iff_mem.mpr m] at a
    cases a
noncomputable def fnChk (ps : List Str) (scope : Scope) : Bool := !scope.isCoroutine && (!scope.isGenerator && (scope.kind == .function && (nodupS ps && ps.all fun p => scope.names.lookup p == some .local || scope.names.lookup p == some .cell)))
theorem Setup.defAt {G : GCtx} (S : Setup G) {i f c : Nat} {name : Str} {params : Arguments} {body : List Stmt} {scope : Scope} {ps : List Str} (h : isTab i f c = true) (e : fnW pw i c = fnD name params body scope c .none .none .none)
    (chk : fnChk ps scope = true) (bind : ∀ doc pm ct us, us.length = ps.length → bindArgs (fnD name params body scope c doc pm ct) ⟨us, []⟩ = pure (ps.zip us)) : ∃ doc pm ct, DefAt G f (fnD name params body scope c doc pm ct) body ps := by
  obtain ⟨a, b⟩ := Prod.mk.inj (S.X.fn _ (tab_mem h))
  obtain ⟨b, _⟩ := Prod.mk.inj b
  dsimp only at a b
  rw [e] at a b
  obtain ⟨fd, oc, od, sl, ho, hb⟩ := seeF_some a
  rw [unbare hb] at ho
  obtain ⟨oc', od', vs, sl', t, hq, hv⟩ := seeQ_some b
  obtain ⟨k1, k⟩ := Bool.and_eq_true_iff.mp chk
  obtain ⟨k2, k⟩ := Bool.and_eq_true_iff.mp k
  obtain ⟨k3, k⟩ := Bool.and_eq_true_iff.mp k
  obtain ⟨k4, k5⟩ := Bool.and_eq_true_iff.mp k
  refine ⟨fd.doc, fd.pyModule, fd.closureTuple, ⟨oc, od, sl, ho⟩, ⟨c, _, vs, t, rfl, hq, rfl, hv⟩, rfl, rfl, rfl, rfl, Bool.not_eq_true' _ ▸ k1, Bool.not_eq_true' _ ▸ k2, eq_of_beq k3, bind _ _ _, nodup_of k4, fun p hp => ?_⟩
  exact (Bool.or_eq_true_iff.mp (List.all_eq_true.mp k5 p hp)).imp eq_of_beq eq_of_beq
theorem callDefR {G : GCtx} {Fs : FMap} (S : Setup G) {k i f c : Nat} {name : Str} {params : Arguments} {body : List Stmt} {scope : Scope} {ps : List Str} {args : List MV} {σ : Vars} {Q : MV → Prop} (h : isTab i f c = true) (e : fnW pw i c = fnD name params body scope c .none .none .none)
    (chk : fnChk ps scope = true) (bind : ∀ doc pm ct us, us.length = ps.length → bindArgs (fnD name params body scope c doc pm ct) ⟨us, []⟩ = pure (ps.zip us)) (hl : args.length = ps.length) (hz : ps.zip args = σ)
    (hw : WS G ⟨k, scope, true, Fs⟩ body σ (retP Q)) : CallOK G (k + 1) Fs (.ref f) args Q := by
  obtain ⟨doc, pm, ct, D⟩ := S.defAt h e chk bind
  subst hz
  exact WS.call D hl hw
theorem lenS {n : Nat} {us : List Value} (h : us.length = n + 1) : ∃ a r, us = a :: r ∧ r.length = n := by
  cases us with
  | nil => cases h
  | cons a r => exact ⟨a, r, rfl, Nat.succ.inj h⟩
theorem bind0 {α : Type} {f g : List Value → α} (h : f [] = g []) : ∀ us, us.length = 0 → f us = g us := fun us hu => by
  cases List.length_eq_zero_iff.mp hu; exact h
theorem bindS {α : Type} {n : Nat} {f g : List Value → α} (h : ∀ a us, us.length = n → f (a :: us) = g (a :: us)) : ∀ us, us.length = n + 1 → f us = g us := fun us hu => by
  obtain ⟨a, r, rfl, h'⟩ := lenS hu
  exact h a r h'
theorem bind1 {α : Type} {f g : List Value → α} (h : ∀ a, f [a] = g [a]) : ∀ us, us.length = 1 → f us = g us := bindS fun a => bind0 (f := fun r => f (a :: r)) (g := fun r => g (a :: r)) (h a)
theorem bind2 {α : Type} {f g : List Value → α} (h : ∀ a b, f [a, b] = g [a, b]) : ∀ us, us.length = 2 → f us = g us := bindS fun a => bind1 (f := fun r => f (a :: r)) (g := fun r => g (a :: r)) (h a)
theorem bind3 {α : Type} {f g : List Value → α} (h : ∀ a b c, f [a, b, c] = g [a, b, c]) : ∀ us, us.length = 3 → f us = g us := bindS fun a => bind2 (f := fun r => f (a :: r)) (g := fun r => g (a :: r)) (h a)
theorem bind4 {α : Type} {f g : List Value → α} (h : ∀ a b c d, f [a, b, c, d] = g [a, b, c, d]) : ∀ us, us.length = 4 → f us = g us := bindS fun a => bind3 (f := fun r => f (a :: r)) (g := fun r => g (a :: r)) (h a)
theorem bind5 {α : Type} {f g : List Value → α} (h : ∀ a b c d e, f [a, b, c, d, e] = g [a, b, c, d, e]) : ∀ us, us.length = 5 → f us = g us := bindS fun a => bind4 (f := fun r => f (a :: r)) (g := fun r => g (a :: r)) (h a)
theorem bind6 {α : Type} {p q : List Value → α} (h : ∀ a b c d e f, p [a, b, c, d, e, f] = q [a, b, c, d, e, f]) : ∀ us, us.length = 6 → p us = q us := bindS fun a => bind5 (f := fun r => p (a :: r)) (g := fun r => q (a :: r)) (h a)
end Mine
end
section
open PySem PySem.W PySem.Calls PyProof.Rows
namespace Mine
/-! ### names in a written frame, by place -/
noncomputable def neL (x : Str) (l : List Str) : Bool := l.all fun y => !(y == x)
theorem neL_cons {x y : Str} {l : List Str} (h : neL x (y :: l) = true) : ¬ y = x ∧ neL x l = true := by
  obtain ⟨a, b⟩ := Bool.and_eq_true_iff.mp (show (!(y == x) && neL x l) = true from h)
  refine ⟨fun e => ?_, b⟩
  rw [e, beq_self_eq_true] at a
  cases a
theorem get_app {x : Str} {v : MV} {r : Vars} : ∀ (p : Vars), neL x (p.map (·.1)) = true → Vars.get (p ++ (x, v) :: r) x = some v
  | [], _ => if_pos rfl
  | (y, u) :: p, h => (if_neg (neL_cons h).1).trans (get_app p (neL_cons h).2)
theorem set_app {x : Str} {u v : MV} {r : Vars} : ∀ (p : Vars), neL x (p.map (·.1)) = true → Vars.set (p ++ (x, u) :: r) x v = p ++ (x, v) :: r
  | [], _ => if_pos rfl
  | (y, w) :: p, h => (if_neg (neL_cons h).1).trans (congrArg _ (set_app p (neL_cons h).2))
theorem set_new {x : Str} {v : MV} : ∀ (p : Vars), neL x (p.map (·.1)) = true → Vars.set p x v = p ++ [(x, v)]
  | [], _ => rfl
  | (y, w) :: p, h => (if_neg (neL_cons h).1).trans (congrArg _ (set_new p (neL_cons h).2))
section
variable {x ka kb kc kd ke kf kg kh ki kj kk : Str} {u v va vb vc vd ve vf vg vh vi vj vk : MV} {r : Vars}
theorem get_0 : Vars.get ((x, v) :: r) x = some v := get_app [] rfl
theorem set_0 : Vars.set ((x, u) :: r) x v = (x, v) :: r := set_app [] rfl
theorem new_0 : Vars.set [] x v = [(x, v)] := set_new [] rfl
theorem get_1 (h : neL x [ka] = true) : Vars.get ((ka, va) :: (x, v) :: r) x = some v := get_app [(ka, va)] h
theorem set_1 (h : neL x [ka] = true) : Vars.set ((ka, va) :: (x, u) :: r) x v = (ka, va) :: (x, v) :: r := set_app [(ka, va)] h
theorem new_1 (h : neL x [ka] = true) : Vars.set [(ka, va)] x v = [(ka, va), (x, v)] := set_new [(ka, va)] h
theorem get_2 (h : neL x [ka, kb] = true) : Vars.get ((ka, va) :: (kb, vb) :: (x, v) :: r) x = some v := get_app [(ka, va), (kb, vb)] h
theorem set_2 (h : neL x [ka, kb] = true) : Vars.set ((ka, va) :: (kb, vb) :: (x, u) :: r) x v = (ka, va) :: (kb, vb) :: (x, v) :: r := set_app [(ka, va), (kb, vb)] h
theorem new_2 (h : neL x [ka, kb] = true) : Vars.set [(ka, va), (kb, vb)] x v = [(ka, va), (kb, vb), (x, v)] := set_new [(ka, va), (kb, vb)] h
theorem get_3 (h : neL x [ka, kb, kc] = true) : Vars.get ((ka, va) :: (kb, vb) :: (kc, vc) :: (x, v) :: r) x = some v := get_app [(ka, va), (kb, vb), (kc, vc)] h
theorem set_3 (h : neL x [ka, kb, kc] = true) : Vars.set ((ka, va) :: (kb, vb) :: (kc, vc) :: (x, u) :: r) x v = (ka, va) :: (kb, vb) :: (kc, vc) :: (x, v) :: r := set_app [(ka, va), (kb, vb), (kc, vc)] h
theorem new_3 (h : neL x [ka, kb, kc] = true) : Vars.set [(ka, va), (kb, vb), (kc, vc)] x v = [(ka, va), (kb, vb), (kc, vc), (x, v)] := set_new [(ka, va), (kb, vb), (kc, vc)] h
theorem get_4 (h : neL x [ka, kb, kc, kd] = true) : Vars.get ((ka, va) :: (kb, vb) :: (kc, vc) :: (kd, vd) :: (x, v) :: r) x = some v := get_app [(ka, va), (kb, vb), (kc, vc), (kd, vd)] h
theorem set_4 (h : neL x [ka, kb, kc, kd] = true) : Vars.set ((ka, va) :: (kb, vb) :: (kc, vc) :: (kd, vd) :: (x, u) :: r) x v = (ka, va) :: (kb, vb) :: (kc, vc) :: (kd, vd) :: (x, v) :: r := set_app [(ka, va), (kb, vb), (kc, vc), (kd, vd)] h
theorem new_4 (h : neL x [ka, kb, kc, kd] = true) : Vars.set [(ka, va), (kb, vb), (kc, vc), (kd, vd)] x v = [(ka, va), (kb, vb), (kc, vc), (kd, vd), (x, v)] := set_new [(ka, va), (kb, vb), (kc, vc), (kd, vd)] h
theorem get_5 (h : neL x [ka, kb, kc, kd, ke] = true) : Vars.get ((ka, va) :: (kb, vb) :: (kc, vc) :: (kd, vd) :: (ke, ve) :: (x, v) :: r) x = some v := get_app [(ka, va), (kb, vb), (kc, vc), (kd, vd), (ke, ve)] h
theorem set_5 (h : neL x [ka, kb, kc, kd, ke] = true) : Vars.set ((ka, va) :: (kb, vb) :: (kc, vc) :: (kd, vd) :: (ke, ve) :: (x, u) :: r) x v = (ka, va) :: (kb, vb) :: (kc, vc) :: (kd, vd) :: (ke, ve) :: (x, v) :: r := set_app [(ka, va), (kb, vb), (kc, vc), (kd, vd), (ke, ve)] h
theorem new_5 (h : neL x [ka, kb, kc, kd, ke] = true) : Vars.set [(ka, va), (kb, vb), (kc, vc), (kd, vd), (ke, ve)] x v = [(ka, va), (kb, vb), (kc, vc), (kd, vd), (ke, ve), (x, v)] := set_new [(ka, va), (kb, vb), (kc, vc), (kd, vd), (ke, ve)] h
theorem get_6 (h : neL x [ka, kb, kc, kd, ke, kf] = true) : Vars.get ((ka, va) :: (kb, vb) :: (kc, vc) :: (kd, vd) :: (ke, ve) :: (kf, vf) :: (x, v) :: r) x = some v := get_app [(ka, va), (kb, vb), (kc, vc), (kd, vd), (ke, ve), (kf, vf)] h
theorem set_6 (h : neL x [ka, kb, kc, kd, ke, kf] = true) : Vars.set ((ka, va) :: (kb, vb) :: (kc, vc) :: (kd, vd) :: (ke, ve) :: (kf, vf) :: (x, u) :: r) x v = (ka, va) :: (kb, vb) :: (kc, vc) :: (kd, vd) :: (ke, ve) :: (kf, vf) :: (x, v) :: r := set_app [(ka, va), (kb, vb), (kc, vc), (kd, vd), (ke, ve), (kf, vf)] h
theorem new_6 (h : neL x [ka, kb, kc, kd, ke, kf] = true) : Vars.set [(ka, va), (kb, vb), (kc, vc), (kd, vd), (ke, ve), (kf, vf)] x v = [(ka, va), (kb, vb), (kc, vc), (kd, vd), (ke, ve), (kf, vf), (x, v)] := set_new [(ka, va), (kb, vb), (kc, vc), (kd, vd), (ke, ve), (kf, vf)] h
theorem get_7 (h : neL x [ka, kb, kc, kd, ke, kf, kg] = true) : Vars.get ((ka, va) :: (kb, vb) :: (kc, vc) :: (kd, vd) :: (ke, ve) :: (kf, vf) :: (kg, vg) :: (x, v) :: r) x = some v := get_app [(ka, va), (kb, vb), (kc, vc), (kd, vd), (ke, ve), (kf, vf), (kg, vg)] h
theorem set_7 (h : neL x [ka, kb, kc, kd, ke, kf, kg] = true) : Vars.set ((ka, va) :: (kb, vb) :: (kc, vc) :: (kd, vd) :: (ke, ve) :: (kf, vf) :: (kg, vg) :: (x, u) :: r) x v = (ka, va) :: (kb, vb) :: (kc, vc) :: (kd, vd) :: (ke, ve) :: (kf, vf) :: (kg, vg) :: (x, v) :: r := set_app [(ka, va), (kb, vb), (kc, vc), (kd, vd), (ke, ve), (kf, vf), (kg, vg)] h
theorem new_7 (h : neL x [ka, kb, kc, kd, ke, kf, kg] = true) : Vars.set [(ka, va), (kb, vb), (kc, vc), (kd, vd), (ke, ve), (kf, vf), (kg, vg)] x v = [(ka, va), (kb, vb), (kc, vc), (kd, vd), (ke, ve), (kf, vf), (kg, vg), (x, v)] := set_new [(ka, va), (kb, vb), (kc, vc), (kd, vd), (ke, ve), (kf, vf), (kg, vg)] h
theorem get_8 (h : neL x [ka, kb, kc, kd, ke, kf, kg, kh] = true) : Vars.get ((ka, va) :: (kb, vb) :: (kc, vc) :: (kd, vd) :: (ke, ve) :: (kf, vf) :: (kg, vg) :: (kh, vh) :: (x, v) :: r) x = some v := get_app [(ka, va), (kb, vb), (kc, vc), (kd, vd), (ke, ve), (kf, vf), (kg, vg), (kh, vh)] h
theorem set_8 (h : neL x [ka, kb, kc, kd, ke, kf, kg, kh] = true) : Vars.set ((ka, va) :: (kb, vb) :: (kc, vc) :: (kd, vd) :: (ke, ve) :: (kf, vf) :: (kg, vg) :: (kh, vh) :: (x, u) :: r) x v = (ka, va) :: (kb, vb) :: (kc, vc) :: (kd, vd) :: (ke, ve) :: (kf, vf) :: (kg, vg) :: (kh, vh) :: (x, v) :: r := set_app [(ka, va), (kb, vb), (kc, vc), (kd, vd), (ke, ve), (kf, vf), (kg, vg), (kh, vh)] h
theorem new_8 (h : neL x [ka, kb, kc, kd, ke, kf, kg, kh] = true) : Vars.set [(ka, va), (kb, vb), (kc, vc), (kd, vd), (ke, ve), (kf, vf), (kg, vg), (kh, vh)] x v = [(ka, va), (kb, vb), (kc, vc), (kd, vd), (ke, ve), (kf, vf), (kg, vg), (kh, vh), (x, v)] := set_new [(ka, va), (kb, vb), (kc, vc), (kd, vd), (ke, ve), (kf, vf), (kg, vg), (kh, vh)] h
theorem get_9 (h : neL x [ka, kb, kc, kd, ke, kf, kg, kh, ki] = true) : Vars.get ((ka, va) :: (kb, vb) :: (kc, vc) :: (kd, vd) :: (ke, ve) :: (kf, vf) :: (kg, vg) :: (kh, vh) :: (ki, vi) :: (x, v) :: r) x = some v := get_app [(ka, va), (kb, vb), (kc, vc), (kd, vd), (ke, ve), (kf, vf), (kg, vg), (kh, vh), (ki, vi)] h
theorem set_9 (h : neL x [ka, kb, kc, kd, ke, kf, kg, kh, ki] = true) : Vars.set ((ka, va) :: (kb, vb) :: (kc, vc) :: (kd, vd) :: (ke, ve) :: (kf, vf) :: (kg, vg) :: (kh, vh) :: (ki, vi) :: (x, u) :: r) x v = (ka, va) :: (kb, vb) :: (kc, vc) :: (kd, vd) :: (ke, ve) :: (kf, vf) :: (kg, vg) :: (kh, vh) :: (ki, vi) :: (x, v) :: r := set_app [(ka, va), (kb, vb), (kc, vc), (kd, vd), (ke, ve), (kf, vf), (kg, vg), (kh, vh), (ki, vi)] h
theorem new_9 (h : neL x [ka, kb, kc, kd, ke, kf, kg, kh, ki] = true) : Vars.set [(ka, va), (kb, vb), (kc, vc), (kd, vd), (ke, ve), (kf, vf), (kg, vg), (kh, vh), (ki, vi)] x v = [(ka, va), (kb, vb), (kc, vc), (kd, vd), (ke, ve), (kf, vf), (kg, vg), (kh, vh), (ki, vi), (x, v)] := set_new [(ka, va), (kb, vb), (kc, vc), (kd, vd), (ke, ve), (kf, vf), (kg, vg), (kh, vh), (ki, vi)] h
theorem get_10 (h : neL x [ka, kb, kc, kd, ke, kf, kg, kh, ki, kj] = true) : Vars.get ((ka, va) :: (kb, vb) :: (kc, vc) :: (kd, vd) :: (ke, ve) :: (kf, vf) :: (kg, vg) :: (kh, vh) :: (ki, vi) :: (kj, vj) :: (x, v) :: r) x = some v := get_app [(ka, va), (kb, vb), (kc, vc), (kd, vd), (ke, ve), (kf, vf), (kg, vg), (kh, vh), (ki, vi), (kj, vj)] h
theorem new_10 (h : neL x [ka, kb, kc, kd, ke, kf, kg, kh, ki, kj] = true) : Vars.set [(ka, va), (kb, vb), (kc, vc), (kd, vd), (ke, ve), (kf, vf), (kg, vg), (kh, vh), (ki, vi), (kj, vj)] x v = [(ka, va), (kb, vb), (kc, vc), (kd, vd), (ke, ve), (kf, vf), (kg, vg), (kh, vh), (ki, vi), (kj, vj), (x, v)] := set_new [(ka, va), (kb, vb), (kc, vc), (kd, vd), (ke, ve), (kf, vf), (kg, vg), (kh, vh), (ki, vi), (kj, vj)] h
theorem get_11 (h : neL x [ka, kb, kc, kd, ke, kf, kg, kh, ki, kj, kk] = true) : Vars.get ((ka, va) :: (kb, vb) :: (kc, vc) :: (kd, vd) :: (ke, ve) :: (kf, vf) :: (kg, vg) :: (kh, vh) :: (ki, vi) :: (kj, vj) :: (kk, vk) :: (x, v) :: r) x = some v := get_app [(ka, va), (kb, vb), (kc, vc), (kd, vd), (ke, ve), (kf, vf), (kg, vg), (kh, vh), (ki, vi), (kj, vj), (kk, vk)] h
theorem new_11 (h : neL x [ka, kb, kc, kd, ke, kf, kg, kh, ki, kj, kk] = true) : Vars.set [(ka, va), (kb, vb), (kc, vc), (kd, vd), (ke, ve), (kf, vf), (kg, vg), (kh, vh), (ki, vi), (kj, vj), (kk, vk)] x v = [(ka, va), (kb, vb), (kc, vc), (kd, vd), (ke, ve), (kf, vf), (kg, vg), (kh, vh), (ki, vi), (kj, vj), (kk, vk), (x, v)] := set_new [(ka, va), (kb, vb), (kc, vc), (kd, vd), (ke, ve), (kf, vf), (kg, vg), (kh, vh), (ki, vi), (kj, vj), (kk, vk)] h
end
end Mine
end
section
namespace Mine

/-! ### digits of a natural number, base 2 ^ w -/
noncomputable def bitlen (n : Nat) : Nat := if n = 0 then 0 else Nat.log2 n + 1
theorem lt_bitlen (n : Nat) : n < 2 ^ bitlen n := by
  unfold bitlen
  split
  · subst_vars; decide
  · exact (Nat.log2_lt (by assumption)).mp (Nat.lt_succ_self _)
theorem bitlen_le_of {n k : Nat} (h : n < 2 ^ k) : bitlen n ≤ k := by
  unfold bitlen
  split
  · exact Nat.zero_le _
  · exact (Nat.log2_lt (by assumption)).mpr h
theorem le_bitlen {n : Nat} (h : 0 < n) : 2 ^ (bitlen n - 1) ≤ n := by
  unfold bitlen
  rw [if_neg (by omega)]
  exact Nat.log2_self_le (by omega)
theorem bitlen_pos {n : Nat} (h : 0 < n) : 0 < bitlen n := by unfold bitlen; rw [if_neg (by omega)]; omega
theorem lt_of_bitlen {n k : Nat} (h : bitlen n ≤ k) : n < 2 ^ k := Nat.lt_of_lt_of_le (lt_bitlen n) (Nat.pow_le_pow_right (by decide) h)
theorem bitlen_eq {n k : Nat} (h1 : 2 ^ k ≤ n) (h2 : n < 2 ^ (k + 1)) : bitlen n = k + 1 := by
  have a := bitlen_le_of h2
  have b : k < bitlen n := (Nat.pow_lt_pow_iff_right (by decide : 1 < 2)).mp (Nat.lt_of_le_of_lt h1 (lt_bitlen n))
  omega

noncomputable abbrev digit (w n i : Nat) : Nat := n / 2 ^ (w * i) % 2 ^ w
noncomputable def Dig (w k n : Nat) : List Nat := (List.range k).map (digit w n)
noncomputable def dlen (w n : Nat) : Nat := if n = 0 then 0 else Nat.log2 n / w + 1
noncomputable def dg (w n : Nat) : List Nat := Dig w (dlen w n) n

theorem Dig_length {w k n : Nat} : (Dig w k n).length = k := by simp [Dig]
theorem Dig_zero {w n : Nat} : Dig w 0 n = [] := rfl
theorem Dig_succ {w k n : Nat} : Dig w (k + 1) n = Dig w k n ++ [digit w n k] := by simp [Dig, List.range_succ]
theorem Dig_get {w k n i : Nat} (h : i < k) : (Dig w k n)[i]? = some (digit w n i) := by simp [Dig, h]
theorem digit_lt {w n i : Nat} : digit w n i < 2 ^ w := Nat.mod_lt _ (Nat.two_pow_pos w)
theorem dg_zero {w : Nat} : dg w 0 = [] := by simp [dg, dlen, Dig]
theorem dg_length {w n : Nat} : (dg w n).length = dlen w n := Dig_length
theorem dg_get {w n i : Nat} (h : i < dlen w n) : (dg w n)[i]? = some (digit w n i) := Dig_get h
theorem bmul {w i : Nat} : 2 ^ (w * (i + 1)) = 2 ^ (w * i) * 2 ^ w := by rw [Nat.mul_add, Nat.mul_one, Nat.pow_add]
theorem lt_dlen {w n : Nat} (hw : 0 < w) : n < 2 ^ (w * dlen w n) := by
  unfold dlen
  split
  · subst_vars; simp
  · rename_i h
    have h1 : n < 2 ^ (Nat.log2 n + 1) := (Nat.log2_lt h).mp (Nat.lt_succ_self _)
    refine Nat.lt_of_lt_of_le h1 (Nat.pow_le_pow_right (by decide) ?_)
    have := Nat.div_add_mod (Nat.log2 n) w
    have := Nat.mod_lt (Nat.log2 n) hw
    rw [Nat.mul_add]; omega
theorem dlen_le {w n k : Nat} (hw : 0 < w) (h : n < 2 ^ (w * k)) : dlen w n ≤ k := by
  unfold dlen
  split
  · exact Nat.zero_le _
  · rename_i h0
    have h1 : Nat.log2 n < w * k := (Nat.log2_lt h0).mpr h
    exact Nat.div_lt_of_lt_mul h1
theorem le_dlen {w n : Nat} (h : 0 < n) : 2 ^ (w * (dlen w n - 1)) ≤ n := by
  unfold dlen
  rw [if_neg (by omega), Nat.add_sub_cancel]
  refine Nat.le_trans (Nat.pow_le_pow_right (by decide) ?_) (Nat.log2_self_le (by omega))
  exact Nat.mul_div_le _ _
theorem dlen_pos {w n : Nat} (h : 0 < n) : 0 < dlen w n := by unfold dlen; rw [if_neg (by omega)]; exact Nat.succ_pos _
theorem dlen_zero {w : Nat} : dlen w 0 = 0 := by simp [dlen]
theorem dlen_eq_zero {w n : Nat} : dlen w n = 0 ↔ n = 0 := by
  refine ⟨fun h => ?_, fun h => by rw [h, dlen_zero]⟩
  rcases Nat.eq_zero_or_pos n with e | e
  · exact e
  · have := dlen_pos (w := w) e; omega
theorem dlen_mono {w n m : Nat} (hw : 0 < w) (h : n ≤ m) : dlen w n ≤ dlen w m := dlen_le hw (Nat.lt_of_le_of_lt h (lt_dlen hw))
theorem dlen_eq {w n k : Nat} (hw : 0 < w) (h1 : 2 ^ (w * k) ≤ n) (h2 : n < 2 ^ (w * (k + 1))) : dlen w n = k + 1 := by
  have a := dlen_le hw h2
  have b := lt_dlen hw (n := n)
  have c : w * k < w * dlen w n := (Nat.pow_lt_pow_iff_right (by decide : 1 < 2)).mp (Nat.lt_of_le_of_lt h1 b)
  have d : k < dlen w n := Nat.lt_of_mul_lt_mul_left c
  omega
/-- enough digits, the highest not nought -/
theorem Dig_dg {w k n : Nat} (hw : 0 < w) (h : k = dlen w n) : Dig w k n = dg w n := by subst h; rfl
theorem digit_high {w n i : Nat} (h : n < 2 ^ (w * i)) : digit w n i = 0 := by simp [digit, Nat.div_eq_of_lt h]
theorem digit_beyond {w n i : Nat} (hw : 0 < w) (h : dlen w n ≤ i) : digit w n i = 0 :=
  digit_high (Nat.lt_of_lt_of_le (lt_dlen hw) (Nat.pow_le_pow_right (by decide) (Nat.mul_le_mul_left _ h)))
theorem digit_top {w n : Nat} (hw : 0 < w) (h : 0 < n) : digit w n (dlen w n - 1) ≠ 0 := by
  have h1 := le_dlen (w := w) h
  have h2 := lt_dlen hw (n := n)
  have hp := dlen_pos (w := w) h
  obtain ⟨k, hk⟩ : ∃ k, dlen w n = k + 1 := ⟨dlen w n - 1, by omega⟩
  rw [hk] at h1 h2 ⊢
  rw [Nat.add_sub_cancel] at h1 ⊢
  rw [bmul] at h2
  have h3 : n / 2 ^ (w * k) < 2 ^ w := Nat.div_lt_of_lt_mul h2
  rw [digit, Nat.mod_eq_of_lt h3]
  have : 0 < n / 2 ^ (w * k) := Nat.div_pos h1 (Nat.two_pow_pos _)
  omega

/-- the noughts at the end go -/
noncomputable def strip (ds : List Nat) : List Nat := (ds.reverse.dropWhile (· == 0)).reverse
theorem strip_snoc_zero {ds : List Nat} : strip (ds ++ [0]) = strip ds := by simp [strip]
theorem strip_snoc_pos {ds : List Nat} {d : Nat} (h : d ≠ 0) : strip (ds ++ [d]) = ds ++ [d] := by simp [strip, h]
theorem strip_Dig {w n : Nat} (hw : 0 < w) : ∀ {k : Nat}, n < 2 ^ (w * k) → strip (Dig w k n) = dg w n
  | 0, h => by
    have : n = 0 := by simpa using h
    subst this; rw [dg_zero]; rfl
  | k + 1, h => by
    rw [Dig_succ]
    by_cases h0 : n < 2 ^ (w * k)
    · rw [digit_high h0, strip_snoc_zero, strip_Dig hw h0]
    · have e := dlen_eq hw (Nat.le_of_not_lt h0) h
      have hn : 0 < n := Nat.lt_of_lt_of_le (Nat.two_pow_pos _) (Nat.le_of_not_lt h0)
      have := digit_top hw hn
      rw [e, Nat.add_sub_cancel] at this
      rw [strip_snoc_pos this, ← Dig_succ, dg, e]

/-! ### one step of a carry -/
theorem mod_step {w n i : Nat} : n % 2 ^ (w * (i + 1)) = n % 2 ^ (w * i) + 2 ^ (w * i) * digit w n i := by
  rw [bmul, Nat.mod_mul]
/-- `c` has been carried to digit `i` out of `O % B ^ i + X`; `y` comes on -/
theorem carry_div {w O X y i : Nat} : ((O % 2 ^ (w * i) + X) / 2 ^ (w * i) + digit w O i + y) / 2 ^ w = (O % 2 ^ (w * (i + 1)) + (X + y * 2 ^ (w * i))) / 2 ^ (w * (i + 1)) := by
  rw [mod_step, bmul, ← Nat.div_div_eq_div_mul]
  congr 1
  rw [show O % 2 ^ (w * i) + 2 ^ (w * i) * digit w O i + (X + y * 2 ^ (w * i)) = (O % 2 ^ (w * i) + X) + (digit w O i + y) * 2 ^ (w * i) by
    rw [Nat.add_mul, Nat.mul_comm (2 ^ (w * i)) (digit w O i)]; omega]
  rw [Nat.add_mul_div_right _ _ (Nat.two_pow_pos _), Nat.add_assoc]
theorem carry_mod {w O X y i : Nat} : ((O % 2 ^ (w * i) + X) / 2 ^ (w * i) + digit w O i + y) % 2 ^ w = digit w (O + (X + y * 2 ^ (w * i))) i := by
  have e : O = O % 2 ^ (w * i) + 2 ^ (w * i) * (O / 2 ^ (w * i)) := (Nat.mod_add_div _ _).symm
  have e2 : (O + (X + y * 2 ^ (w * i))) / 2 ^ (w * i) = (O % 2 ^ (w * i) + X) / 2 ^ (w * i) + O / 2 ^ (w * i) + y := by
    conv => lhs; rw [e]
    rw [show O % 2 ^ (w * i) + 2 ^ (w * i) * (O / 2 ^ (w * i)) + (X + y * 2 ^ (w * i)) = (O % 2 ^ (w * i) + X) + (O / 2 ^ (w * i) + y) * 2 ^ (w * i) by
      rw [Nat.add_mul, Nat.mul_comm (2 ^ (w * i)) (O / 2 ^ (w * i))]; omega]
    rw [Nat.add_mul_div_right _ _ (Nat.two_pow_pos _), Nat.add_assoc]
  show _ = (O + (X + y * 2 ^ (w * i))) / 2 ^ (w * i) % 2 ^ w
  rw [e2]
  show ((O % 2 ^ (w * i) + X) / 2 ^ (w * i) + O / 2 ^ (w * i) % 2 ^ w + y) % 2 ^ w = _
  rw [Nat.add_right_comm _ (O / 2 ^ (w * i) % 2 ^ w) y, Nat.add_right_comm _ (O / 2 ^ (w * i)) y, Nat.add_mod_mod]
/-- a digit hears nothing of what stands higher -/
theorem digit_congr {w a b i : Nat} (h : a % 2 ^ (w * (i + 1)) = b % 2 ^ (w * (i + 1))) : digit w a i = digit w b i := by
  have key : ∀ a, digit w a i = a % 2 ^ (w * (i + 1)) / 2 ^ (w * i) := fun a => by
    rw [bmul, Nat.mod_mul_right_div_self]
  rw [key, key, h]
theorem digit_add_high {w a x i j : Nat} (h : i < j) : digit w (a + x * 2 ^ (w * j)) i = digit w a i := by
  refine digit_congr ?_
  obtain ⟨k, rfl⟩ : ∃ k, j = i + 1 + k := ⟨j - (i + 1), by omega⟩
  rw [Nat.mul_add w (i + 1) k, Nat.pow_add, show x * (2 ^ (w * (i + 1)) * 2 ^ (w * k)) = 2 ^ (w * (i + 1)) * (x * 2 ^ (w * k)) by
    rw [← Nat.mul_assoc, Nat.mul_comm x, Nat.mul_assoc], Nat.add_mul_mod_self_left]
theorem digit_mod {w n i j : Nat} (h : i < j) : digit w (n % 2 ^ (w * j)) i = digit w n i := by
  have := digit_add_high (w := w) (a := n % 2 ^ (w * j)) (x := n / 2 ^ (w * j)) h
  rw [← this, Nat.mul_comm (n / 2 ^ (w * j)), Nat.mod_add_div]
end Mine
end
section
namespace Mine
noncomputable abbrev P (w i : Nat) : Nat := 2 ^ (w * i)

/-! ### sums -/
theorem add_carry {w x y i : Nat} : ((x % P w i + y % P w i) / P w i + (digit w x i + digit w y i)) / 2 ^ w = (x % P w (i + 1) + y % P w (i + 1)) / P w (i + 1) := by
  have := carry_div (w := w) (O := x) (X := y % P w i) (y := digit w y i) (i := i)
  rw [Nat.mul_comm (digit w y i), ← mod_step] at this
  rw [← Nat.add_assoc]; exact this
theorem add_digit {w x y i : Nat} : ((x % P w i + y % P w i) / P w i + (digit w x i + digit w y i)) % 2 ^ w = digit w (x + y) i := by
  have := carry_mod (w := w) (O := x) (X := y % P w i) (y := digit w y i) (i := i)
  rw [Nat.mul_comm (digit w y i), ← mod_step] at this
  rw [← Nat.add_assoc]
  refine this.trans (digit_congr ?_)
  rw [Nat.add_mod_mod]
theorem carry_zero {w x y : Nat} : (x % P w 0 + y % P w 0) / P w 0 = 0 := by simp [P, Nat.mod_one]
theorem mod_all {w x i : Nat} (hw : 0 < w) (h : dlen w x ≤ i) : x % P w i = x :=
  Nat.mod_eq_of_lt (Nat.lt_of_lt_of_le (lt_dlen hw) (Nat.pow_le_pow_right (by decide) (Nat.mul_le_mul_left _ h)))
theorem add_end_zero {w x y : Nat} (hw : 0 < w) (h : dlen w y ≤ dlen w x) (hc : (x % P w (dlen w x) + y % P w (dlen w x)) / P w (dlen w x) = 0) : Dig w (dlen w x) (x + y) = dg w (x + y) := by
  rw [mod_all hw (Nat.le_refl _), mod_all hw h] at hc
  refine Dig_dg hw (Nat.le_antisymm (dlen_mono hw (Nat.le_add_right _ _)) (dlen_le hw ?_))
  exact (Nat.div_eq_zero_iff_lt (Nat.two_pow_pos _)).mp hc
theorem add_end_pos {w x y : Nat} (hw : 0 < w) (h : dlen w y ≤ dlen w x) (hc : 0 < (x % P w (dlen w x) + y % P w (dlen w x)) / P w (dlen w x)) :
    Dig w (dlen w x) (x + y) ++ [(x % P w (dlen w x) + y % P w (dlen w x)) / P w (dlen w x)] = dg w (x + y) := by
  rw [mod_all hw (Nat.le_refl _), mod_all hw h] at hc ⊢
  have h1 : P w (dlen w x) ≤ x + y := by
    refine Nat.le_of_not_lt fun q => ?_
    rw [Nat.div_eq_of_lt q] at hc; omega
  have h2 : x + y < P w (dlen w x + 1) := by
    have a := lt_dlen hw (n := x)
    have b : y < 2 ^ (w * dlen w x) := Nat.lt_of_lt_of_le (lt_dlen hw) (Nat.pow_le_pow_right (by decide) (Nat.mul_le_mul_left _ h))
    rw [P, bmul]
    have : 2 ^ 1 ≤ 2 ^ w := Nat.pow_le_pow_right (by decide) hw
    have := Nat.mul_le_mul_left (2 ^ (w * dlen w x)) this
    omega
  have e := dlen_eq hw h1 h2
  have h3 : (x + y) / P w (dlen w x) < 2 ^ w := by
    refine Nat.div_lt_of_lt_mul ?_
    rw [P, bmul] at h2; exact h2
  rw [show (x + y) / P w (dlen w x) = digit w (x + y) (dlen w x) from (Nat.mod_eq_of_lt h3).symm, ← Dig_succ, dg, e]

/-! ### differences -/
noncomputable def bor (w x y i : Nat) : Nat := if x % P w i < y % P w i then 1 else 0
theorem bor_zero {w x y : Nat} : bor w x y 0 = 0 := by simp [bor, P, Nat.mod_one]
theorem sub_core {w x y i : Nat} (h : y ≤ x) : ∃ q, x % P w i + q * P w i = y % P w i + (x - y) % P w i ∧ q = bor w x y i := by
  have hp : 0 < P w i := Nat.two_pow_pos _
  have h1 : (y % P w i + (x - y) % P w i) % P w i = x % P w i := by rw [← Nat.add_mod]; congr 1; omega
  have l1 := Nat.mod_lt x hp
  have l2 := Nat.mod_lt y hp
  have l3 := Nat.mod_lt (x - y) hp
  refine ⟨_, ?_, rfl⟩
  unfold bor
  split
  · rename_i hlt
    have : P w i ≤ y % P w i + (x - y) % P w i := by
      refine Nat.le_of_not_lt fun q => ?_
      rw [Nat.mod_eq_of_lt q] at h1; omega
    have h4 : (y % P w i + (x - y) % P w i) % P w i = y % P w i + (x - y) % P w i - P w i := by
      rw [Nat.mod_eq_sub_mod this, Nat.mod_eq_of_lt (by omega)]
    omega
  · rename_i hge
    have : y % P w i + (x - y) % P w i < P w i := by
      refine Nat.lt_of_not_le fun q => ?_
      have h4 : (y % P w i + (x - y) % P w i) % P w i = y % P w i + (x - y) % P w i - P w i := by
        rw [Nat.mod_eq_sub_mod q, Nat.mod_eq_of_lt (by omega)]
      omega
    rw [Nat.mod_eq_of_lt this] at h1
    omega
theorem sub_step {w x y i : Nat} (h : y ≤ x) : (digit w x i : Int) - bor w x y i - digit w y i = digit w (x - y) i - (bor w x y (i + 1) : Int) * 2 ^ w := by
  obtain ⟨q, h1, hq⟩ := sub_core (w := w) (i := i) h
  obtain ⟨r, h2, hr⟩ := sub_core (w := w) (i := i + 1) h
  subst hq hr
  rw [mod_step, mod_step, mod_step] at h2
  have e : P w (i + 1) = P w i * 2 ^ w := bmul
  rw [e] at h2
  have hp : 0 < P w i := Nat.two_pow_pos _
  have : P w i * (digit w x i + bor w x y (i + 1) * 2 ^ w) = P w i * (bor w x y i + digit w y i + digit w (x - y) i) := by
    rw [Nat.mul_add, Nat.mul_add, Nat.mul_add]
    have : bor w x y (i + 1) * (P w i * 2 ^ w) = P w i * (bor w x y (i + 1) * 2 ^ w) := by rw [← Nat.mul_assoc, Nat.mul_comm _ (P w i), Nat.mul_assoc]
    have : bor w x y i * P w i = P w i * bor w x y i := Nat.mul_comm _ _
    simp only [P] at *
    omega
  have := Nat.eq_of_mul_eq_mul_left hp this
  have : (digit w x i : Int) + (bor w x y (i + 1) : Int) * 2 ^ w = bor w x y i + digit w y i + digit w (x - y) i := by exact_mod_cast this
  omega
theorem bor_le {w x y i : Nat} : bor w x y i ≤ 1 := by unfold bor; split <;> omega

/-! ### shifts -/
/-- digit and carry of `x * 2 ^ f` -/
theorem shl_carry {w x f i : Nat} (hf : f < w) : ((x % P w i * 2 ^ f) / P w i + digit w x i * 2 ^ f) / 2 ^ w = (x % P w (i + 1) * 2 ^ f) / P w (i + 1) := by
  have := carry_div (w := w) (O := 0) (X := x % P w i * 2 ^ f) (y := digit w x i * 2 ^ f) (i := i)
  simp only [Nat.zero_mod, Nat.zero_add, digit_high (Nat.two_pow_pos _), Nat.add_zero] at this
  rw [this, mod_step, Nat.add_mul]
  congr 2
  rw [Nat.mul_comm (P w i), Nat.mul_assoc, Nat.mul_comm (2 ^ f), ← Nat.mul_assoc]
theorem shl_digit {w x f i : Nat} (hf : f < w) : ((x % P w i * 2 ^ f) / P w i + digit w x i * 2 ^ f) % 2 ^ w = digit w (x * 2 ^ f) i := by
  have := carry_mod (w := w) (O := 0) (X := x % P w i * 2 ^ f) (y := digit w x i * 2 ^ f) (i := i)
  simp only [Nat.zero_mod, Nat.zero_add, digit_high (Nat.two_pow_pos _), Nat.add_zero] at this
  rw [this]
  refine digit_congr ?_
  have e : x % P w i * 2 ^ f + digit w x i * 2 ^ f * 2 ^ (w * i) = x % P w (i + 1) * 2 ^ f := by
    rw [mod_step, Nat.add_mul, Nat.mul_comm (2 ^ (w * i)), Nat.mul_right_comm]
  rw [e, Nat.mod_mul_mod]
theorem shl_small {w x f i : Nat} : (x % P w i * 2 ^ f) / P w i < 2 ^ f := by
  refine Nat.div_lt_of_lt_mul ?_
  rw [Nat.mul_comm (P w i)]
  rw [Nat.mul_comm]
  exact Nat.mul_lt_mul_of_pos_left (Nat.mod_lt _ (Nat.two_pow_pos _)) (Nat.two_pow_pos _)
theorem digit_shift {w x s i : Nat} : digit w (x * P w s) (s + i) = digit w x i := by
  unfold digit
  rw [Nat.mul_add, Nat.pow_add, Nat.mul_comm (2 ^ (w * s)), Nat.mul_div_mul_right _ _ (Nat.two_pow_pos _)]
theorem digit_shift_low {w x s i : Nat} (h : i < s) : digit w (x * P w s) i = 0 := by
  have := digit_add_high (w := w) (a := 0) (x := x) h
  rw [Nat.zero_add] at this
  rw [P, this, digit_high (Nat.two_pow_pos _)]
theorem Dig_shift {w x s k : Nat} : List.replicate s 0 ++ Dig w k x = Dig w (s + k) (x * P w s) := by
  refine List.ext_getElem? fun j => ?_
  by_cases hj : j < s
  · rw [List.getElem?_append_left (by simpa using hj), Dig_get (by omega), digit_shift_low hj]
    simp [hj]
  · rw [List.getElem?_append_right (by simpa using Nat.le_of_not_lt hj)]
    simp only [List.length_replicate]
    by_cases hk : j - s < k
    · rw [Dig_get hk, Dig_get (by omega)]
      conv => rhs; rw [show j = s + (j - s) by omega, digit_shift]
    · rw [List.getElem?_eq_none (by rw [Dig_length]; omega), List.getElem?_eq_none (by rw [Dig_length]; omega)]
theorem shift_split {w n x : Nat} : x * 2 ^ (n % w) * P w (n / w) = x * 2 ^ n := by
  rw [Nat.mul_assoc, P, ← Nat.pow_add]
  congr 2
  exact Nat.mod_add_div n w
theorem shl_end_zero {w x f : Nat} (hw : 0 < w) (hx : 0 < x) (hf : f < w) (hc : (x % P w (dlen w x) * 2 ^ f) / P w (dlen w x) = 0) : Dig w (dlen w x) (x * 2 ^ f) = dg w (x * 2 ^ f) := by
  rw [mod_all hw (Nat.le_refl _)] at hc
  refine Dig_dg hw (Nat.le_antisymm (dlen_mono hw (Nat.le_mul_of_pos_right _ (Nat.two_pow_pos _))) (dlen_le hw ?_))
  exact (Nat.div_eq_zero_iff_lt (Nat.two_pow_pos _)).mp hc
theorem shl_end_pos {w x f : Nat} (hw : 0 < w) (hf : f < w) (hc : 0 < (x % P w (dlen w x) * 2 ^ f) / P w (dlen w x)) :
    Dig w (dlen w x) (x * 2 ^ f) ++ [(x % P w (dlen w x) * 2 ^ f) / P w (dlen w x)] = dg w (x * 2 ^ f) ∧ dlen w (x * 2 ^ f) = dlen w x + 1 := by
  rw [mod_all hw (Nat.le_refl _)] at hc ⊢
  have h1 : P w (dlen w x) ≤ x * 2 ^ f := by
    refine Nat.le_of_not_lt fun q => ?_
    rw [Nat.div_eq_of_lt q] at hc; omega
  have h3 : x * 2 ^ f / P w (dlen w x) < 2 ^ f := by
    have := shl_small (w := w) (x := x) (f := f) (i := dlen w x)
    rwa [mod_all hw (Nat.le_refl _)] at this
  have h4 : x * 2 ^ f / P w (dlen w x) < 2 ^ w := Nat.lt_of_lt_of_le h3 (Nat.pow_le_pow_right (by decide) (Nat.le_of_lt hf))
  have h2 : x * 2 ^ f < P w (dlen w x + 1) := by
    rw [P, bmul, Nat.mul_comm (2 ^ (w * dlen w x))]
    exact (Nat.div_lt_iff_lt_mul (Nat.two_pow_pos _)).mp h4
  have e := dlen_eq hw h1 h2
  refine ⟨?_, e⟩
  rw [show x * 2 ^ f / P w (dlen w x) = digit w (x * 2 ^ f) (dlen w x) from (Nat.mod_eq_of_lt h4).symm, ← Dig_succ, dg, e]
theorem dg_shift {w x s : Nat} (hw : 0 < w) (hx : 0 < x) : List.replicate s 0 ++ dg w x = dg w (x * P w s) := by
  rw [dg, Dig_shift]
  refine Dig_dg hw ?_
  obtain ⟨k, hk⟩ : ∃ k, dlen w x = k + 1 := ⟨dlen w x - 1, by have := dlen_pos (w := w) hx; omega⟩
  have h1 := le_dlen (w := w) hx
  have h2 := lt_dlen hw (n := x)
  rw [hk] at h1 h2 ⊢
  rw [Nat.add_sub_cancel] at h1
  rw [← Nat.add_assoc, dlen_eq hw (k := s + k)]
  · rw [Nat.mul_add, Nat.pow_add, Nat.mul_comm]
    exact Nat.mul_le_mul_right _ h1
  · rw [Nat.add_assoc, Nat.mul_add, Nat.pow_add, Nat.mul_comm x]
    exact Nat.mul_lt_mul_of_pos_left h2 (Nat.two_pow_pos _)
/-- digit `j` of `x / 2 ^ n` out of two digits of x -/
theorem shr_digit {w x s f j : Nat} (hf : f < w) : (digit w x (s + j) / 2 ^ f + digit w x (s + j + 1) * 2 ^ (w - f)) % 2 ^ w = digit w (x / 2 ^ (w * s + f)) j := by
  have e : digit w (x / 2 ^ (w * s + f)) j = x / P w (s + j) / 2 ^ f % 2 ^ w := by
    unfold digit
    rw [Nat.div_div_eq_div_mul, Nat.div_div_eq_div_mul, ← Nat.pow_add, ← Nat.pow_add]
    congr 3
    rw [Nat.mul_add]; omega
  rw [e]
  generalize hz : x / P w (s + j) = z
  have d0 : digit w x (s + j) = z % 2 ^ w := by rw [← hz]
  have d1 : digit w x (s + j + 1) = z / 2 ^ w % 2 ^ w := by
    rw [← hz, digit, bmul, Nat.div_div_eq_div_mul]
  rw [d0, d1]
  have p1 : 2 ^ w = 2 ^ f * 2 ^ (w - f) := by rw [← Nat.pow_add]; congr 1; omega
  have a1 : z / 2 ^ f = z % 2 ^ w / 2 ^ f + z / 2 ^ w * 2 ^ (w - f) := by
    conv => lhs; rw [← Nat.mod_add_div z (2 ^ w)]
    rw [show 2 ^ w * (z / 2 ^ w) = z / 2 ^ w * 2 ^ (w - f) * 2 ^ f by rw [Nat.mul_comm, Nat.mul_assoc]; congr 1; rw [p1, Nat.mul_comm]]
    rw [Nat.add_mul_div_right _ _ (Nat.two_pow_pos _)]
  rw [a1]
  have : z / 2 ^ w * 2 ^ (w - f) % 2 ^ w = z / 2 ^ w % 2 ^ w * 2 ^ (w - f) % 2 ^ w := by rw [Nat.mod_mul_mod]
  rw [Nat.add_mod, ← this, ← Nat.add_mod]
theorem shr_lt {w x n : Nat} (hw : 0 < w) : x / 2 ^ n < P w (dlen w x - n / w) := by
  refine Nat.div_lt_of_lt_mul ?_
  rw [P, ← Nat.pow_add]
  refine Nat.lt_of_lt_of_le (lt_dlen hw) (Nat.pow_le_pow_right (by decide) ?_)
  have := Nat.mod_add_div n w
  by_cases h : n / w ≤ dlen w x
  · rw [Nat.mul_sub]
    have := Nat.mul_le_mul_left w h
    omega
  · have := Nat.mul_le_mul_left w (Nat.le_of_lt (Nat.lt_of_not_le h))
    omega
/-! ### the low bits -/
theorem low_big {w x n : Nat} (hw : 0 < w) (h : dlen w x ≤ n / w) : x % 2 ^ n = x := by
  refine Nat.mod_eq_of_lt (Nat.lt_of_lt_of_le (lt_dlen hw) (Nat.pow_le_pow_right (by decide) ?_))
  have := Nat.mod_add_div n w
  have := Nat.mul_le_mul_left w h
  omega
theorem low_digits {w x n : Nat} (hw : 0 < w) : Dig w (n / w) x ++ [digit w x (n / w) % 2 ^ (n % w)] = Dig w (n / w + 1) (x % 2 ^ n) := by
  have en : n = w * (n / w) + n % w := (Nat.div_add_mod n w).symm
  have hf := Nat.mod_lt n hw
  rw [Dig_succ]
  generalize n / w = s at *
  generalize n % w = f at *
  subst en
  have hd : ∀ i, i < s → digit w (x % 2 ^ (w * s + f)) i = digit w x i := fun i hi => by
    refine digit_congr ?_
    refine Nat.mod_mod_of_dvd _ (Nat.pow_dvd_pow _ ?_)
    have := Nat.mul_le_mul_left w (show i + 1 ≤ s from hi)
    omega
  congr 1
  · refine List.map_congr_left fun i hi => (hd i (List.mem_range.mp hi)).symm
  · congr 1
    have h1 : digit w x s % 2 ^ f = x / P w s % 2 ^ f := by
      rw [digit]
      exact Nat.mod_mod_of_dvd _ (Nat.pow_dvd_pow _ (Nat.le_of_lt hf))
    rw [h1, digit, Nat.pow_add, Nat.mod_mul_right_div_self]
    exact (Nat.mod_eq_of_lt (Nat.lt_of_lt_of_le (Nat.mod_lt _ (Nat.two_pow_pos _)) (Nat.pow_le_pow_right (by decide) (Nat.le_of_lt hf)))).symm
theorem low_lt {w x n : Nat} (hw : 0 < w) : x % 2 ^ n < P w (n / w + 1) := by
  refine Nat.lt_of_lt_of_le (Nat.mod_lt _ (Nat.two_pow_pos _)) (Nat.pow_le_pow_right (by decide) ?_)
  have := Nat.mod_add_div n w
  have := Nat.mod_lt n hw
  rw [Nat.mul_add]; omega

/-! ### the length in bits -/
theorem bits_eq {w x : Nat} (hw : 0 < w) (hx : 0 < x) : (dlen w x - 1) * w + bitlen (digit w x (dlen w x - 1)) = bitlen x := by
  obtain ⟨k, hk⟩ : ∃ k, dlen w x = k + 1 := ⟨dlen w x - 1, by have := dlen_pos (w := w) hx; omega⟩
  have h1 := le_dlen (w := w) hx
  have h2 := lt_dlen hw (n := x)
  have h0 := digit_top hw hx
  rw [hk] at h1 h2 h0 ⊢
  rw [Nat.add_sub_cancel] at h1 h0 ⊢
  have h3 : digit w x k = x / P w k := by
    refine Nat.mod_eq_of_lt (Nat.div_lt_of_lt_mul ?_)
    rw [bmul] at h2; exact h2
  rw [h3] at h0 ⊢
  generalize hd : x / P w k = d at *
  have hd0 : 0 < d := by omega
  have a1 := le_bitlen hd0
  have a2 := lt_bitlen d
  have a3 := bitlen_pos hd0
  have b1 : 2 ^ (k * w + (bitlen d - 1)) ≤ x := by
    rw [Nat.pow_add, Nat.mul_comm k w]
    have := Nat.mul_le_mul_left (P w k) a1
    have q := Nat.mul_div_le x (P w k)
    rw [hd] at q
    exact Nat.le_trans this q
  have b2 : x < 2 ^ (k * w + (bitlen d - 1) + 1) := by
    rw [show k * w + (bitlen d - 1) + 1 = w * k + bitlen d by rw [Nat.mul_comm]; omega, Nat.pow_add]
    have : x / P w k < 2 ^ bitlen d := by rw [hd]; exact a2
    rw [Nat.mul_comm]
    exact (Nat.div_lt_iff_lt_mul (Nat.two_pow_pos _)).mp this
  rw [bitlen_eq b1 b2]; omega
/-! ### comparing -/
theorem cmp_top {w x y i : Nat} (h : ∀ j, i < j → digit w x j = digit w y j) (hw : 0 < w) (hlt : digit w x i < digit w y i) : x < y := by
  have key : x / P w (i + 1) = y / P w (i + 1) := by
    obtain ⟨n, hn⟩ : ∃ n, n = dlen w x + dlen w y + i + 2 := ⟨_, rfl⟩
    have : ∀ k, x / P w (n - k) = y / P w (n - k) ∨ n - k < i + 1 := by
      intro k
      induction k with
      | zero =>
        left
        rw [Nat.sub_zero, Nat.div_eq_of_lt (Nat.lt_of_lt_of_le (lt_dlen hw) (Nat.pow_le_pow_right (by decide) (Nat.mul_le_mul_left _ (by omega)))),
          Nat.div_eq_of_lt (Nat.lt_of_lt_of_le (lt_dlen hw) (Nat.pow_le_pow_right (by decide) (Nat.mul_le_mul_left _ (by omega))))]
      | succ k ih =>
        by_cases hk : n - (k + 1) < i + 1
        · exact .inr hk
        left
        rcases ih with ih | ih
        · have e : n - k = n - (k + 1) + 1 := by omega
          have hj := h (n - (k + 1)) (by omega)
          have s : ∀ z, z / P w (n - (k + 1)) = z / P w (n - k) * 2 ^ w + digit w z (n - (k + 1)) := fun z => by
            rw [e, P, P, bmul, ← Nat.div_div_eq_div_mul]
            exact (Nat.div_add_mod' _ _).symm
          rw [s, s y, ih, hj]
        · omega
    rcases this (n - (i + 1)) with q | q
    · rwa [show n - (n - (i + 1)) = i + 1 by omega] at q
    · omega
  have s : ∀ z, z / P w i = z / P w (i + 1) * 2 ^ w + digit w z i := fun z => by
    rw [P, P, bmul, ← Nat.div_div_eq_div_mul]
    exact (Nat.div_add_mod' _ _).symm
  refine Nat.lt_of_not_le fun hge => ?_
  have := Nat.div_le_div_right (c := P w i) hge
  rw [s, s x, key] at this
  omega
theorem cmp_all {w x y : Nat} (hw : 0 < w) (h : ∀ j, digit w x j = digit w y j) : x = y := by
  have : ∀ i, x % P w i = y % P w i := fun i => by
    induction i with
    | zero => simp [P, Nat.mod_one]
    | succ i ih => rw [P, mod_step, mod_step, h i]; simp only [P] at ih; rw [ih]
  have := this (dlen w x + dlen w y)
  rwa [mod_all hw (by omega), mod_all hw (by omega)] at this
theorem cmp_len {w x y : Nat} (hw : 0 < w) (h : dlen w x < dlen w y) : x < y := Nat.lt_of_not_le fun q => by
  have := dlen_mono hw q; omega
end Mine
end
section
namespace Mine
theorem strip_step {ds : List Nat} {e : Nat} (h : e < ds.length) (h0 : ds.getD e 0 = 0) : strip (ds.take (e + 1)) = strip (ds.take e) := by
  rw [List.take_add_one, List.getElem?_eq_getElem h, Option.toList_some]
  have : ds[e] = 0 := by simpa [h] using h0
  rw [this, strip_snoc_zero]
theorem strip_done {ds : List Nat} {e : Nat} (h : e < ds.length) (h0 : ds.getD e 0 ≠ 0) : strip (ds.take (e + 1)) = ds.take (e + 1) := by
  rw [List.take_add_one, List.getElem?_eq_getElem h, Option.toList_some]
  have : ds[e] ≠ 0 := by simpa [h] using h0
  rw [strip_snoc_pos this]
noncomputable def cmpI (x y : Nat) : Int := if x < y then -1 else if x = y then 0 else 1
theorem cmpI_lt {x y : Nat} (h : x < y) : cmpI x y = -1 := if_pos h
theorem cmpI_gt {x y : Nat} (h : y < x) : cmpI x y = 1 := by unfold cmpI; rw [if_neg (by omega), if_neg (by omega)]
theorem cmpI_eq {x y : Nat} (h : x = y) : cmpI x y = 0 := by unfold cmpI; rw [if_neg (by omega), if_pos h]
theorem cmpI_neg {x y : Nat} : cmpI x y < 0 ↔ x < y := by
  rcases Nat.lt_trichotomy x y with h | h | h
  · rw [cmpI_lt h]; simp [h]
  · rw [cmpI_eq h]; simp [h]
  · rw [cmpI_gt h]; omega
theorem cmpI_nonneg {x y : Nat} : 0 ≤ cmpI x y ↔ y ≤ x := by
  have := cmpI_neg (x := x) (y := y); omega
theorem Dig_take {w k j n : Nat} (h : j ≤ k) : (Dig w k n).take j = Dig w j n := by
  rw [Dig, Dig, ← List.map_take, List.take_range, Nat.min_eq_left h]
end Mine
end
section
namespace Mine
/-! ### the ring of numbers by 2 ^ n + 1 -/
noncomputable abbrev M (n : Nat) : Nat := 2 ^ n + 1
theorem M_pos {n : Nat} : 0 < M n := Nat.succ_pos _
theorem M_le {n k : Nat} (h : n + 1 ≤ k) : M n ≤ 2 ^ k := by
  have h1 : 2 ^ (n + 1) ≤ 2 ^ k := Nat.pow_le_pow_right (by decide) h
  have h2 : 0 < 2 ^ n := Nat.two_pow_pos n
  rw [Nat.pow_succ] at h1
  show 2 ^ n + 1 ≤ _
  omega
theorem radd_eq {n a b : Nat} (ha : a < M n) (hb : b < M n) : (a + b) % M n = if M n ≤ a + b then a + b - M n else a + b := by
  split
  · rename_i h
    rw [Nat.mod_eq_sub_mod h, Nat.mod_eq_of_lt (by omega)]
  · exact Nat.mod_eq_of_lt (by omega)
/-- `a - b` -/
noncomputable def rsub (n a b : Nat) : Nat := (a + (M n - b)) % M n
theorem rsub_eq {n a b : Nat} (ha : a < M n) (hb : b < M n) : rsub n a b = if b ≤ a then a - b else a + M n - b := by
  unfold rsub
  split
  · rename_i h
    rw [show a + (M n - b) = (a - b) + M n by omega, Nat.add_mod_right, Nat.mod_eq_of_lt (by omega)]
  · rw [show a + (M n - b) = a + M n - b by omega, Nat.mod_eq_of_lt (by omega)]
theorem rsub_lt {n a b : Nat} : rsub n a b < M n := Nat.mod_lt _ M_pos
/-- `- a` -/
noncomputable def rneg (n a : Nat) : Nat := (M n - a) % M n
theorem rneg_eq {n a : Nat} (ha : a ≤ M n) : rneg n a = if 0 < a then M n - a else 0 := by
  unfold rneg
  split
  · exact Nat.mod_eq_of_lt (by omega)
  · rw [show a = 0 by omega, Nat.sub_zero, Nat.mod_self]
theorem rneg_lt {n a : Nat} : rneg n a < M n := Nat.mod_lt _ M_pos

/-- the same by M n -/
noncomputable def Cg (n : Nat) (a b : Int) : Prop := ∃ q : Int, a = b + (M n : Int) * q
theorem Cg.refl {n : Nat} (a : Int) : Cg n a a := ⟨0, by simp⟩
theorem Cg.of {n : Nat} {a b : Int} (h : a = b) : Cg n a b := h ▸ .refl a
theorem Cg.symm {n : Nat} {a b : Int} : Cg n a b → Cg n b a := fun ⟨q, h⟩ => ⟨-q, by rw [h]; grind⟩
theorem Cg.trans {n : Nat} {a b c : Int} : Cg n a b → Cg n b c → Cg n a c := fun ⟨q, h⟩ ⟨r, h'⟩ => ⟨q + r, by rw [h, h']; grind⟩
theorem Cg.add {n : Nat} {a b c d : Int} : Cg n a b → Cg n c d → Cg n (a + c) (b + d) := fun ⟨q, h⟩ ⟨r, h'⟩ => ⟨q + r, by rw [h, h']; grind⟩
theorem Cg.sub {n : Nat} {a b c d : Int} : Cg n a b → Cg n c d → Cg n (a - c) (b - d) := fun ⟨q, h⟩ ⟨r, h'⟩ => ⟨q - r, by rw [h, h']; grind⟩
theorem Cg.neg {n : Nat} {a b : Int} : Cg n a b → Cg n (-a) (-b) := fun ⟨q, h⟩ => ⟨-q, by rw [h]; grind⟩
theorem Cg.mul {n : Nat} {a b c d : Int} : Cg n a b → Cg n c d → Cg n (a * c) (b * d) := fun ⟨q, h⟩ ⟨r, h'⟩ => ⟨b * r + q * d + M n * q * r, by rw [h, h']; grind⟩
theorem Cg.mod {n : Nat} (a : Nat) : Cg n ((a % M n : Nat) : Int) a := ⟨-((a / M n : Nat) : Int), by
  have := Nat.mod_add_div a (M n)
  have e : ((a % M n : Nat) : Int) + (M n : Int) * ((a / M n : Nat) : Int) = a := by exact_mod_cast this
  rw [← e]; grind⟩
theorem Cg.eq {n a b : Nat} (h : Cg n a b) (ha : a < M n) (hb : b < M n) : a = b := by
  obtain ⟨q, h⟩ := h
  have hM : 0 < M n := M_pos
  generalize M n = m at *
  have h1 : q = 0 := by
    rcases Int.lt_trichotomy q 0 with h0 | h0 | h0
    · have := Int.mul_le_mul_of_nonneg_left (show q ≤ -1 by omega) (show (0 : Int) ≤ m by omega)
      omega
    · exact h0
    · have := Int.mul_le_mul_of_nonneg_left (show 1 ≤ q by omega) (show (0 : Int) ≤ m by omega)
      omega
  subst h1
  omega
theorem Cg.mod_eq {n a b : Nat} (h : Cg n a b) : a % M n = b % M n :=
  ((Cg.mod a).trans (h.trans (Cg.mod b).symm)).eq (Nat.mod_lt _ M_pos) (Nat.mod_lt _ M_pos)
theorem Cg.M (n : Nat) : Cg n ((Mine.M n : Nat) : Int) 0 := ⟨1, by simp⟩
theorem Cg.two (n : Nat) : Cg n ((2 : Int) ^ n) (-1) := ⟨1, by simp; omega⟩
theorem Cg.rsub {n a b : Nat} (hb : b ≤ Mine.M n) : Cg n (rsub n a b : Nat) (a - b) := by
  refine (Cg.mod _).trans ?_
  rw [Int.natCast_add, Int.natCast_sub hb]
  exact .trans (.of (show (a : Int) + ((Mine.M n : Nat) - b) = (a - b) + (Mine.M n : Nat) by omega)) (.trans (.add (.refl _) (.M n)) (.of (by omega)))
theorem Cg.rneg {n a : Nat} (ha : a ≤ Mine.M n) : Cg n (rneg n a : Nat) (-a) := by
  refine (Cg.mod _).trans ?_
  rw [Int.natCast_sub ha]
  exact .trans (.sub (.M n) (.refl _)) (.of (by omega))
theorem Cg.pow_two {n : Nat} : Cg n ((2 : Int) ^ (2 * n)) 1 := by
  rw [show 2 * n = n + n by omega, Int.pow_add]
  exact (Cg.mul (.two n) (.two n)).trans (.of (by decide))
/-- one piece of a fold -/
theorem fold_step {n x : Nat} : Cg n (x : Int) ((x % 2 ^ n : Nat) - (x / 2 ^ n : Nat)) := by
  have := Nat.mod_add_div x (2 ^ n)
  have e : (x : Int) = ((x % 2 ^ n : Nat) : Int) + (2 : Int) ^ n * ((x / 2 ^ n : Nat) : Int) := by exact_mod_cast this.symm
  rw [e]
  refine .trans (.add (.refl _) (.mul (.two n) (.refl _))) (.of ?_)
  omega
/-- `a` shifted by `j` round the ring -/
noncomputable def rsh (n a : Nat) (j : Int) : Nat := a * 2 ^ (j % (2 * n : Nat)).toNat % M n
theorem rsh_lt {n a : Nat} {j : Int} : rsh n a j < M n := Nat.mod_lt _ M_pos
theorem rsh_high {n a k : Nat} (h1 : n ≤ k) : Mine.rneg n (a * 2 ^ (k - n) % M n) = a * 2 ^ k % M n := by
  refine Cg.eq (n := n) ((Cg.rneg (Nat.le_of_lt (Nat.mod_lt _ M_pos))).trans (.trans (.neg (Cg.mod _)) (.trans ?_ (Cg.mod _).symm))) rneg_lt (Nat.mod_lt _ M_pos)
  have e : ((a * 2 ^ k : Nat) : Int) = ((a * 2 ^ (k - n) : Nat) : Int) * 2 ^ n := by
    rw [show a * 2 ^ k = a * 2 ^ (k - n) * 2 ^ n by rw [Nat.mul_assoc, ← Nat.pow_add]; congr 2; omega]
    push_cast; rfl
  rw [e]
  exact .trans (.of (by omega)) (.mul (.refl _) (Cg.two n).symm)
end Mine
end
section
namespace Mine

/-! ### sums -/
noncomputable def sm (k : Nat) (g : Nat → Int) : Int := match k with
  | 0 => 0
  | k + 1 => sm k g + g k
theorem sm_congr {k : Nat} {g h : Nat → Int} (e : ∀ i, i < k → g i = h i) : sm k g = sm k h := by
  induction k with
  | zero => rfl
  | succ k ih => rw [sm, sm, ih fun i hi => e i (by omega), e k (by omega)]
theorem sm_cg {n k : Nat} {g h : Nat → Int} (e : ∀ i, i < k → Cg n (g i) (h i)) : Cg n (sm k g) (sm k h) := by
  induction k with
  | zero => exact .refl _
  | succ k ih => exact .add (ih fun i hi => e i (by omega)) (e k (by omega))
theorem sm_add {k : Nat} {g h : Nat → Int} : sm k (fun i => g i + h i) = sm k g + sm k h := by
  induction k with
  | zero => rfl
  | succ k ih => rw [sm, sm, sm, ih]; omega
theorem sm_mul {k : Nat} {g : Nat → Int} {c : Int} : sm k (fun i => c * g i) = c * sm k g := by
  induction k with
  | zero => simp [sm]
  | succ k ih => rw [sm, sm, ih, Int.mul_add]
theorem sm_mulr {k : Nat} {g : Nat → Int} {c : Int} : sm k (fun i => g i * c) = sm k g * c := by
  induction k with
  | zero => simp [sm]
  | succ k ih => rw [sm, sm, ih, Int.add_mul]
theorem sm_zero {k : Nat} : sm k (fun _ => 0) = 0 := by
  induction k with
  | zero => rfl
  | succ k ih => rw [sm, ih]; rfl
theorem sm_swap {k l : Nat} {g : Nat → Nat → Int} : sm k (fun i => sm l (fun j => g i j)) = sm l (fun j => sm k (fun i => g i j)) := by
  induction k with
  | zero => simp only [sm]; rw [sm_zero]
  | succ k ih => simp only [sm]; rw [ih, sm_add]
theorem sm_split {k l : Nat} {g : Nat → Int} : sm (k + l) g = sm k g + sm l (fun i => g (k + i)) := by
  induction l with
  | zero => simp [sm]
  | succ l ih => rw [← Nat.add_assoc, sm, sm, ih]; omega
theorem sm_front {k : Nat} {g : Nat → Int} : sm (k + 1) g = g 0 + sm k (fun i => g (i + 1)) := by
  rw [Nat.add_comm k 1, sm_split]
  simp only [sm, Nat.add_comm 1]
  omega
theorem sm_le {k : Nat} {g h : Nat → Int} (e : ∀ i, i < k → g i ≤ h i) : sm k g ≤ sm k h := by
  induction k with
  | zero => exact Int.le_refl _
  | succ k ih => rw [sm, sm]; have := ih fun i hi => e i (by omega); have := e k (by omega); omega
theorem sm_const {k : Nat} {c : Int} : sm k (fun _ => c) = k * c := by
  induction k with
  | zero => simp [sm]
  | succ k ih => rw [sm, ih]; push_cast; rw [Int.add_mul]; omega
theorem sm_nonneg {k : Nat} {g : Nat → Int} (e : ∀ i, i < k → 0 ≤ g i) : 0 ≤ sm k g := by
  have := sm_le (g := fun _ => 0) e
  rwa [sm_zero] at this
/-- a sum round a ring -/
theorem sm_turn {L : Nat} {T : Nat → Int} (h : ∀ t, T (t + L) = T t) (i : Nat) : sm L (fun j => T (i + j)) = sm L T := by
  induction i with
  | zero => exact sm_congr fun j _ => by rw [Nat.zero_add]
  | succ i ih =>
    rw [← ih]
    have a := sm_front (k := L) (g := fun j => T (i + j))
    have b : sm (L + 1) (fun j => T (i + j)) = sm L (fun j => T (i + j)) + T (i + L) := rfl
    rw [h] at b
    have c : sm L (fun j => T (i + 1 + j)) = sm L (fun j => T (i + (j + 1))) := sm_congr fun j _ => by congr 1; omega
    rw [c]
    simp only [Nat.add_zero] at a
    omega
theorem sm_rot {L : Nat} {g : Nat → Int} (i : Nat) : sm L g = sm L (fun j => g ((i + j) % L)) := by
  rw [sm_turn (T := fun t => g (t % L)) (fun t => by simp) i]
  exact sm_congr fun j hj => by rw [Nat.mod_eq_of_lt hj]
/-- what goes round meets -/
noncomputable def dcv (L : Nat) (h : Nat → Nat → Int) (k : Nat) : Int := sm L (fun i => h i ((k + L - i) % L))
theorem turn_back {L i j : Nat} (hi : i < L) (hj : j < L) : ((i + j) % L + L - i) % L = j := by
  by_cases h : i + j < L
  · rw [Nat.mod_eq_of_lt h, show i + j + L - i = j + L by omega, Nat.add_mod_right, Nat.mod_eq_of_lt hj]
  · have e : (i + j) % L = i + j - L := by rw [Nat.mod_eq_sub_mod (by omega), Nat.mod_eq_of_lt (by omega)]
    rw [e, show i + j - L + L - i = j by omega, Nat.mod_eq_of_lt hj]
theorem dcv_sum {L : Nat} {h : Nat → Nat → Int} {φ : Nat → Int} : sm L (fun k => dcv L h k * φ k) = sm L (fun i => sm L (fun j => h i j * φ ((i + j) % L))) := by
  have e1 : sm L (fun k => dcv L h k * φ k) = sm L (fun k => sm L (fun i => h i ((k + L - i) % L) * φ k)) := sm_congr fun k _ => by rw [dcv, sm_mulr]
  rw [e1, sm_swap]
  refine sm_congr fun i hi => ?_
  rw [sm_rot (L := L) (g := fun k => h i ((k + L - i) % L) * φ k) i]
  exact sm_congr fun j hj => by rw [turn_back hi hj]
theorem sm_prod {k l : Nat} {g h : Nat → Int} : sm k g * sm l h = sm k (fun i => sm l (fun j => g i * h j)) := by
  rw [← sm_mulr]
  exact sm_congr fun i _ => by rw [sm_mul]

/-! ### shifts round the ring -/
theorem Cg.pow_mul {n : Nat} (c : Nat) : Cg n ((2 : Int) ^ (2 * n * c)) 1 := by
  induction c with
  | zero => exact .of (by simp)
  | succ c ih =>
    rw [Nat.mul_add, Nat.mul_one, Int.pow_add]
    exact (Cg.mul ih .pow_two).trans (.of (by decide))
theorem Cg.pow_mod {n k m : Nat} (h : k % (2 * n) = m % (2 * n)) : Cg n ((2 : Int) ^ k) ((2 : Int) ^ m) := by
  have key : ∀ k, Cg n ((2 : Int) ^ k) ((2 : Int) ^ (k % (2 * n))) := fun k => by
    conv => lhs; rw [← Nat.mod_add_div k (2 * n)]
    rw [Int.pow_add]
    exact (Cg.mul (.refl _) (.pow_mul _)).trans (.of (by omega))
  exact (key k).trans (.trans (.of (by rw [h])) (key m).symm)
theorem Cg.rsh {n a : Nat} {j : Int} : Cg n (rsh n a j : Nat) (a * 2 ^ (j % (2 * n : Nat)).toNat) := by
  refine (Cg.mod _).trans (.of ?_)
  push_cast; rfl
theorem Cg.rsh_nat {n a k : Nat} (hn : 0 < n) : Cg n (Mine.rsh n a (k : Int) : Nat) (a * 2 ^ k) := by
  refine Cg.rsh.trans (.mul (.refl _) (.pow_mod ?_))
  rw [← Int.natCast_emod, Int.toNat_natCast, Nat.mod_mod]
/-- back by `k` what had been shifted by `k` -/
theorem Cg.rsh_back {n a k : Nat} {y : Int} (hn : 0 < n) (h : Cg n a (y * 2 ^ k)) : Cg n (Mine.rsh n a (-(k : Int)) : Nat) y := by
  obtain ⟨r, hr⟩ := Int.eq_ofNat_of_zero_le (Int.emod_nonneg (-(k : Int)) (show ((2 * n : Nat) : Int) ≠ 0 by omega))
  refine Cg.rsh.trans ?_
  rw [hr, Int.toNat_natCast]
  refine (Cg.mul h (.refl _)).trans ?_
  rw [Int.mul_assoc, ← Int.pow_add]
  refine (Cg.mul (.refl _) (.trans (.pow_mod (m := 0) ?_) (.refl _))).trans (.of (by simp))
  have h1 : (-(k : Int)) = (2 * n : Nat) * (-(k : Int) / (2 * n : Nat)) + r := by rw [← hr]; exact (Int.mul_ediv_add_emod _ _).symm
  have h2 : ((k + r : Nat) : Int) = (2 * n : Nat) * (-(-(k : Int) / (2 * n : Nat))) := by push_cast; rw [Int.mul_neg]; push_cast at h1; omega
  have h3 : ((k + r : Nat) : Int) % (2 * n : Nat) = 0 := by rw [h2]; exact Int.mul_emod_right _ _
  rw [Nat.zero_mod]
  exact_mod_cast h3

/-! ### the transform -/
section
variable (n : Nat)
/-- a stage forward, halves of `h` -/
noncomputable def stF (h : Nat) (f : Nat → Nat) (p : Nat) : Nat :=
  if p % (2 * h) < h then (f p + f (p + h)) % M n else rsh n (rsub n (f (p - h)) (f p)) ((n / h * (p % (2 * h) - h) : Nat) : Int)
noncomputable def stB (h : Nat) (f : Nat → Nat) (p : Nat) : Nat :=
  if p % (2 * h) < h then (f p + rsh n (f (p + h)) (-((n / h * (p % (2 * h)) : Nat) : Int))) % M n
  else rsub n (f (p - h)) (rsh n (f p) (-((n / h * (p % (2 * h) - h) : Nat) : Int)))
noncomputable def fwd : Nat → (Nat → Nat) → Nat → Nat
  | 0, f => f
  | l + 1, f => fwd l (stF n (2 ^ l) f)
noncomputable def bwd : Nat → (Nat → Nat) → Nat → Nat
  | 0, f => f
  | l + 1, f => stB n (2 ^ l) (bwd l f)
variable {n}
theorem stF_lt {h p : Nat} {f : Nat → Nat} : stF n h f p < M n := by
  unfold stF
  split
  · exact Nat.mod_lt _ M_pos
  · exact rsh_lt
theorem stB_lt {h p : Nat} {f : Nat → Nat} : stB n h f p < M n := by
  unfold stB
  split
  · exact Nat.mod_lt _ M_pos
  · exact rsub_lt
theorem fwd_lt {l p : Nat} {f : Nat → Nat} (hf : ∀ p, f p < M n) : fwd n l f p < M n := by
  induction l generalizing f with
  | zero => exact hf p
  | succ l ih => exact ih fun p => stF_lt
theorem bwd_lt {l p : Nat} {f : Nat → Nat} (hf : ∀ p, f p < M n) : bwd n l f p < M n := by
  cases l with
  | zero => exact hf p
  | succ l => exact stB_lt

/-- the place `p` in a block of `2 * h` -/
theorem low_half {h p : Nat} (hh : 0 < h) (hp : p % (2 * h) < h) : (p + h) % (2 * h) = p % (2 * h) + h := by
  rw [Nat.add_mod, Nat.mod_eq_of_lt (show h < 2 * h by omega), Nat.mod_eq_of_lt (by omega)]
theorem high_half {h p : Nat} (hh : 0 < h) (hp : ¬ p % (2 * h) < h) : (p - h) % (2 * h) = p % (2 * h) - h ∧ h ≤ p := by
  have h1 := Nat.mod_lt p (show 0 < 2 * h by omega)
  have h2 := Nat.mod_add_div p (2 * h)
  have h3 : h ≤ p := Nat.le_trans (Nat.le_of_not_lt hp) (Nat.mod_le _ _)
  refine ⟨?_, h3⟩
  rw [show p - h = (p % (2 * h) - h) + 2 * h * (p / (2 * h)) by omega, Nat.add_mul_mod_self_left, Nat.mod_eq_of_lt (by omega)]

/-- back and forth: twice what was -/
theorem stB_stF {h : Nat} {f g : Nat → Nat} {c : Int} (hn : 0 < n) (hh : 0 < h) (hf : ∀ p, f p < M n) (hg0 : ∀ p, g p < M n) (hg : ∀ p, Cg n (g p) (c * stF n h f p)) (p : Nat) : Cg n (stB n h g p) (2 * c * f p) := by
  have lowS : ∀ q, q % (2 * h) < h → Cg n (stF n h f q) (f q + f (q + h)) := fun q hq => by
    rw [stF, if_pos hq]; exact (Cg.mod _).trans (.of (by push_cast; rfl))
  have highS : ∀ q, ¬ q % (2 * h) < h → Cg n (stF n h f q) (((f (q - h) : Int) - f q) * 2 ^ (n / h * (q % (2 * h) - h))) := fun q hq => by
    rw [stF, if_neg hq]; exact (Cg.rsh_nat hn).trans (.mul (Cg.rsub (Nat.le_of_lt (hf _))) (.refl _))
  unfold stB
  split
  · rename_i hp
    have e := low_half hh hp
    refine (Cg.mod _).trans ?_
    push_cast
    have h1 := (hg p).trans (.mul (.refl c) (lowS p hp))
    have h2 := (hg (p + h)).trans (.mul (.refl c) (highS (p + h) (by omega)))
    rw [e, Nat.add_sub_cancel, Nat.add_sub_cancel, ← Int.mul_assoc] at h2
    refine (Cg.add h1 (Cg.rsh_back hn h2)).trans (.of ?_)
    grind
  · rename_i hp
    obtain ⟨e, hle⟩ := high_half hh hp
    have hl : (p - h) % (2 * h) < h := by
      have := Nat.mod_lt p (show 0 < 2 * h by omega)
      omega
    have h1 := (hg (p - h)).trans (.mul (.refl c) (lowS (p - h) hl))
    have h2 := (hg p).trans (.mul (.refl c) (highS p hp))
    rw [← Int.mul_assoc] at h2
    rw [show p - h + h = p by omega] at h1
    refine (Cg.rsub (Nat.le_of_lt rsh_lt)).trans ((Cg.sub h1 (Cg.rsh_back hn h2)).trans (.of ?_))
    grind
theorem bwd_fwd (hn : 0 < n) : ∀ (l : Nat) {f g : Nat → Nat}, (∀ p, f p < M n) → (∀ p, g p < M n) → (∀ p, Cg n (g p) (fwd n l f p)) → ∀ p, Cg n (bwd n l g p) (2 ^ l * f p)
  | 0, f, g, hf, hg0, hg, p => (hg p).trans (.of (by simp [fwd]))
  | l + 1, f, g, hf, hg0, hg, p => by
    have ih := bwd_fwd hn l (f := stF n (2 ^ l) f) (g := g) (fun _ => stF_lt) hg0 hg
    have := stB_stF (c := 2 ^ l) hn (Nat.two_pow_pos l) hf (fun p => bwd_lt hg0) ih p
    refine this.trans (.of ?_)
    rw [Int.pow_succ, Int.mul_comm 2]

/-- the exponent at a place -/
noncomputable def ex (n : Nat) : Nat → Nat → Nat
  | 0, _ => 0
  | l + 1, i => if i < 2 ^ l then ex n l i else ex n l (i - 2 ^ l) + n / 2 ^ l
theorem half_dvd {l : Nat} (hd : 2 ^ (l + 1) ∣ 2 * n) : n / 2 ^ l * 2 ^ l = n ∧ 2 ^ l ∣ 2 * n := by
  obtain ⟨c, hc⟩ := hd
  rw [Nat.pow_succ] at hc
  have : n = 2 ^ l * c := by
    have : 2 * n = 2 * (2 ^ l * c) := by rw [hc, Nat.mul_comm (2 ^ l) 2, Nat.mul_assoc]
    omega
  refine ⟨Nat.div_mul_cancel ⟨c, this⟩, ⟨2 * c, ?_⟩⟩
  rw [this, Nat.mul_left_comm]
theorem ex_round : ∀ {l i : Nat}, 2 ^ l ∣ 2 * n → ∃ c, ex n l i * 2 ^ l = 2 * n * c
  | 0, i, _ => ⟨0, by simp [ex]⟩
  | l + 1, i, hd => by
    obtain ⟨h1, h2⟩ := half_dvd hd
    rw [ex]
    split
    · obtain ⟨c, hc⟩ := ex_round (l := l) (i := i) h2
      exact ⟨c * 2, by rw [Nat.pow_succ, ← Nat.mul_assoc, hc, Nat.mul_assoc]⟩
    · obtain ⟨c, hc⟩ := ex_round (l := l) (i := i - 2 ^ l) h2
      refine ⟨c * 2 + 1, ?_⟩
      rw [Nat.pow_succ, ← Nat.mul_assoc, Nat.add_mul, hc, h1, Nat.add_mul, Nat.mul_add, Nat.mul_assoc, Nat.mul_comm n 2, Nat.mul_one]
theorem Cg.pow_ex {l i : Nat} (hd : 2 ^ l ∣ 2 * n) : Cg n ((2 : Int) ^ (ex n l i * 2 ^ l)) 1 := by
  obtain ⟨c, hc⟩ := ex_round (n := n) (i := i) hd
  rw [hc]; exact .pow_mul c
theorem fwd_eval (hn : 0 < n) : ∀ (l : Nat) {f : Nat → Nat}, (∀ p, f p < M n) → 2 ^ l ∣ 2 * n → ∀ B i, i < 2 ^ l →
    Cg n (fwd n l f (B * 2 ^ l + i)) (sm (2 ^ l) (fun j => (f (B * 2 ^ l + j) : Int) * 2 ^ (ex n l i * j)))
  | 0, f, hf, hd, B, i, hi => by
    have : i = 0 := by simpa using hi
    subst this
    exact .of (by simp [fwd, sm, ex])
  | l + 1, f, hf, hd, B, i, hi => by
    obtain ⟨h1, h2⟩ := half_dvd hd
    have hh := Nat.two_pow_pos l
    have e2 : 2 ^ (l + 1) = 2 ^ l + 2 ^ l := by rw [Nat.pow_succ]; omega
    have offs : ∀ d, d < 2 * 2 ^ l → (B * 2 ^ (l + 1) + d) % (2 * 2 ^ l) = d := fun d hd => by
      rw [e2, show B * (2 ^ l + 2 ^ l) + d = d + 2 * 2 ^ l * B by rw [Nat.mul_comm B, ← Nat.two_mul, Nat.add_comm], Nat.add_mul_mod_self_left, Nat.mod_eq_of_lt hd] 
    have ih := fwd_eval hn l (f := stF n (2 ^ l) f) (fun _ => stF_lt) h2
    rw [fwd, ex]
    rw [show sm (2 ^ (l + 1)) = sm (2 ^ l + 2 ^ l) by rw [e2], sm_split]
    by_cases hlt : i < 2 ^ l
    · rw [if_pos hlt]
      have := ih (2 * B) i hlt
      have eb : 2 * B * 2 ^ l = B * 2 ^ (l + 1) := by rw [Nat.pow_succ, Nat.mul_comm 2 B, Nat.mul_assoc, Nat.mul_comm 2]
      rw [eb] at this
      refine this.trans ?_
      rw [← sm_add]
      refine sm_cg fun j hj => ?_
      rw [stF, offs j (by omega), if_pos hj]
      refine (Cg.mul (Cg.mod _) (.refl _)).trans ?_
      push_cast
      rw [Int.add_mul]
      refine .add (.refl _) ?_
      rw [Nat.add_right_comm, Nat.add_assoc, Nat.mul_add, Int.pow_add]
      exact .mul (.refl _) (.trans (.of (by omega)) (.mul (Cg.pow_ex h2).symm (.refl _)))
    · rw [if_neg hlt]
      have := ih (2 * B + 1) (i - 2 ^ l) (by omega)
      have eb : (2 * B + 1) * 2 ^ l = B * 2 ^ (l + 1) + 2 ^ l := by rw [Nat.pow_succ, Nat.add_mul, Nat.mul_comm 2 B, Nat.mul_assoc, Nat.mul_comm 2, Nat.one_mul]
      rw [eb, show B * 2 ^ (l + 1) + 2 ^ l + (i - 2 ^ l) = B * 2 ^ (l + 1) + i by omega] at this
      refine this.trans ?_
      rw [← sm_add]
      refine sm_cg fun j hj => ?_
      rw [stF, Nat.add_assoc, offs (2 ^ l + j) (by omega), if_neg (by omega), Nat.add_sub_cancel_left]
      rw [show B * 2 ^ (l + 1) + (2 ^ l + j) - 2 ^ l = B * 2 ^ (l + 1) + j by omega]
      refine (Cg.mul ((Cg.rsh_nat hn).trans (.mul (Cg.rsub (Nat.le_of_lt (hf _))) (.refl _))) (.refl _)).trans ?_
      rw [Int.mul_assoc, ← Int.pow_add, show n / 2 ^ l * j + ex n l (i - 2 ^ l) * j = (ex n l (i - 2 ^ l) + n / 2 ^ l) * j by rw [Nat.add_mul]; omega, Int.sub_mul, Int.sub_eq_add_neg]
      refine .add (.refl _) ?_
      rw [Nat.mul_add, Int.pow_add, Nat.add_mul (ex n l (i - 2 ^ l)) (n / 2 ^ l) (2 ^ l), h1, Int.pow_add]
      have q := Cg.mul (Cg.mul (Cg.pow_ex (i := i - 2 ^ l) h2) (Cg.two n)) (.refl ((2 : Int) ^ ((ex n l (i - 2 ^ l) + n / 2 ^ l) * j)))
      refine .trans (.of ?_) (.mul (.refl _) q.symm)
      rw [Int.one_mul, Int.neg_mul, Int.one_mul, Int.mul_neg]
end

/-! ### what goes round -/
/-- the product of two rows, round -/
theorem conv_eval {n L : Nat} {f g : Nat → Int} {e : Nat} (h : Cg n ((2 : Int) ^ (e * L)) 1) :
    Cg n (sm L (fun k => dcv L (fun i j => f i * g j) k * 2 ^ (e * k))) (sm L (fun i => f i * 2 ^ (e * i)) * sm L (fun j => g j * 2 ^ (e * j))) := by
  rw [dcv_sum, sm_prod]
  refine sm_cg fun i hi => sm_cg fun j hj => ?_
  have key : Cg n ((2 : Int) ^ (e * ((i + j) % L))) ((2 : Int) ^ (e * (i + j))) := by
    by_cases q : i + j < L
    · rw [Nat.mod_eq_of_lt q]; exact .refl _
    · have e1 : (i + j) % L = i + j - L := by rw [Nat.mod_eq_sub_mod (by omega), Nat.mod_eq_of_lt (by omega)]
      rw [e1]
      have e2 : e * (i + j) = e * (i + j - L) + e * L := by rw [← Nat.mul_add]; congr 1; omega
      rw [e2, Int.pow_add]
      exact .trans (.of (by omega)) (.mul (.refl _) h.symm)
  refine (Cg.mul (.refl _) key).trans (.of ?_)
  rw [Nat.mul_add, Int.pow_add]
  grind
/-- a row of naturals by M n, as the program keeps it -/
noncomputable def cvN (n L : Nat) (f g : Nat → Nat) (k : Nat) : Nat := (dcv L (fun i j => (f i : Int) * g j) k % (M n : Int)).toNat
theorem cvN_lt {n L k : Nat} {f g : Nat → Nat} : cvN n L f g k < M n := by
  have h1 := Int.emod_nonneg (dcv L (fun i j => (f i : Int) * g j) k) (show ((M n : Nat) : Int) ≠ 0 by have := M_pos (n := n); omega)
  have h2 := Int.emod_lt_of_pos (dcv L (fun i j => (f i : Int) * g j) k) (show (0 : Int) < (M n : Nat) by have := M_pos (n := n); omega)
  unfold cvN
  omega
theorem Cg.emod {n : Nat} (a : Int) : Cg n (a % (Mine.M n : Int)) a := ⟨-(a / (Mine.M n : Int)), by
  have := Int.mul_ediv_add_emod a (Mine.M n : Int)
  rw [Int.mul_neg]; omega⟩
theorem cvN_cg {n L k : Nat} {f g : Nat → Nat} : Cg n (cvN n L f g k) (dcv L (fun i j => (f i : Int) * g j) k) := by
  have h1 := Int.emod_nonneg (dcv L (fun i j => (f i : Int) * g j) k) (show ((M n : Nat) : Int) ≠ 0 by have := M_pos (n := n); omega)
  refine .trans (.of ?_) (Cg.emod _)
  unfold cvN
  omega
/-- the middle of `convolved` -/
theorem fwd_prod {n l : Nat} {f g : Nat → Nat} (hn : 0 < n) (hd : 2 ^ l ∣ 2 * n) (hf : ∀ p, f p < M n) (hg : ∀ p, g p < M n) {p : Nat} (hp : p < 2 ^ l) :
    Cg n ((fwd n l f p * fwd n l g p : Nat) : Int) (fwd n l (cvN n (2 ^ l) f g) p) := by
  have a := fwd_eval hn l hf hd 0 p hp
  have b := fwd_eval hn l hg hd 0 p hp
  have c := fwd_eval hn l (f := cvN n (2 ^ l) f g) (fun _ => cvN_lt) hd 0 p hp
  simp only [Nat.zero_mul, Nat.zero_add] at a b c
  rw [Int.natCast_mul]
  refine (Cg.mul a b).trans (.trans (conv_eval (Cg.pow_ex hd)).symm (.trans (sm_cg fun j _ => .mul cvN_cg.symm (.refl _)) c.symm))
end Mine
end
section
namespace Mine
/-! ### a stage, place by place -/
noncomputable def upd (f : Nat → α) (p : Nat) (v : α) (q : Nat) : α := if q = p then v else f q
noncomputable def don (h B a p : Nat) : Prop := p / (2 * h) < B ∨ (p / (2 * h) = B ∧ p % (2 * h) % h < a)
instance (h B a p : Nat) : Decidable (don h B a p) := by unfold don; infer_instance
noncomputable def mix (S cur : Nat → Nat) (h B a p : Nat) : Nat := if don h B a p then S p else cur p
theorem place {h B a : Nat} (ha : a < h) : (2 * h * B + a) / (2 * h) = B ∧ (2 * h * B + a) % (2 * h) = a ∧ (2 * h * B + h + a) / (2 * h) = B ∧ (2 * h * B + h + a) % (2 * h) = h + a := by
  have hp : 0 < 2 * h := by omega
  rw [Nat.add_assoc (2 * h * B) h a]
  refine ⟨?_, ?_, ?_, ?_⟩
  · rw [Nat.mul_add_div hp, Nat.div_eq_of_lt (by omega), Nat.add_zero]
  · rw [Nat.mul_add_mod, Nat.mod_eq_of_lt (by omega)]
  · rw [Nat.mul_add_div hp, Nat.div_eq_of_lt (by omega), Nat.add_zero]
  · rw [Nat.mul_add_mod, Nat.mod_eq_of_lt (by omega)]
theorem place_iff {h B a p : Nat} (ha : a < h) : (p / (2 * h) = B ∧ p % (2 * h) % h = a) ↔ (p = 2 * h * B + a ∨ p = 2 * h * B + h + a) := by
  obtain ⟨e1, e2, e3, e4⟩ := place (B := B) ha
  constructor
  · rintro ⟨h1, h2⟩
    have h3 := Nat.div_add_mod p (2 * h)
    have h4 := Nat.mod_lt p (show 0 < 2 * h by omega)
    rw [h1] at h3
    by_cases q : p % (2 * h) < h
    · rw [Nat.mod_eq_of_lt q] at h2; left; omega
    · have : p % (2 * h) % h = p % (2 * h) - h := by rw [Nat.mod_eq_sub_mod (by omega), Nat.mod_eq_of_lt (by omega)]
      right; omega
  · rintro (rfl | rfl)
    · exact ⟨e1, by rw [e2, Nat.mod_eq_of_lt ha]⟩
    · exact ⟨e3, by rw [e4, Nat.add_mod_left, Nat.mod_eq_of_lt ha]⟩
theorem mix_start {S cur : Nat → Nat} {h : Nat} : mix S cur h 0 0 = cur := by
  funext p; exact if_neg (by rintro (q | ⟨_, q⟩) <;> exact absurd q (Nat.not_lt_zero _))
theorem mix_block {S cur : Nat → Nat} {h B : Nat} (hh : 0 < h) : mix S cur h B h = mix S cur h (B + 1) 0 := by
  funext p
  have : don h B h p ↔ don h (B + 1) 0 p := by
    have := Nat.mod_lt (p % (2 * h)) hh
    unfold don; omega
  unfold mix
  simp only [this]
theorem mix_end {S cur : Nat → Nat} {h N p : Nat} (hh : 0 < h) (hp : p < 2 * h * N) : mix S cur h N 0 p = S p :=
  if_pos (.inl (Nat.div_lt_of_lt_mul hp))
theorem mix_at {S cur : Nat → Nat} {h B a : Nat} (ha : a < h) : mix S cur h B a (2 * h * B + a) = cur (2 * h * B + a) ∧ mix S cur h B a (2 * h * B + h + a) = cur (2 * h * B + h + a) := by
  obtain ⟨e1, e2, e3, e4⟩ := place (B := B) ha
  refine ⟨if_neg ?_, if_neg ?_⟩
  · unfold don; rw [e1, e2, Nat.mod_eq_of_lt ha]; omega
  · unfold don; rw [e3, e4, Nat.add_mod_left, Nat.mod_eq_of_lt ha]; omega
theorem mix_step {S cur : Nat → Nat} {h B a : Nat} (ha : a < h) :
    upd (upd (mix S cur h B a) (2 * h * B + a) (S (2 * h * B + a))) (2 * h * B + h + a) (S (2 * h * B + h + a)) = mix S cur h B (a + 1) := by
  funext p
  have iff := place_iff (B := B) (p := p) ha
  have key : don h B (a + 1) p ↔ don h B a p ∨ (p = 2 * h * B + a ∨ p = 2 * h * B + h + a) := by
    rw [← iff]; unfold don; omega
  unfold upd mix
  by_cases h1 : p = 2 * h * B + h + a
  · rw [if_pos h1, if_pos (key.mpr (.inr (.inr h1))), h1]
  · rw [if_neg h1]
    by_cases h2 : p = 2 * h * B + a
    · rw [if_pos h2, if_pos (key.mpr (.inr (.inl h2))), h2]
    · rw [if_neg h2]
      by_cases h3 : don h B a p
      · rw [if_pos h3, if_pos (key.mpr (.inl h3))]
      · rw [if_neg h3, if_neg fun q => by rcases key.mp q with q | q | q; exact h3 q; exact h2 q; exact h1 q]
theorem mix_lt {S cur : Nat → Nat} {h B a m p : Nat} (h1 : ∀ p, S p < m) (h2 : ∀ p, cur p < m) : mix S cur h B a p < m := by
  unfold mix; split; exact h1 p; exact h2 p

/-! a stage at its places -/
theorem stF_low {n h B a : Nat} {f : Nat → Nat} (ha : a < h) : stF n h f (2 * h * B + a) = (f (2 * h * B + a) + f (2 * h * B + h + a)) % M n := by
  obtain ⟨e1, e2, e3, e4⟩ := place (B := B) ha
  rw [stF, e2, if_pos ha, Nat.add_right_comm]
theorem stF_high {n h B a : Nat} {f : Nat → Nat} (ha : a < h) : stF n h f (2 * h * B + h + a) = rsh n (rsub n (f (2 * h * B + a)) (f (2 * h * B + h + a))) ((n / h * a : Nat) : Int) := by
  obtain ⟨e1, e2, e3, e4⟩ := place (B := B) ha
  rw [stF, e4, if_neg (by omega), Nat.add_sub_cancel_left, show 2 * h * B + h + a - h = 2 * h * B + a by omega]
theorem stB_low {n h B a : Nat} {f : Nat → Nat} (ha : a < h) : stB n h f (2 * h * B + a) = (f (2 * h * B + a) + rsh n (f (2 * h * B + h + a)) (-((n / h * a : Nat) : Int))) % M n := by
  obtain ⟨e1, e2, e3, e4⟩ := place (B := B) ha
  rw [stB, e2, if_pos ha, Nat.add_right_comm]
theorem stB_high {n h B a : Nat} {f : Nat → Nat} (ha : a < h) : stB n h f (2 * h * B + h + a) = rsub n (f (2 * h * B + a)) (rsh n (f (2 * h * B + h + a)) (-((n / h * a : Nat) : Int))) := by
  obtain ⟨e1, e2, e3, e4⟩ := place (B := B) ha
  rw [stB, e4, if_neg (by omega), Nat.add_sub_cancel_left, show 2 * h * B + h + a - h = 2 * h * B + a by omega]

/-! ### only the row's own places count -/
theorem stB_local {n h L : Nat} {f g : Nat → Nat} (hh : 0 < h) (hd : 2 * h ∣ L) (e : ∀ p, p < L → f p = g p) {p : Nat} (hp : p < L) : stB n h f p = stB n h g p := by
  obtain ⟨N, rfl⟩ := hd
  unfold stB
  split
  · rename_i hl
    have : p + h < 2 * h * N := by
      have h1 := Nat.div_add_mod p (2 * h)
      have h2 : p / (2 * h) < N := Nat.div_lt_of_lt_mul hp
      have h3 := Nat.mul_le_mul_left (2 * h) (Nat.succ_le_of_lt h2)
      rw [Nat.succ_eq_add_one, Nat.mul_add] at h3
      omega
    rw [e p hp, e _ this]
  · rw [e p hp, e (p - h) (by omega)]
theorem bwd_local {n L : Nat} : ∀ {l : Nat} {f g : Nat → Nat}, 2 ^ l ∣ L → (∀ p, p < L → f p = g p) → ∀ p, p < L → bwd n l f p = bwd n l g p
  | 0, f, g, _, e, p, hp => e p hp
  | l + 1, f, g, hd, e, p, hp => by
    have h1 : 2 * 2 ^ l ∣ L := by rw [Nat.mul_comm, ← Nat.pow_succ]; exact hd
    exact stB_local (Nat.two_pow_pos l) h1 (bwd_local (Nat.dvd_trans (Nat.pow_dvd_pow 2 (Nat.le_succ l)) hd) e) hp
/-- what `convolved` gives -/
theorem conv_row {n l : Nat} {f g h : Nat → Nat} (hn : 0 < n) (hd : 2 ^ l ∣ 2 * n) (hf : ∀ p, f p < M n) (hg : ∀ p, g p < M n) (hh : ∀ p, p < 2 ^ l → h p < M n ∧ Cg n (h p) ((fwd n l f p * fwd n l g p : Nat) : Int)) {k : Nat} (hk : k < 2 ^ l) :
    rsh n (bwd n l h k) (-(l : Int)) = cvN n (2 ^ l) f g k := by
  let c := cvN n (2 ^ l) f g
  let h' : Nat → Nat := fun p => if p < 2 ^ l then h p else fwd n l c p
  have h1 : bwd n l h k = bwd n l h' k := bwd_local (Nat.dvd_refl _) (fun p hp => (if_pos hp).symm) k hk
  have h2 : ∀ p, h' p < M n := fun p => by
    show (if p < 2 ^ l then h p else fwd n l c p) < M n
    split
    · rename_i hp; exact (hh p hp).1
    · exact fwd_lt fun _ => cvN_lt
  have h3 : ∀ p, Cg n (h' p) (fwd n l c p) := fun p => by
    show Cg n ((if p < 2 ^ l then h p else fwd n l c p : Nat) : Int) _
    split
    · rename_i hp; exact (hh p hp).2.trans (fwd_prod hn hd hf hg hp)
    · exact .refl _
  have h4 := bwd_fwd hn l (f := c) (fun _ => cvN_lt) h2 h3 k
  rw [h1]
  exact (Cg.rsh_back hn (h4.trans (.of (Int.mul_comm _ _)))).eq rsh_lt cvN_lt
end Mine
end
section
namespace Mine
/-! ### a row round, with a minus -/
noncomputable def sgn (L i j : Nat) : Int := if i + j < L then 1 else -1
noncomputable def dm (L : Nat) (f g : Nat → Nat) (k : Nat) : Int := dcv L (fun i j => (f i : Int) * g j * sgn L i j) k
noncomputable def dmN (n L : Nat) (f g : Nat → Nat) (k : Nat) : Nat := (dm L f g k % (M n : Int)).toNat
theorem emod_toNat {n : Nat} (a : Int) : ((a % (M n : Int)).toNat : Int) = a % (M n : Int) := by
  have h1 := Int.emod_nonneg a (show ((M n : Nat) : Int) ≠ 0 by have := M_pos (n := n); omega)
  omega
theorem dmN_lt {n L k : Nat} {f g : Nat → Nat} : dmN n L f g k < M n := by
  have h1 := Int.emod_nonneg (dm L f g k) (show ((M n : Nat) : Int) ≠ 0 by have := M_pos (n := n); omega)
  have h2 := Int.emod_lt_of_pos (dm L f g k) (show (0 : Int) < (M n : Nat) by have := M_pos (n := n); omega)
  unfold dmN
  omega
theorem dmN_cg {n L k : Nat} {f g : Nat → Nat} : Cg n (dmN n L f g k) (dm L f g k) := .trans (.of (emod_toNat _)) (Cg.emod _)
theorem neg_row {n L st : Nat} {f g : Nat → Nat} (hn : 0 < n) (hst : st * L = n) {k : Nat} (hk : k < L) :
    rsh n (cvN n L (fun p => rsh n (f p) ((st : Int) * p)) (fun p => rsh n (g p) ((st : Int) * p)) k) (-(st : Int) * k) = dmN n L f g k := by
  have e : -(st : Int) * (k : Int) = -((st * k : Nat) : Int) := by rw [Int.neg_mul, ← Int.natCast_mul]
  rw [e]
  refine Cg.eq (n := n) ((Cg.rsh_back (y := dm L f g k) hn (cvN_cg.trans ?_)).trans dmN_cg.symm) rsh_lt dmN_lt
  have ws : ∀ (f : Nat → Nat) p, Cg n (rsh n (f p) ((st : Int) * p) : Nat) (f p * 2 ^ (st * p)) := fun f p => by
    rw [← Int.natCast_mul]; exact Cg.rsh_nat hn
  rw [dm, dcv, dcv, ← sm_mulr]
  refine sm_cg fun i hi => ?_
  refine (Cg.mul (ws f i) (ws g _)).trans ?_
  by_cases h : i ≤ k
  · have e1 : (k + L - i) % L = k - i := by rw [show k + L - i = k - i + L by omega, Nat.add_mod_right, Nat.mod_eq_of_lt (by omega)]
    rw [e1, sgn, if_pos (by omega)]
    have e2 : st * k = st * i + st * (k - i) := by rw [← Nat.mul_add]; congr 1; omega
    rw [e2, Int.pow_add]
    exact .of (by grind)
  · have e1 : (k + L - i) % L = k + L - i := Nat.mod_eq_of_lt (by omega)
    rw [e1, sgn, if_neg (by omega)]
    have e2 : st * k + n = st * i + st * (k + L - i) := by rw [← Nat.mul_add, ← hst, ← Nat.mul_add]; congr 1; omega
    have e3 : (2 : Int) ^ (st * i) * 2 ^ (st * (k + L - i)) = 2 ^ (st * k) * 2 ^ n := by rw [← Int.pow_add, ← Int.pow_add, e2]
    have e4 : ((f i : Int) * 2 ^ (st * i)) * ((g (k + L - i) : Int) * 2 ^ (st * (k + L - i))) = (f i : Int) * g (k + L - i) * (2 ^ (st * k) * 2 ^ n) := by rw [← e3]; grind
    rw [e4]
    exact (Cg.mul (.refl _) (.mul (.refl _) (.two n))).trans (.of (by grind))

/-! ### pieces -/
theorem pieces_sum {s x : Nat} (k : Nat) : sm k (fun i => (digit s x i : Int) * 2 ^ (s * i)) = ((x % 2 ^ (s * k) : Nat) : Int) := by
  induction k with
  | zero => simp [sm, Nat.mod_one]
  | succ k ih => rw [sm, ih, mod_step]; push_cast; rw [Int.mul_comm ((2 : Int) ^ (s * k))]
/-- the row put together, from the top -/
noncomputable def pt (s L : Nat) (f : Nat → Nat) : Nat → Nat
  | 0 => 0
  | t + 1 => pt s L f t * 2 ^ s + f (L - 1 - t)
theorem pt_sum {s L : Nat} {f : Nat → Nat} : ∀ {t : Nat}, t ≤ L → (pt s L f t : Int) = sm t (fun i => (f (L - t + i) : Int) * 2 ^ (s * i))
  | 0, _ => rfl
  | t + 1, h => by
    rw [pt, sm_front]
    push_cast
    rw [pt_sum (t := t) (by omega), ← sm_mulr, Nat.mul_zero, Int.pow_zero, Int.mul_one, Nat.add_zero, show L - 1 - t = L - (t + 1) by omega, Int.add_comm]
    congr 1
    refine sm_congr fun i _ => ?_
    rw [show L - (t + 1) + (i + 1) = L - t + i by omega, Nat.mul_add, Nat.mul_one, Int.pow_add, Int.mul_assoc]
theorem pt_all {s L : Nat} {f : Nat → Nat} : (pt s L f L : Int) = sm L (fun i => (f i : Int) * 2 ^ (s * i)) := by
  rw [pt_sum (Nat.le_refl L)]
  exact sm_congr fun i _ => by rw [Nat.sub_self, Nat.zero_add]
theorem pt_lt {s L c : Nat} {f : Nat → Nat} (hf : ∀ i, f i < 2 ^ c) : ∀ t, pt s L f t < 2 ^ (c + (s + 1) * t)
  | 0 => Nat.two_pow_pos _
  | t + 1 => by
    have ih := pt_lt (s := s) (L := L) hf t
    have h1 := hf (L - 1 - t)
    have h2 : pt s L f t * 2 ^ s ≤ (2 ^ (c + (s + 1) * t) - 1) * 2 ^ s := Nat.mul_le_mul_right _ (by omega)
    have h3 : 2 ^ (c + (s + 1) * (t + 1)) = 2 * (2 ^ (c + (s + 1) * t) * 2 ^ s) := by
      rw [← Nat.pow_add, Nat.mul_comm 2, ← Nat.pow_succ]; congr 1; rw [Nat.mul_add (s + 1) t 1]; omega
    have h4 : 2 ^ c ≤ 2 ^ (c + (s + 1) * t) * 2 ^ s := by rw [← Nat.pow_add]; exact Nat.pow_le_pow_right (by decide) (by omega)
    rw [Nat.sub_mul, Nat.one_mul] at h2
    rw [pt, h3]
    have := Nat.two_pow_pos s
    omega

/-! ### sizes -/
noncomputable def cdiv (a b : Nat) : Nat := (a + b - 1) / b
theorem cdiv_int {a b : Nat} (hb : 0 < b) : -(-(a : Int) / (b : Int)) = (cdiv a b : Nat) := by
  unfold cdiv
  have h1 := Nat.div_add_mod (a + b - 1) b
  have h2 := Nat.mod_lt (a + b - 1) hb
  generalize (a + b - 1) / b = q at *
  generalize (a + b - 1) % b = r at *
  have e : -(a : Int) = ((b - 1 - r : Nat) : Int) + (b : Int) * (-(q : Int)) := by
    rw [Int.mul_neg]
    have : (b : Int) * q = ((b * q : Nat) : Int) := by push_cast; rfl
    rw [this]; omega
  rw [e, Int.add_mul_ediv_left _ _ (by omega), Int.ediv_eq_zero_of_lt (by omega) (by omega)]
  omega
theorem le_cdiv {a b : Nat} (hb : 0 < b) : a ≤ cdiv a b * b := by
  unfold cdiv
  have h1 := Nat.div_add_mod (a + b - 1) b
  have h2 := Nat.mod_lt (a + b - 1) hb
  rw [Nat.mul_comm]; omega
theorem cdiv_lt {a b : Nat} (hb : 0 < b) : cdiv a b * b < a + b := by
  unfold cdiv
  have h1 := Nat.div_mul_le_self (a + b - 1) b
  omega
theorem cdiv_le {a b : Nat} (hb : 0 < b) : cdiv a b ≤ a := by
  unfold cdiv
  rcases Nat.eq_zero_or_pos a with h | h
  · subst h; rw [Nat.zero_add, Nat.div_eq_of_lt (by omega)]; exact Nat.le_refl _
  · refine Nat.div_le_of_le_mul ?_
    obtain ⟨a, rfl⟩ : ∃ m, a = m + 1 := ⟨a - 1, by omega⟩
    obtain ⟨b, rfl⟩ : ∃ m, b = m + 1 := ⟨b - 1, by omega⟩
    rw [Nat.mul_add, Nat.add_mul]; omega

/-! ### a product by pieces, no piece going round -/
theorem conv_plain {s L a b n : Nat} (hL : 0 < L) (hn : ∀ k, k < L → dcv L (fun i j => (digit s a i : Int) * digit s b j) k < M n) (hz : ∀ i j, i < L → j < L → L ≤ i + j → digit s a i * digit s b j = 0)
    (ha : a < 2 ^ (s * L)) (hb : b < 2 ^ (s * L)) : pt s L (cvN n L (digit s a) (digit s b)) L = a * b := by
  have h0 : ∀ k, 0 ≤ dcv L (fun i j => (digit s a i : Int) * digit s b j) k := fun k => sm_nonneg fun i _ => Int.mul_nonneg (Int.natCast_nonneg _) (Int.natCast_nonneg _)
  have h1 : (pt s L (cvN n L (digit s a) (digit s b)) L : Int) = sm L (fun k => dcv L (fun i j => (digit s a i : Int) * digit s b j) k * 2 ^ (s * k)) := by
    rw [pt_all]
    refine sm_congr fun k hk => ?_
    rw [cvN, emod_toNat, Int.emod_eq_of_lt (h0 k) (hn k hk)]
  rw [dcv_sum] at h1
  have h2 : sm L (fun i => sm L (fun j => (digit s a i : Int) * digit s b j * 2 ^ (s * ((i + j) % L)))) = sm L (fun i => (digit s a i : Int) * 2 ^ (s * i)) * sm L (fun j => (digit s b j : Int) * 2 ^ (s * j)) := by
    rw [sm_prod]
    refine sm_congr fun i hi => sm_congr fun j hj => ?_
    by_cases q : i + j < L
    · rw [Nat.mod_eq_of_lt q, Nat.mul_add, Int.pow_add]; grind
    · have := hz i j hi hj (by omega)
      have e : (digit s a i : Int) * digit s b j = 0 := by exact_mod_cast this
      have e' : ((digit s a i : Int) * 2 ^ (s * i)) * ((digit s b j : Int) * 2 ^ (s * j)) = ((digit s a i : Int) * digit s b j) * (2 ^ (s * i) * 2 ^ (s * j)) := by grind
      rw [e', e, Int.zero_mul, Int.zero_mul]
  rw [h2, pieces_sum, pieces_sum, Nat.mod_eq_of_lt ha, Nat.mod_eq_of_lt hb] at h1
  exact_mod_cast h1
theorem digit_top0 {s x i c : Nat} (h : x < 2 ^ c) (hc : c ≤ s * i) : digit s x i = 0 :=
  digit_high (Nat.lt_of_lt_of_le h (Nat.pow_le_pow_right (by decide) hc))
theorem conv_bound {s L k : Nat} {f g : Nat → Nat} (hf : ∀ i, f i < 2 ^ s) (hg : ∀ i, g i < 2 ^ s) (hL : 0 < L) : dcv L (fun i j => (f i : Int) * g j) k < 2 ^ (2 * s + bitlen L) := by
  have h1 : dcv L (fun i j => (f i : Int) * g j) k ≤ sm L (fun _ => (2 : Int) ^ (2 * s)) := by
    refine sm_le fun i hi => ?_
    have := Nat.mul_le_mul (Nat.le_of_lt (hf i)) (Nat.le_of_lt (hg ((k + L - i) % L)))
    rw [← Nat.pow_add, show s + s = 2 * s by omega] at this
    show (f i : Int) * g ((k + L - i) % L) ≤ _
    exact_mod_cast this
  rw [sm_const] at h1
  have h2 := lt_bitlen L
  have h3 : L * 2 ^ (2 * s) < 2 ^ (2 * s + bitlen L) := by rw [Nat.add_comm, Nat.pow_add]; exact Nat.mul_lt_mul_of_pos_right h2 (Nat.two_pow_pos _)
  have h4 : ((L * 2 ^ (2 * s) : Nat) : Int) < ((2 ^ (2 * s + bitlen L) : Nat) : Int) := Int.ofNat_lt.mpr h3
  push_cast at h4
  omega
/-- `mul_rings` -/
theorem mul_rings_eq {L a b s n : Nat} (hL : 0 < L) (hs : bitlen a + bitlen b ≤ s * L) (hn : 2 * s + bitlen L ≤ n) : pt s L (cvN n L (digit s a) (digit s b)) L = a * b := by
  refine conv_plain hL (fun k hk => ?_) (fun i j hi hj hij => ?_) ?_ ?_
  · refine Int.lt_of_lt_of_le (conv_bound (s := s) (fun _ => digit_lt) (fun _ => digit_lt) hL) ?_
    have h1 : 2 ^ (2 * s + bitlen L) ≤ 2 ^ n := Nat.pow_le_pow_right (by decide) hn
    have h2 : ((2 ^ (2 * s + bitlen L) : Nat) : Int) ≤ ((M n : Nat) : Int) := Int.ofNat_le.mpr (by show _ ≤ 2 ^ n + 1; omega)
    push_cast at h2 ⊢
    exact h2
  · by_cases h : bitlen a ≤ s * i
    · rw [digit_top0 (lt_bitlen a) h, Nat.zero_mul]
    · have : s * L ≤ s * (i + j) := Nat.mul_le_mul_left _ hij
      rw [Nat.mul_add] at this
      rw [digit_top0 (lt_bitlen b) (by omega), Nat.mul_zero]
  · exact Nat.lt_of_lt_of_le (lt_bitlen a) (Nat.pow_le_pow_right (by decide) (by omega))
  · exact Nat.lt_of_lt_of_le (lt_bitlen b) (Nat.pow_le_pow_right (by decide) (by omega))
end Mine
end
section
namespace Mine
/-- an int by M n -/
noncomputable def zmod (n : Nat) (X : Int) : Nat := (X % (M n : Int)).toNat
theorem zmod_lt {n : Nat} {X : Int} : zmod n X < M n := by
  have h1 := Int.emod_nonneg X (show ((M n : Nat) : Int) ≠ 0 by have := M_pos (n := n); omega)
  have h2 := Int.emod_lt_of_pos X (show (0 : Int) < (M n : Nat) by have := M_pos (n := n); omega)
  unfold zmod
  omega
theorem zmod_cg {n : Nat} {X : Int} : Cg n (zmod n X) X := .trans (.of (emod_toNat _)) (Cg.emod _)
theorem zmod_eq {n a : Nat} {X : Int} (h : Cg n a X) (ha : a < M n) : zmod n X = a := Cg.eq (zmod_cg.trans h.symm) zmod_lt ha
theorem zmod_nat {n a : Nat} : zmod n (a : Int) = a % M n := zmod_eq (Cg.mod a) (Nat.mod_lt _ M_pos)
theorem zmod_congr {n : Nat} {X Y : Int} (h : Cg n X Y) : zmod n X = zmod n Y := zmod_eq (zmod_cg.trans h.symm) zmod_lt
/-- an element read with its sign -/
noncomputable def sv (n x : Nat) : Int := if n ≤ bitlen x then (x : Int) - (M n : Nat) else x
theorem sv_of {n : Nat} {X : Int} (hn : 0 < n) (h1 : -(2 ^ (n - 1) : Int) < X) (h2 : X < 2 ^ (n - 1)) : sv n (zmod n X) = X := by
  have hp : (2 : Int) ^ n = 2 * 2 ^ (n - 1) := by
    conv => lhs; rw [show n = (n - 1) + 1 by omega, Int.pow_succ, Int.mul_comm]
  have hM : ((M n : Nat) : Int) = 2 * 2 ^ (n - 1) + 1 := by
    show ((2 ^ n + 1 : Nat) : Int) = _
    push_cast; rw [hp]
  by_cases hX : 0 ≤ X
  · obtain ⟨x, rfl⟩ := Int.eq_ofNat_of_zero_le hX
    have hx : x < 2 ^ (n - 1) := by exact_mod_cast h2
    have hlt : x < M n := by have : (x : Int) < (M n : Nat) := by rw [hM]; omega
                             exact_mod_cast this
    rw [zmod_nat, Nat.mod_eq_of_lt hlt, sv, if_neg]
    have := bitlen_le_of hx
    omega
  · have e : zmod n X = (X + (M n : Nat)).toNat := by
      refine zmod_eq ?_ (by omega)
      refine ⟨1, ?_⟩
      omega
    have hge : 2 ^ (n - 1) ≤ (X + (M n : Nat)).toNat := by
      have : ((2 ^ (n - 1) : Nat) : Int) ≤ ((X + (M n : Nat)).toNat : Nat) := by push_cast; omega
      exact_mod_cast this
    have hb : n ≤ bitlen (X + (M n : Nat)).toNat := by
      have := lt_bitlen (X + (M n : Nat)).toNat
      have : n - 1 < bitlen (X + (M n : Nat)).toNat := (Nat.pow_lt_pow_iff_right (by decide : 1 < 2)).mp (Nat.lt_of_le_of_lt hge this)
      omega
    rw [e, sv, if_pos hb]
    omega
theorem dmN_zmod {n L k : Nat} {f g : Nat → Nat} : dmN n L f g k = zmod n (dm L f g k) := rfl
theorem dm_bound {s L k : Nat} {f g : Nat → Nat} (hf : ∀ i, f i < 2 ^ s) (hg : ∀ i, g i < 2 ^ s) (hL : 0 < L) : -(2 ^ (2 * s + bitlen L) : Int) < dm L f g k ∧ dm L f g k < 2 ^ (2 * s + bitlen L) := by
  have hm : ∀ i j, (f i : Int) * g j ≤ 2 ^ (2 * s) := fun i j => by
    have := Nat.mul_le_mul (Nat.le_of_lt (hf i)) (Nat.le_of_lt (hg j))
    rw [← Nat.pow_add, show s + s = 2 * s by omega] at this
    exact_mod_cast this
  have hm0 : ∀ i j, 0 ≤ (f i : Int) * g j := fun i j => Int.mul_nonneg (Int.natCast_nonneg _) (Int.natCast_nonneg _)
  have hs : ∀ i j, -(2 ^ (2 * s) : Int) ≤ (f i : Int) * g j * sgn L i j ∧ (f i : Int) * g j * sgn L i j ≤ 2 ^ (2 * s) := fun i j => by
    have a := hm i j
    have b := hm0 i j
    have c : (0 : Int) ≤ 2 ^ (2 * s) := Int.le_trans b a
    unfold sgn
    split
    · rw [Int.mul_one]; omega
    · rw [Int.mul_neg, Int.mul_one]; omega
  have h1 : dm L f g k ≤ sm L (fun _ => (2 : Int) ^ (2 * s)) := sm_le fun i _ => (hs i _).2
  have h1' : sm L (fun _ => -(2 : Int) ^ (2 * s)) ≤ dm L f g k := sm_le fun i _ => (hs i _).1
  rw [sm_const] at h1 h1'
  have h2 := lt_bitlen L
  have h3 : L * 2 ^ (2 * s) < 2 ^ (2 * s + bitlen L) := by rw [Nat.add_comm, Nat.pow_add]; exact Nat.mul_lt_mul_of_pos_right h2 (Nat.two_pow_pos _)
  have h4 : ((L * 2 ^ (2 * s) : Nat) : Int) < ((2 ^ (2 * s + bitlen L) : Nat) : Int) := Int.ofNat_lt.mpr h3
  push_cast at h4
  rw [Int.mul_neg] at h1'
  omega
/-- what `signed_sum` reckons -/
noncomputable def ssum (s n L : Nat) (f : Nat → Nat) : Int := sm L (fun i => sv n (f i) * 2 ^ (s * i))
theorem ssum_dm {s L a b n c : Nat} (hL : 0 < L) (hs : s * L = c) (hn : 2 * s + bitlen L + 1 ≤ n) (ha : a < 2 ^ c) (hb : b < 2 ^ c) : Cg c (ssum s n L (dmN n L (digit s a) (digit s b))) ((a * b : Nat) : Int) := by
  have h1 : ssum s n L (dmN n L (digit s a) (digit s b)) = sm L (fun k => dm L (digit s a) (digit s b) k * 2 ^ (s * k)) := by
    refine sm_congr fun k hk => ?_
    have hb := dm_bound (s := s) (k := k) (f := digit s a) (g := digit s b) (fun _ => digit_lt) (fun _ => digit_lt) hL
    have h2 : (2 : Int) ^ (2 * s + bitlen L) ≤ 2 ^ (n - 1) := by
      have : 2 ^ (2 * s + bitlen L) ≤ 2 ^ (n - 1) := Nat.pow_le_pow_right (by decide) (by omega)
      exact_mod_cast this
    rw [dmN_zmod, sv_of (by omega) (by omega) (by omega)]
  rw [h1]
  have h2 : sm L (fun k => dm L (digit s a) (digit s b) k * 2 ^ (s * k)) = sm L (fun i => sm L (fun j => (digit s a i : Int) * digit s b j * sgn L i j * 2 ^ (s * ((i + j) % L)))) := dcv_sum (h := fun i j => (digit s a i : Int) * digit s b j * sgn L i j) (φ := fun k => 2 ^ (s * k))
  rw [h2]
  have h3 : ((a * b : Nat) : Int) = sm L (fun i => sm L (fun j => ((digit s a i : Int) * 2 ^ (s * i)) * ((digit s b j : Int) * 2 ^ (s * j)))) := by
    rw [← sm_prod, pieces_sum, pieces_sum, hs, Nat.mod_eq_of_lt ha, Nat.mod_eq_of_lt hb]; push_cast; rfl
  rw [h3]
  refine sm_cg fun i hi => sm_cg fun j hj => ?_
  by_cases q : i + j < L
  · rw [Nat.mod_eq_of_lt q, sgn, if_pos q, Nat.mul_add, Int.pow_add]
    exact .of (by grind)
  · have e1 : (i + j) % L = i + j - L := by rw [Nat.mod_eq_sub_mod (by omega), Nat.mod_eq_of_lt (by omega)]
    rw [e1, sgn, if_neg q]
    have e2 : s * i + s * j = s * (i + j - L) + c := by rw [← hs, ← Nat.mul_add, ← Nat.mul_add]; congr 1; omega
    have e3 : (2 : Int) ^ (s * i) * 2 ^ (s * j) = 2 ^ (s * (i + j - L)) * 2 ^ c := by rw [← Int.pow_add, ← Int.pow_add, e2]
    have e4 : ((digit s a i : Int) * 2 ^ (s * i)) * ((digit s b j : Int) * 2 ^ (s * j)) = (digit s a i : Int) * digit s b j * (2 ^ (s * (i + j - L)) * 2 ^ c) := by rw [← e3]; grind
    rw [e4]
    exact .trans (.of (by grind)) (.mul (.refl _) (.mul (.refl _) (Cg.two c).symm))
/-- a full element: minus one -/
theorem full_neg {n a b : Nat} (ha : n < bitlen a) (ha' : a < M n) (hb : b < M n) : rneg n b = a * b % M n := by
  have : a = 2 ^ n := by
    have h1 : ¬ a < 2 ^ n := fun h => by have := bitlen_le_of h; omega
    have : a < 2 ^ n + 1 := ha'
    omega
  subst this
  refine Cg.eq (n := n) ((Cg.rneg (Nat.le_of_lt hb)).trans (.trans ?_ (Cg.mod _).symm)) rneg_lt (Nat.mod_lt _ M_pos)
  push_cast
  exact .trans (.of (by omega)) (.mul (Cg.two n).symm (.refl _))
end Mine
end
section
namespace Mine
/-! ### the school's products -/
noncomputable def ofn (N : Nat) (g : Nat → Nat) : List Nat := (List.range N).map g
/-- `T` below `k`, `O` from there on -/
noncomputable def two (w T O k p : Nat) : Nat := if p < k then digit w T p else digit w O p
theorem two_step {w T O k : Nat} : upd (two w T O k) k (digit w T k) = two w T O (k + 1) := by
  funext p
  unfold upd two
  by_cases h : p = k
  · subst h; rw [if_pos rfl, if_pos (Nat.lt_succ_self _)]
  · rw [if_neg h]
    by_cases q : p < k
    · rw [if_pos q, if_pos (by omega)]
    · rw [if_neg q, if_neg (by omega)]
theorem two_at {w T O k : Nat} : two w T O k k = digit w O k := if_neg (Nat.lt_irrefl _)
/-- the two agree from `k` on -/
theorem two_end {w T O k : Nat} (h : T / P w k = O / P w k) : two w T O k = digit w T := by
  funext p
  unfold two
  split
  · rfl
  · rename_i hp
    obtain ⟨j, rfl⟩ : ∃ j, p = k + j := ⟨p - k, by omega⟩
    unfold digit
    rw [Nat.mul_add, Nat.pow_add, ← Nat.div_div_eq_div_mul, ← Nat.div_div_eq_div_mul, h]
theorem two_start {w T O k : Nat} (h : T % P w k = O % P w k) : two w T O k = digit w O := by
  funext p
  unfold two
  split
  · rename_i hp
    have : ∀ x, digit w x p = digit w (x % P w k) p := fun x => (digit_mod hp).symm
    rw [this T, this O, h]
  · rfl
theorem P_add {w i j : Nat} : P w (i + j) = P w i * P w j := by rw [P, P, P, Nat.mul_add, Nat.pow_add]
theorem P_succ {w i : Nat} : P w (i + 1) = P w i * 2 ^ w := bmul
theorem P_pos {w i : Nat} : 0 < P w i := Nat.two_pow_pos _

/-! mul_school -/
noncomputable def mT (w a b t : Nat) : Nat := a % P w t * b
theorem mT_succ {w a b t : Nat} : mT w a b (t + 1) = mT w a b t + digit w a t * b * P w t := by
  unfold mT
  rw [P, mod_step]
  simp only [P]
  grind
theorem mT_lt {w a b t : Nat} (hw : 0 < w) : mT w a b t < P w (t + dlen w b) := by
  rw [P_add]
  exact Nat.mul_lt_mul'' (Nat.mod_lt _ P_pos) (lt_dlen hw)
noncomputable def mX (w a b t j : Nat) : Nat := digit w a t * (b % P w j) * P w t
theorem mX_succ {w a b t j : Nat} : mX w a b t (j + 1) = mX w a b t j + digit w a t * digit w b j * P w (t + j) := by
  have e : b % P w (j + 1) = b % P w j + P w j * digit w b j := mod_step
  unfold mX
  rw [e, P_add (i := t)]
  generalize digit w a t = d
  generalize digit w b j = y
  generalize b % P w j = l
  generalize P w t = p
  generalize P w j = q
  grind
/-- the carry into place `t + j` -/
noncomputable def mC (w a b t j : Nat) : Nat := (mT w a b t % P w (t + j) + mX w a b t j) / P w (t + j)
theorem mC_zero {w a b t : Nat} : mC w a b t 0 = 0 := by
  unfold mC mX
  rw [show P w 0 = 1 by simp [P], Nat.mod_one, Nat.mul_zero, Nat.zero_mul, Nat.add_zero, Nat.add_zero]
  exact Nat.div_eq_of_lt (Nat.mod_lt _ P_pos)
theorem mC_div {w a b t j : Nat} : (mC w a b t j + (digit w (mT w a b t) (t + j) + digit w a t * digit w b j)) / 2 ^ w = mC w a b t (j + 1) := by
  have := carry_div (w := w) (O := mT w a b t) (X := mX w a b t j) (y := digit w a t * digit w b j) (i := t + j)
  rw [← Nat.add_assoc]
  refine this.trans ?_
  unfold mC
  rw [mX_succ, ← Nat.add_assoc t j 1]
theorem mC_mod {w a b t j : Nat} : (mC w a b t j + (digit w (mT w a b t) (t + j) + digit w a t * digit w b j)) % 2 ^ w = digit w (mT w a b (t + 1)) (t + j) := by
  have := carry_mod (w := w) (O := mT w a b t) (X := mX w a b t j) (y := digit w a t * digit w b j) (i := t + j)
  rw [← Nat.add_assoc]
  refine this.trans ?_
  rw [show 2 ^ (w * (t + j)) = P w (t + j) from rfl, ← mX_succ, mT_succ]
  have e : mT w a b t + digit w a t * b * P w t = mT w a b t + mX w a b t (j + 1) + digit w a t * (b / P w (j + 1)) * 2 ^ (w * (t + j + 1)) := by
    have eb : b = b % P w (j + 1) + P w (j + 1) * (b / P w (j + 1)) := (Nat.mod_add_div _ _).symm
    have key : digit w a t * b * P w t = digit w a t * (b % P w (j + 1)) * P w t + digit w a t * (b / P w (j + 1)) * (P w t * P w (j + 1)) := by
      conv => lhs; rw [eb]
      generalize digit w a t = d
      generalize b % P w (j + 1) = l
      generalize b / P w (j + 1) = h
      generalize P w t = p
      generalize P w (j + 1) = q
      grind
    rw [key, show 2 ^ (w * (t + j + 1)) = P w (t + (j + 1)) from rfl, P_add (i := t), mX, Nat.add_assoc]
  rw [e, digit_add_high (Nat.lt_succ_self _)]
theorem mC_end {w a b t : Nat} (hw : 0 < w) : mC w a b t (dlen w b) = digit w (mT w a b (t + 1)) (t + dlen w b) ∧ (mT w a b (t + 1)) / P w (t + dlen w b + 1) = (mT w a b t) / P w (t + dlen w b + 1) := by
  have h1 := mT_lt (a := a) (b := b) (t := t) hw
  have h2 := mT_lt (a := a) (b := b) (t := t + 1) hw
  rw [Nat.add_right_comm] at h2
  constructor
  · have e : mC w a b t (dlen w b) = mT w a b (t + 1) / P w (t + dlen w b) := by
      unfold mC mX
      rw [Nat.mod_eq_of_lt h1, mod_all hw (Nat.le_refl _), mT_succ]
    rw [e]
    exact (Nat.mod_eq_of_lt (Nat.div_lt_of_lt_mul (by rw [P_succ] at h2; exact h2))).symm
  · rw [Nat.div_eq_of_lt h2, Nat.div_eq_of_lt (Nat.lt_of_lt_of_le h1 (Nat.pow_le_pow_right (by decide) (Nat.mul_le_mul_left _ (Nat.le_succ _))))]
theorem mT_all {w a b : Nat} (hw : 0 < w) : mT w a b (dlen w a) = a * b := by rw [mT, mod_all hw (Nat.le_refl _)]
theorem mT_all_lt {w a b : Nat} (hw : 0 < w) : a * b < P w (dlen w a + dlen w b) := by
  have := mT_lt (a := a) (b := b) (t := dlen w a) hw
  rwa [mT_all hw] at this

/-! sqr_school -/
noncomputable def qT (w a t : Nat) : Nat := a % P w t * (a % P w t) + 2 * (a % P w t) * (a / P w t * P w t)
noncomputable def qH (w a t : Nat) : Nat := a / P w (t + 1)
theorem qT_succ {w a t : Nat} : qT w a (t + 1) = qT w a t + (digit w a t * digit w a t * P w (2 * t) + 2 * digit w a t * qH w a t * P w (2 * t + 1)) := by
  have e1 : a / P w t = digit w a t + 2 ^ w * qH w a t := by
    rw [qH, P_succ, ← Nat.div_div_eq_div_mul]; exact (Nat.mod_add_div _ _).symm
  have e2 : a % P w (t + 1) = a % P w t + P w t * digit w a t := mod_step
  have e3 : P w (2 * t) = P w t * P w t := by rw [← P_add]; congr 1; omega
  unfold qT
  rw [show a / P w (t + 1) = qH w a t from rfl, e1, e2, P_succ, P_succ, e3]
  generalize digit w a t = d
  generalize qH w a t = h
  generalize a % P w t = l
  generalize P w t = p
  generalize 2 ^ w = B
  grind
theorem qT_le {w a t : Nat} : qT w a t ≤ a * a := by
  have e := Nat.mod_add_div a (P w t)
  conv => rhs; rw [← e]
  unfold qT
  generalize a % P w t = l
  generalize a / P w t = h
  generalize P w t = p
  have : (l + p * h) * (l + p * h) = (l * l + 2 * l * (h * p)) + (p * h) * (p * h) := by grind
  omega
noncomputable def qX (w a t j : Nat) : Nat := digit w a t * digit w a t * P w (2 * t) + 2 * digit w a t * (qH w a t % P w j) * P w (2 * t + 1)
theorem qX_succ {w a t j : Nat} : qX w a t (j + 1) = qX w a t j + 2 * digit w a t * digit w a (t + 1 + j) * P w (2 * t + 1 + j) := by
  have e1 : digit w a (t + 1 + j) = digit w (qH w a t) j := by
    unfold digit qH
    rw [Nat.div_div_eq_div_mul, ← P_add]
  have e2 : qH w a t % P w (j + 1) = qH w a t % P w j + P w j * digit w (qH w a t) j := mod_step
  unfold qX
  rw [e1, e2, P_add (i := 2 * t + 1)]
  generalize digit w (qH w a t) j = y
  generalize digit w a t = d
  generalize qH w a t % P w j = l
  generalize P w (2 * t + 1) = p
  generalize P w j = q
  generalize P w (2 * t) = r
  grind
/-- the carry into place `p` when `X` has come on -/
noncomputable def qC (w a t X p : Nat) : Nat := (qT w a t % P w p + X) / P w p
theorem qC_first_div {w a t : Nat} : (digit w (qT w a t) (2 * t) + digit w a t * digit w a t) / 2 ^ w = qC w a t (qX w a t 0) (2 * t + 1) := by
  have := carry_div (w := w) (O := qT w a t) (X := 0) (y := digit w a t * digit w a t) (i := 2 * t)
  rw [Nat.add_zero, Nat.div_eq_of_lt (Nat.mod_lt _ (Nat.two_pow_pos _)), Nat.zero_add, Nat.zero_add] at this
  rw [this]
  unfold qC qX
  rw [show P w 0 = 1 by simp [P], Nat.mod_one]
  simp [P]
theorem qC_first_mod {w a t : Nat} : (digit w (qT w a t) (2 * t) + digit w a t * digit w a t) % 2 ^ w = digit w (qT w a (t + 1)) (2 * t) := by
  have := carry_mod (w := w) (O := qT w a t) (X := 0) (y := digit w a t * digit w a t) (i := 2 * t)
  rw [Nat.add_zero, Nat.div_eq_of_lt (Nat.mod_lt _ (Nat.two_pow_pos _)), Nat.zero_add, Nat.zero_add] at this
  rw [this, qT_succ, ← Nat.add_assoc, digit_add_high (Nat.lt_succ_self _)]
theorem qC_div {w a t j : Nat} : (qC w a t (qX w a t j) (2 * t + 1 + j) + (digit w (qT w a t) (2 * t + 1 + j) + 2 * digit w a t * digit w a (t + 1 + j))) / 2 ^ w = qC w a t (qX w a t (j + 1)) (2 * t + 1 + j + 1) := by
  have := carry_div (w := w) (O := qT w a t) (X := qX w a t j) (y := 2 * digit w a t * digit w a (t + 1 + j)) (i := 2 * t + 1 + j)
  rw [← Nat.add_assoc]
  refine this.trans ?_
  unfold qC
  rw [qX_succ]
theorem qC_mod {w a t j : Nat} : (qC w a t (qX w a t j) (2 * t + 1 + j) + (digit w (qT w a t) (2 * t + 1 + j) + 2 * digit w a t * digit w a (t + 1 + j))) % 2 ^ w = digit w (qT w a (t + 1)) (2 * t + 1 + j) := by
  have := carry_mod (w := w) (O := qT w a t) (X := qX w a t j) (y := 2 * digit w a t * digit w a (t + 1 + j)) (i := 2 * t + 1 + j)
  rw [← Nat.add_assoc]
  refine this.trans ?_
  rw [show 2 ^ (w * (2 * t + 1 + j)) = P w (2 * t + 1 + j) from rfl, ← qX_succ, qT_succ]
  have e : qT w a t + (digit w a t * digit w a t * P w (2 * t) + 2 * digit w a t * qH w a t * P w (2 * t + 1)) = qT w a t + qX w a t (j + 1) + 2 * digit w a t * (qH w a t / P w (j + 1)) * 2 ^ (w * (2 * t + 1 + j + 1)) := by
    have eb : qH w a t = qH w a t % P w (j + 1) + P w (j + 1) * (qH w a t / P w (j + 1)) := (Nat.mod_add_div _ _).symm
    have key : 2 * digit w a t * qH w a t * P w (2 * t + 1) = 2 * digit w a t * (qH w a t % P w (j + 1)) * P w (2 * t + 1) + 2 * digit w a t * (qH w a t / P w (j + 1)) * (P w (2 * t + 1) * P w (j + 1)) := by
      conv => lhs; rw [eb]
      generalize digit w a t = d
      generalize qH w a t % P w (j + 1) = l
      generalize qH w a t / P w (j + 1) = h
      generalize P w (2 * t + 1) = p
      generalize P w (j + 1) = q
      grind
    rw [key, show 2 ^ (w * (2 * t + 1 + j + 1)) = P w (2 * t + 1 + (j + 1)) from rfl, P_add (i := 2 * t + 1), qX]
    simp only [Nat.add_assoc]
  rw [e, digit_add_high (Nat.lt_succ_self _)]
/-- all has come on -/
noncomputable def qE (w a t : Nat) : Nat := qX w a t (dlen w a - t - 1)
theorem qE_eq {w a t : Nat} (hw : 0 < w) (ht : t < dlen w a) : qT w a (t + 1) = qT w a t + qE w a t := by
  have h : qH w a t % P w (dlen w a - t - 1) = qH w a t := by
    refine Nat.mod_eq_of_lt (Nat.div_lt_of_lt_mul ?_)
    rw [← P_add, show t + 1 + (dlen w a - t - 1) = dlen w a by omega]
    exact lt_dlen hw
  rw [qT_succ, qE, qX, h]
theorem qC_go_div {w a t X q : Nat} : (qC w a t X q + digit w (qT w a t) q) / 2 ^ w = qC w a t X (q + 1) := by
  have := carry_div (w := w) (O := qT w a t) (X := X) (y := 0) (i := q)
  rwa [Nat.zero_mul, Nat.add_zero, Nat.add_zero] at this
theorem qC_go_mod {w a t q : Nat} (hw : 0 < w) (ht : t < dlen w a) : (qC w a t (qE w a t) q + digit w (qT w a t) q) % 2 ^ w = digit w (qT w a (t + 1)) q := by
  have := carry_mod (w := w) (O := qT w a t) (X := qE w a t) (y := 0) (i := q)
  rw [Nat.zero_mul, Nat.add_zero, Nat.add_zero, ← qE_eq hw ht] at this
  exact this
theorem qC_div_eq {w a t q : Nat} (hw : 0 < w) (ht : t < dlen w a) : qT w a (t + 1) / P w q = qC w a t (qE w a t) q + qT w a t / P w q := by
  rw [qE_eq hw ht, qC]
  conv => lhs; rw [← Nat.mod_add_div (qT w a t) (P w q)]
  rw [Nat.add_right_comm, Nat.add_mul_div_left _ _ P_pos]
theorem qC_room {w a t q : Nat} (hw : 0 < w) (ht : t < dlen w a) (hc : 0 < qC w a t (qE w a t) q) : q < 2 * dlen w a := by
  refine Nat.lt_of_not_le fun h => ?_
  have h1 := qC_div_eq (q := q) hw ht
  have h2 : qT w a (t + 1) < P w q := by
    refine Nat.lt_of_le_of_lt qT_le ?_
    refine Nat.lt_of_lt_of_le (Nat.mul_lt_mul'' (lt_dlen hw) (lt_dlen hw)) ?_
    rw [← Nat.pow_add]
    refine Nat.pow_le_pow_right (by decide) ?_
    have := Nat.mul_le_mul_left w h
    rw [Nat.mul_left_comm] at this
    omega
  rw [Nat.div_eq_of_lt h2] at h1
  exact absurd (Nat.eq_zero_of_add_eq_zero_right h1.symm) (by omega)
theorem qT_zero {w a : Nat} : qT w a 0 = 0 := by simp [qT, P, Nat.mod_one]
theorem qT_all {w a : Nat} (hw : 0 < w) : qT w a (dlen w a) = a * a := by
  unfold qT
  rw [mod_all hw (Nat.le_refl _), Nat.div_eq_of_lt (lt_dlen hw)]
  simp
end Mine
end
section
open PySem PySem.W PySem.Calls PyProof.Rows
namespace Mine

/-! ### rows of limbs -/
noncomputable def nats (ns : List Nat) : List MV := ns.map fun (d : Nat) => MV.int (d : Int)
noncomputable abbrev R (w n : Nat) : MV := .list (nats (dg w n))
theorem nats_length {ns : List Nat} : (nats ns).length = ns.length := by simp [nats]
theorem nats_nil : nats [] = [] := rfl
theorem nats_append {a b : List Nat} : nats (a ++ b) = nats a ++ nats b := by simp [nats]
theorem nats_snoc {a : List Nat} {d : Nat} {i : Int} (h : i = d) : nats a ++ [MV.int i] = nats (a ++ [d]) := by rw [h, nats_append]; rfl
theorem nats_get {ns : List Nat} {i d : Nat} (h : ns[i]? = some d) : (nats ns)[i]? = some (.int d) := by simp [nats, h]
theorem nats_take {ns : List Nat} {k : Nat} : (nats ns).take k = nats (ns.take k) := by simp [nats]
theorem nats_replicate {k : Nat} : List.replicate k (MV.int 0) = nats (List.replicate k 0) := by simp [nats]
theorem nats_reverse {ns : List Nat} : (nats ns).reverse = nats ns.reverse := by simp [nats]
theorem nats_mints {ns : List Nat} : nats ns = mints (ns.map Int.ofNat) := by simp [nats, mints]
theorem R_one {w : Nat} (hw : 0 < w) : MV.list [MV.int 1] = R w 1 := by
  have e : dlen w 1 = 1 := by
    have : Nat.log2 1 = 0 := by decide
    simp [dlen, this]
  have d : digit w 1 0 = 1 := by
    have : 1 < 2 ^ w := Nat.one_lt_two_pow (by omega)
    simp [digit, Nat.mod_eq_of_lt this]
  simp [R, dg, e, Dig, d, nats, List.range_succ]
theorem R_zero {w : Nat} : R w 0 = .list [] := by rw [R, dg_zero]; rfl
theorem R_len {w n : Nat} : (nats (dg w n)).length = dlen w n := by rw [nats_length, dg_length]
theorem R_get {w n i : Nat} (h : i < dlen w n) : (nats (dg w n))[i]? = some (.int (digit w n i)) := nats_get (dg_get h)
/-- the numbers that are met -/
noncomputable def big : Nat := 1000
noncomputable def Sm (n : Nat) : Prop := n < 2 ^ big
theorem Sm.len {w n : Nat} (h : Sm n) (hw : 0 < w) : dlen w n ≤ 1000 := by
  show dlen w n ≤ big
  refine dlen_le hw (Nat.lt_of_lt_of_le h (Nat.pow_le_pow_right (by decide) ?_))
  exact Nat.le_mul_of_pos_left _ hw
theorem Sm.mono {n m : Nat} (h : Sm n) (hm : m ≤ n) : Sm m := Nat.lt_of_le_of_lt hm h
theorem Sm.of {n k : Nat} (h : n < 2 ^ k) (hk : k ≤ big) : Sm n := Nat.lt_of_lt_of_le h (Nat.pow_le_pow_right (by decide) hk)

theorem Sm.ofM {n a : Nat} (hn : n ≤ 500) (h : a < M n) : Sm a := Nat.lt_of_lt_of_le h (M_le (by show n + 1 ≤ 1000; omega))
theorem Sm.shl {n a k : Nat} (h : a < M n) (hk : n + k < 1000) : Sm (a * 2 ^ k) := by
  have h1 : a * 2 ^ k ≤ 2 ^ n * 2 ^ k := Nat.mul_le_mul_right _ (Nat.le_of_lt_succ h)
  rw [← Nat.pow_add] at h1
  exact Nat.lt_of_le_of_lt h1 (Nat.pow_lt_pow_right (by decide) hk)
/-! ### rows of rows -/
noncomputable def rowL (w L : Nat) (f : Nat → Nat) : List MV := (List.range L).map fun p => R w (f p)
theorem rowL_length {w L : Nat} {f : Nat → Nat} : (rowL w L f).length = L := by simp [rowL]
theorem rowL_get {w L p : Nat} {f : Nat → Nat} (h : p < L) : (rowL w L f)[p]? = some (R w (f p)) := by simp [rowL, h]
theorem rowL_get' {w L p : Nat} {k : Int} {f : Nat → Nat} (hk : k = p) (h : p < L) : (rowL w L f)[k.toNat]? = some (R w (f p)) := by subst hk; exact rowL_get h
theorem rowL_set {w L p v : Nat} {f : Nat → Nat} : (rowL w L f).set p (R w v) = rowL w L (upd f p v) := by
  refine List.ext_getElem? fun q => ?_
  rw [List.getElem?_set]
  by_cases hq : q < L
  · rw [rowL_get hq]
    by_cases e : p = q
    · subst e; rw [if_pos rfl, rowL_length, if_pos hq, rowL_get hq, upd, if_pos rfl]
    · rw [if_neg e, rowL_get hq, upd, if_neg (Ne.symm e)]
  · rw [List.getElem?_eq_none (by rw [rowL_length]; omega), List.getElem?_eq_none (by rw [rowL_length]; omega)]
    simp [rowL_length]; omega
theorem rowL_congr {w L : Nat} {f g : Nat → Nat} (h : ∀ p, p < L → f p = g p) : rowL w L f = rowL w L g := List.map_congr_left fun p hp => by rw [h p (List.mem_range.mp hp)]
theorem rowL_reverse {w L : Nat} {f : Nat → Nat} : (rowL w L f).reverse = rowL w L (fun p => f (L - 1 - p)) := by
  refine List.ext_getElem? fun q => ?_
  by_cases hq : q < L
  · rw [List.getElem?_reverse (by rw [rowL_length]; exact hq), rowL_length, rowL_get (by omega), rowL_get hq]
  · rw [List.getElem?_eq_none (by rw [List.length_reverse, rowL_length]; omega), List.getElem?_eq_none (by rw [rowL_length]; omega)]
theorem rowL_snoc {w L v : Nat} {f : Nat → Nat} (h : f L = v) : rowL w L f ++ [R w v] = rowL w (L + 1) f := by simp [rowL, List.range_succ, h]
/-! ### bits -/
theorem and_nat (a b : Nat) : Builtin.bitAnd (a : Int) (b : Int) = ((a &&& b : Nat) : Int) := by simp [Builtin.bitAnd]
theorem and_mask {c w : Nat} : Builtin.bitAnd (c : Int) (2 ^ w - 1) = ((c % 2 ^ w : Nat) : Int) := by
  rw [kbt_mask]; exact (Int.natCast_emod c (2 ^ w)).symm ▸ by simp
theorem nat_and_disj {a c k : Nat} (h : a < 2 ^ k) : a &&& c * 2 ^ k = 0 := by
  refine Nat.eq_of_testBit_eq fun i => ?_
  rw [Nat.testBit_and, Nat.zero_testBit]
  by_cases hi : i < k
  · rw [Nat.testBit_mul_two_pow]; simp [Nat.not_le.mpr hi]
  · rw [Nat.testBit_lt_two_pow (Nat.lt_of_lt_of_le h (Nat.pow_le_pow_right (by decide) (Nat.le_of_not_lt hi)))]; rfl
theorem or_disj {a c k : Nat} (h : a < 2 ^ k) : Builtin.bitOr (a : Int) ((c * 2 ^ k : Nat) : Int) = ((a + c * 2 ^ k : Nat) : Int) := by
  rw [bitOr_and, and_nat, nat_and_disj h]; simp
theorem one_shl {w : Nat} : (1 : Int) * 2 ^ (w : Int).toNat = ((2 ^ w : Nat) : Int) := by simp
theorem shl_eq {c w : Nat} : (c : Int) * 2 ^ (w : Int).toNat = ((c * 2 ^ w : Nat) : Int) := by simp
theorem shr_eq {c w : Nat} : (c : Int) / 2 ^ (w : Int).toNat = ((c / 2 ^ w : Nat) : Int) := by simp
theorem natAbs_lt {n : Nat} (h : n < 2 ^ 64) : (n : Int).natAbs < 2 ^ 64 := by simpa using h

theorem Sub.cons' {σ₀ σ : Vars} {x : Str} {v v' : MV} (r : Sub σ₀ σ) (h : σ.get x = some v') (e : v' = v) : Sub ((x, v) :: σ₀) σ := Sub.cons h e r
section
variable {G : GCtx}
theorem sem_addN {a b : Nat} : BinSem G .Add (a : Int) (b : Int) ((a + b : Nat) : Int) := by rw [Int.natCast_add]; exact sem_add
theorem sem_add1N {a : Nat} : BinSem G .Add (a : Int) 1 ((a + 1 : Nat) : Int) := sem_addN (b := 1)
theorem sem_mulN {a b : Nat} (h : (a : Int).natAbs < 2 ^ 64 ∨ (b : Int).natAbs < 2 ^ 64) : BinSem G .Mult (a : Int) (b : Int) ((a * b : Nat) : Int) := by rw [Int.natCast_mul]; exact sem_mul h
theorem sem_fdN {a b : Nat} (h1 : 0 < b) (h2 : b < 1073741824) : BinSem G .FloorDiv (a : Int) (b : Int) ((a / b : Nat) : Int) := by rw [Int.natCast_ediv]; exact sem_floordiv (by omega) (by omega)
theorem sem_modN {a b : Nat} (h1 : 0 < b) : BinSem G .Mod (a : Int) (b : Int) ((a % b : Nat) : Int) := by rw [Int.natCast_emod]; exact sem_mod (by omega)
theorem sem_shl1 {b : Nat} (h2 : b ≤ 1000000) : BinSem G .LShift 1 (b : Int) ((2 ^ b : Nat) : Int) := by
  have := sem_lshift (G := G) (a := 1) (b := (b : Int)) (by omega) (by omega) (by decide)
  rwa [one_shl] at this
theorem sem_shlN {a b : Nat} (h2 : b ≤ 1000000) (h3 : a < 2 ^ 64) : BinSem G .LShift (a : Int) (b : Int) ((a * 2 ^ b : Nat) : Int) := by
  rw [← shl_eq]; exact sem_lshift (by omega) (by omega) (natAbs_lt h3)
theorem sem_shrN {a b : Nat} : BinSem G .RShift (a : Int) (b : Int) ((a / 2 ^ b : Nat) : Int) := by
  rw [← shr_eq]; exact sem_rshift (by omega)
theorem sem_maskN {c w : Nat} : BinSem G .BitAnd (c : Int) (((2 ^ w : Nat) : Int) - 1) ((c % 2 ^ w : Nat) : Int) := by
  have := sem_and (G := G) (a := (c : Int)) (b := 2 ^ w - 1)
  rw [and_mask] at this
  rwa [show ((2 ^ w : Nat) : Int) - 1 = 2 ^ w - 1 by simp]
theorem sem_subN {a b : Nat} (h : b ≤ a) : BinSem G .Sub (a : Int) (b : Int) ((a - b : Nat) : Int) := by rw [Int.natCast_sub h]; exact sem_sub
theorem sem_powN {b : Nat} (h : b ≤ 1000000) : BinSem G .Pow 2 (b : Int) ((2 ^ b : Nat) : Int) := by
  have := sem_pow (G := G) (a := 2) (b := (b : Int)) (Int.natCast_nonneg b) (by omega) (by decide)
  rw [Int.toNat_natCast] at this
  exact_mod_cast this
theorem sem_orD {a c k : Nat} (h : a < 2 ^ k) : BinSem G .BitOr (a : Int) ((c * 2 ^ k : Nat) : Int) ((a + c * 2 ^ k : Nat) : Int) := by rw [← or_disj h]; exact sem_or
theorem inp_orD {a c k : Nat} (h : a < 2 ^ k) : InpSem G .BitOr (a : Int) ((c * 2 ^ k : Nat) : Int) ((a + c * 2 ^ k : Nat) : Int) := by rw [← or_disj h]; exact inp_or
theorem inp_addN {a b : Nat} : InpSem G .Add (a : Int) (b : Int) ((a + b : Nat) : Int) := by rw [Int.natCast_add]; exact inp_add
theorem inp_shrN {a b : Nat} : InpSem G .RShift (a : Int) (b : Int) ((a / 2 ^ b : Nat) : Int) := by rw [← shr_eq]; exact inp_rshift (by omega)
end
/-! ### ways that meet -/
noncomputable def joinP {Y : Type} (Q : MFlow → Vars → Prop) (L : Y → Vars) (P : Y → Prop) : MFlow → Vars → Prop
  | .next, σ => Keeps L P σ
  | .brk, σ => Q .brk σ
  | .cont, σ => Q .cont σ
  | .ret v, σ => Q (.ret v) σ
section
variable {G : GCtx} {C : SC} {σ : Vars}
theorem v_if_join {Y : Type} (L : Y → Vars) (P : Y → Prop) {test : Expr} {body orelse rest : List Stmt} {pos : Pos} {Q : MFlow → Vars → Prop}
    (h : WB G C test σ (ifP (fun σ' => WS G C body σ' (joinP Q L P)) (fun σ' => WS G C orelse σ' (joinP Q L P)))) (k : ∀ y, P y → WS G C rest (L y) Q) : WS G C (.If test body orelse pos :: rest) σ Q := by
  have key : ∀ {sts : List Stmt} {σ' : Vars}, WS G C sts σ' (joinP Q L P) → WS G C sts σ' (seqP G C rest Q) := fun h => h.mono fun mf σ'' q => by
    cases mf with
    | next => obtain ⟨y, hp, hs⟩ := q; exact (k y hp).less hs
    | _ => exact q
  refine v_cons (v_if (h.mono fun b σ' q => ?_))
  cases b with
  | true => exact key q
  | false => exact key q
theorem WS_set {σ₁ σ₂ : Vars} {x : Str} {v : MV} {sts : List Stmt} {Q : MFlow → Vars → Prop} (h : σ = σ₁) (h' : σ₁.set x v = σ₂) (hw : WS G C sts σ₂ Q) : WS G C sts (σ.set x v) Q := by subst h h'; exact hw
theorem WE_set {σ₁ σ₂ : Vars} {x : Str} {v : MV} {e : Expr} {Q : MV → Vars → Prop} (h : σ = σ₁) (h' : σ₁.set x v = σ₂) (hw : WE G C e σ₂ Q) : WE G C e (σ.set x v) Q := by subst h h'; exact hw
theorem ForK.up {x : Str} {body : List Stmt} {Q : MFlow → Vars → Prop} {a : Int} {n : Nat} {Y : Type} (A N : Nat) (L : Nat → Y → Vars) (P : Nat → Y → Prop) (ha : a = A) (hn : n = N) (h0 : Keeps (L 0) (P 0) σ)
    (turn : ∀ i, i < N → ∀ y, P i y → WS G C body ((L i y).set x (.int ((A + i : Nat) : Int))) (loopPost Q (Keeps (L (i + 1)) (P (i + 1)))))
    (fin : ∀ y σ', P N y → Sub (L N y) σ' → Q .next σ') : ForK G C x body Q (rng a 1 n) σ := by
  subst ha hn
  refine ForK.steps L P h0 (fun i hi y hp => ?_) fin
  have := turn i hi y hp
  rwa [show (((A + i : Nat) : Int)) = (A : Int) + (i : Int) * 1 by omega] at this
theorem ForK.up0 {x : Str} {body : List Stmt} {Q : MFlow → Vars → Prop} {n : Nat} {Y : Type} (N : Nat) (L : Nat → Y → Vars) (P : Nat → Y → Prop) (hn : n = N) (h0 : Keeps (L 0) (P 0) σ)
    (turn : ∀ i, i < N → ∀ y, P i y → WS G C body ((L i y).set x (.int (i : Int))) (loopPost Q (Keeps (L (i + 1)) (P (i + 1)))))
    (fin : ∀ y σ', P N y → Sub (L N y) σ' → Q .next σ') : ForK G C x body Q (rng 0 1 n) σ := by
  refine ForK.up 0 N L P rfl hn h0 (fun i hi y hp => ?_) fin
  have := turn i hi y hp
  rwa [← show ((0 + i : Nat) : Int) = (i : Int) by simp] at this
theorem R_get' {w n : Nat} {k : Int} {i : Nat} (hk : k = i) (h : i < dlen w n) : (nats (dg w n))[k.toNat]? = some (.int (digit w n i)) := by subst hk; exact R_get h
theorem R_getK {w n : Nat} {k : Int} (h : k.toNat < dlen w n) : (nats (dg w n))[k.toNat]? = some (.int (digit w n k.toNat)) := R_get h
theorem ForK.nats {x : Str} {body : List Stmt} {Q : MFlow → Vars → Prop} {ds : List Nat} {Y : Type} (L : Nat → Y → Vars) (P : Nat → Y → Prop) (h0 : Keeps (L 0) (P 0) σ)
    (turn : ∀ (i d : Nat), ds[i]? = some d → ∀ y, P i y → WS G C body ((L i y).set x (.int (d : Int))) (loopPost Q (Keeps (L (i + 1)) (P (i + 1)))))
    (fin : ∀ y σ', P ds.length y → Sub (L ds.length y) σ' → Q .next σ') : ForK G C x body Q (nats ds) σ := by
  refine ForK.list L P h0 (fun i x₁ hx y hp => ?_) (by rw [nats_length]; exact fin)
  have hi : i < ds.length := by have := (List.getElem?_eq_some_iff.mp hx).1; rwa [nats_length] at this
  rw [nats_get (List.getElem?_eq_getElem hi)] at hx
  cases hx
  exact turn i _ (List.getElem?_eq_getElem hi) y hp
theorem ForK.down {x : Str} {body : List Stmt} {Q : MFlow → Vars → Prop} {a : Int} {n : Nat} {Y : Type} (N : Nat) (L : Nat → Y → Vars) (P : Nat → Y → Prop) (ha : a = (N : Int) - 1) (hn : n = N) (h0 : Keeps (L 0) (P 0) σ)
    (turn : ∀ i, i < N → ∀ y, P i y → WS G C body ((L i y).set x (.int ((N - 1 - i : Nat) : Int))) (loopPost Q (Keeps (L (i + 1)) (P (i + 1)))))
    (fin : ∀ y σ', P N y → Sub (L N y) σ' → Q .next σ') : ForK G C x body Q (rng a (-1) n) σ := by
  subst ha hn
  refine ForK.steps L P h0 (fun i hi y hp => ?_) fin
  have := turn i hi y hp
  rwa [show (((n - 1 - i : Nat) : Int)) = ((n : Int) - 1) + (i : Int) * -1 by omega] at this
theorem ForK.stride {x : Str} {body : List Stmt} {Q : MFlow → Vars → Prop} {c : Int} {n : Nat} {Y : Type} (K N : Nat) (L : Nat → Y → Vars) (P : Nat → Y → Prop) (hc : c = K) (hn : n = N) (h0 : Keeps (L 0) (P 0) σ)
    (turn : ∀ i, i < N → ∀ y, P i y → WS G C body ((L i y).set x (.int ((K * i : Nat) : Int))) (loopPost Q (Keeps (L (i + 1)) (P (i + 1)))))
    (fin : ∀ y σ', P N y → Sub (L N y) σ' → Q .next σ') : ForK G C x body Q (rng 0 c n) σ := by
  subst hc hn
  refine ForK.steps L P h0 (fun i hi y hp => ?_) fin
  have := turn i hi y hp
  rwa [show (((K * i : Nat) : Int)) = 0 + (i : Int) * (K : Int) by rw [Int.zero_add, Int.natCast_mul, Int.mul_comm]] at this
theorem size_up {K N : Nat} (hK : 0 < K) : Builtin.Range.rangeSize 0 ((K * N : Nat) : Int) (K : Int) = (N : Int) := by
  unfold Builtin.Range.rangeSize
  rw [if_pos (by omega)]
  by_cases h : N = 0
  · subst h; simp
  · have h1 : 0 < K * N := Nat.mul_pos hK (Nat.pos_of_ne_zero h)
    rw [if_pos (by omega)]
    obtain ⟨m, rfl⟩ := Nat.exists_eq_succ_of_ne_zero h
    have : ((K * (m + 1) : Nat) : Int) - 0 - 1 = ((K - 1 : Nat) : Int) + (K : Int) * (m : Int) := by rw [Nat.mul_add, Nat.mul_one]; push_cast [Nat.sub_add_cancel hK]; omega
    rw [show ((K * (m.succ) : Nat) : Int) = ((K * (m + 1) : Nat) : Int) from rfl, this, Int.add_mul_ediv_left _ _ (by omega), Int.ediv_eq_zero_of_lt (by omega) (by omega)]
    push_cast; omega
theorem size_down {n : Nat} : Builtin.Range.rangeSize ((n : Int) - 1) (-1) (-1) = (n : Int) := by
  unfold Builtin.Range.rangeSize
  simp
  omega
theorem small_down {n : Nat} (h : n < 2 ^ 60) : Builtin.Range.small ((n : Int) - 1) (-1) (-1) = true := by
  unfold Builtin.Range.small
  rw [size_down]
  simp only [Builtin.Range.rangeFitsLong, Bool.and_eq_true, Bool.or_eq_true, decide_eq_true_eq, beq_iff_eq]
  exact ⟨by omega, .inr (by decide)⟩
theorem zero_of {n : Nat} (h : ¬ icmp .Gt (n : Int) 0) : n = 0 := Nat.eq_zero_of_not_pos fun q => h (by show (0 : Int) < n; exact_mod_cast q)
theorem pos_of {n : Nat} (h : icmp .Gt (n : Int) 0) : 0 < n := by have : (0 : Int) < n := h; exact_mod_cast this
theorem nats_getK {ds : List Nat} {k : Int} (h : k.toNat < ds.length) : (nats ds)[k.toNat]? = some (.int (ds.getD k.toNat 0 : Nat)) := by
  rw [nats_get (List.getElem?_eq_getElem h)]; simp [h]
/-- a value, its ways joined -/
theorem x_val {e : Expr} {X : MV} {Q : MV → Vars → Prop} (h : WE G C e σ (fun v σ' => v = X ∧ σ' = σ)) (k : Q X σ) : WE G C e σ Q := h.mono fun v σ' ⟨e1, e2⟩ => by subst e1 e2; exact k
theorem intBits_nat {n : Nat} : Builtin.Int.intBits (n : Int) = bitlen n := by
  unfold Builtin.Int.intBits bitlen
  by_cases h : n = 0
  · subst h; rfl
  · simp [h]
theorem W1_freeze {σ' : Vars} {x : Str} {a : Addr} {xs : List MV} {st : Stmt} {Q : MFlow → Vars → Prop} (hx : σ.get x = some (.own a xs)) (hs : σ.set x (.list xs) = σ') (h : W1 G C st σ' Q) : W1 G C st σ Q := .mk fun env A P tm F s p => by
  subst hs
  obtain ⟨F', af, _⟩ := p.freezeVar hx
  exact h.thn af.pre (fun f s'' mf σ'' F'' a' r q => ⟨mf, σ'', F'', af.trans a', r, q⟩)
theorem joinP_ret {Y : Type} {Q : MFlow → Vars → Prop} {L : Y → Vars} {P : Y → Prop} {v : MV} (h : Q (.ret v) σ) : joinP Q L P (.ret v) σ := h
theorem joinP_next {Y : Type} {Q : MFlow → Vars → Prop} {L : Y → Vars} {P : Y → Prop} (h : Keeps L P σ) : joinP Q L P .next σ := h
end
end Mine
end
section
open PySem PySem.W PySem.Calls PyProof.Rows
namespace Mine
theorem small_upN {A K : Nat} (hA : A < 1000000) (h0 : 0 < K) (hK : K < 1000000) : Builtin.Range.small 0 (A : Int) (K : Int) = true :=
  small_up (by decide) (by decide) (by omega) (by omega) (by omega) (by omega)

/-! ### comprehensions, readied -/
noncomputable def compOk (names : List Str) (scope csc : Scope) : Bool :=
  names.all (fun x => scope.names.lookup x == some .local) && scope.names.all (fun y => y.2 != .cell) && (scope.kind == .function) && scope.names.all (fun y => y.2 != .local || scope.names.lookup y.1 == some .local) &&
  scope.names.all (fun y => y.2 != .free || csc.names.lookup y.1 == some .cell)
structure CompOk (C : SC) (names : List Str) (scope : Scope) : Prop where
  nm : ∀ x ∈ names, scope.names.lookup x = some .local
  cell : ∀ y ∈ scope.names, y.2 ≠ .cell
  kind : scope.kind = .function
  names : ∀ y ∈ scope.names, y.2 = .local → scope.names.lookup y.1 = some .local
  free : ∀ y ∈ scope.names, y.2 = .free → C.scope.names.lookup y.1 = some .cell
theorem CompOk.of {C : SC} {names : List Str} {scope : Scope} (h : compOk names scope C.scope = true) : CompOk C names scope := by
  simp only [compOk, Bool.and_eq_true, List.all_eq_true] at h
  obtain ⟨⟨⟨⟨h1, h2⟩, h3⟩, h4⟩, h5⟩ := h
  refine ⟨fun x hx => by simpa using h1 x hx, fun y hy => by simpa using h2 y hy, by simpa using h3, fun y hy e => ?_, fun y hy e => ?_⟩
  · have := h4 y hy; rw [e] at this; simpa using this
  · have := h5 y hy; rw [e] at this; simpa using this
section
variable {G : GCtx} {C : SC} {σ σ' σ₀ : Vars}
theorem WE.setAll1 {x : Str} {v : MV} {e : Expr} {Q : MV → Vars → Prop} (h : WE G C e (σ.set x v) Q) : WE G C e (σ.setAll [x] [v]) Q := h
theorem WE.setAll2 {x y : Str} {u v : MV} {e : Expr} {Q : MV → Vars → Prop} (h : WE G C e ((σ.set x u).set y v) Q) : WE G C e (σ.setAll [x, y] [u, v]) Q := h
noncomputable def CompM (G : GCtx) (C : SC) (names : List Str) (elt : Expr) (scope : Scope) (items : List (List MV)) (σ₁ : Vars) (Q : List MV → Prop) : Prop :=
  ∃ σ₀ f, Caps σ₁ scope σ₀ ∧ items.length ≤ 1000000 ∧ (∀ x₁ ∈ items, WE G (compSC C scope) elt (σ₀.setAll names x₁) (fun v σ'' => v = f x₁ ∧ σ'' = σ₀.setAll names x₁)) ∧ Q (items.map f)
theorem CompM.K {names : List Str} {elt : Expr} {scope : Scope} {items : List (List MV)} {Q : List MV → Prop} (h : CompM G C names elt scope items σ Q) : CompK G C names [] elt scope items σ Q := by
  obtain ⟨σ₀, f, hc, hl, he, q⟩ := h
  exact ⟨σ₀, fun _ => true, f, hc, hl, fun x₁ _ => WTs_nil ⟨rfl, rfl⟩, fun x₁ hx _ => (he x₁ hx).mono fun v σ' ⟨a, b⟩ => ⟨b, a⟩, by rw [List.filter_eq_self.mpr fun _ _ => rfl]; exact q⟩
theorem x_comp {tgt : Expr} {names : List Str} {elt iter : Expr} {scope : Scope} {pos : Pos} {Q : Addr → List MV → Vars → Prop} (hk : CompOk C names scope) (hp : plainE iter = true)
    (h : WIT G C tgt names iter σ (fun items σ₁ => CompM G C names elt scope items σ₁ (fun ys => ∀ a, Q a ys σ₁))) : WF G C (.ListComp elt [⟨tgt, iter, [], 0⟩] scope pos) σ Q :=
  WF_comp hk.nm hk.cell hk.kind hk.names hk.free (h.mono fun _ _ q => q.K) (fun env x => folded_of hp)
theorem x_wit {x : Str} {px : Pos} {e : Expr} {K : List (List MV) → Vars → Prop} (h : WE G C e σ (fun v σ₁ => LstP (fun xs σ => K (xs.map fun v => [v]) σ) σ₁ v)) : WIT G C (.Name x px) [x] e σ K := WIT.ofWI (K := fun xs σ₁ => K (xs.map fun v => [v]) σ₁) (WI_list h) fun _ _ q => q
theorem Caps.nil {scope : Scope} : Caps σ scope [] := trivial
theorem Caps.cons {scope : Scope} {x : Str} {mv : MV} {r : Vars} (h : σ.get x = some mv) (hs : scope.names.lookup x = some .free) (hn : NotOwn mv) (hr : Caps σ scope r) : Caps σ scope ((x, mv) :: r) := ⟨h, hs, hn, hr⟩
end
theorem get_of_set {σ σ₁ : Vars} {x y : Str} {v : MV} {o : Option MV} (h : σ.set x v = σ₁) (h' : σ₁.get y = o) : (σ.set x v).get y = o := by rw [h]; exact h'
theorem R_inj {w x y : Nat} (hw : 0 < w) (h : R w x = R w y) : x = y := by
  have h1 : nats (dg w x) = nats (dg w y) := by injection h
  have hl : dlen w x = dlen w y := by rw [← R_len, h1, R_len]
  refine cmp_all hw fun j => ?_
  by_cases hj : j < dlen w x
  · have a := R_get (w := w) hj
    rw [h1, R_get (by omega)] at a
    injection Option.some.inj a with a
    exact_mod_cast a.symm
  · rw [digit_beyond hw (by omega), digit_beyond hw (by omega)]
open Classical in
noncomputable def unR (w : Nat) (v : MV) : Nat := if h : ∃ x, v = R w x then h.choose else 0
theorem unR_R {w x : Nat} (hw : 0 < w) : unR w (R w x) = x := by
  have h : ∃ y, R w x = R w y := ⟨x, rfl⟩
  unfold unR
  rw [dif_pos h]
  exact (R_inj hw h.choose_spec).symm
theorem rowL_items {w L : Nat} {f : Nat → Nat} {x₁ : List MV} (h : x₁ ∈ (rowL w L f).map fun v => [v]) : ∃ p, p < L ∧ x₁ = [R w (f p)] := by
  obtain ⟨v, hv, rfl⟩ := List.mem_map.mp h
  obtain ⟨p, hp, rfl⟩ := List.mem_map.mp hv
  exact ⟨p, List.mem_range.mp hp, rfl⟩
theorem rowL_map {w L : Nat} {f g : Nat → Nat} {φ : List MV → MV} (h : ∀ p, p < L → φ [R w (f p)] = R w (g p)) : ((rowL w L f).map fun v => [v]).map φ = rowL w L g := by
  rw [List.map_map, rowL, rowL, List.map_map]
  exact List.map_congr_left fun p hp => h p (List.mem_range.mp hp)
theorem rowL_enum {w L : Nat} {f : Nat → Nat} : enumd (rowL w L f) = (List.range L).map fun (p : Nat) => [MV.int (p : Int), R w (f p)] := by
  rw [enumd, rowL_length]
  refine List.map_congr_left fun p hp => ?_
  rw [List.getD_eq_getElem?_getD, rowL_get (List.mem_range.mp hp)]; rfl
theorem rowL_zip {w L : Nat} {f g : Nat → Nat} : zipd (rowL w L f) (rowL w L g) = (List.range L).map fun (p : Nat) => [R w (f p), R w (g p)] := by
  rw [zipd, rowL_length, rowL_length, Nat.min_self]
  refine List.map_congr_left fun p hp => ?_
  rw [List.getD_eq_getElem?_getD, List.getD_eq_getElem?_getD, rowL_get (List.mem_range.mp hp), rowL_get (List.mem_range.mp hp)]; rfl
end Mine
end
section
open PySem PySem.W PySem.Calls PyProof.Rows
namespace Mine
section
variable {G : GCtx} {C : SC} {σ : Vars}
theorem ForT.rowE {x₀ y₀ : Str} {body : List Stmt} {Q : MFlow → Vars → Prop} {w N : Nat} {f : Nat → Nat} {Y : Type} (L : Nat → Y → Vars) (P : Nat → Y → Prop) (h0 : Keeps (L 0) (P 0) σ)
    (turn : ∀ i, i < N → ∀ y, P i y → WS G C body (((L i y).set x₀ (.int (i : Nat))).set y₀ (R w (f i))) (loopPost Q (Keeps (L (i + 1)) (P (i + 1)))))
    (fin : ∀ y σ', P N y → Sub (L N y) σ' → Q .next σ') : ForT G C [x₀, y₀] body Q (enumd (rowL w N f)) σ := by
  refine ForT.list L P h0 (fun i u v hx y hp => ?_) enumd_pairs (by rw [enumd_length, rowL_length]; exact fin)
  obtain ⟨e1, e2⟩ := enumd_at hx
  have hi : i < N := by have := (List.getElem?_eq_some_iff.mp e2).1; rwa [rowL_length] at this
  rw [rowL_get hi] at e2
  cases e2
  subst e1
  exact turn i hi y hp
theorem loopPost_mono {Q : MFlow → Vars → Prop} {I J : Vars → Prop} (h : ∀ σ, I σ → J σ) : ∀ mf σ, loopPost Q I mf σ → loopPost Q J mf σ := fun mf σ q => by
  cases mf with
  | next => exact h _ q
  | cont => exact h _ q
  | _ => exact q
theorem ForT.pair2 {x₀ y₀ : Str} {body : List Stmt} {Q : MFlow → Vars → Prop} {u v : MV} {σ₀ : Vars} {A B : Prop} (h0 : Sub σ₀ σ)
    (t0 : WS G C body ((σ₀.set x₀ u).set y₀ v) (loopPost Q (fun σ' => A ∧ Sub σ₀ σ'))) (t1 : A → WS G C body ((σ₀.set x₀ v).set y₀ u) (loopPost Q (fun σ' => B ∧ Sub σ₀ σ')))
    (fin : A → B → ∀ σ', Sub σ₀ σ' → Q .next σ') : ForT G C [x₀, y₀] body Q [[u, v], [v, u]] σ := by
  refine ⟨fun i σ' => Sub σ₀ σ' ∧ (1 ≤ i → A) ∧ (2 ≤ i → B), ⟨h0, fun h => absurd h (by decide), fun h => absurd h (by decide)⟩, fun i x₁ σ' hx ⟨hs, hA, hB⟩ => ?_, fun σ' ⟨hs, hA, hB⟩ => fin (hA (Nat.le_of_ble_eq_true rfl)) (hB (Nat.le_of_ble_eq_true rfl)) σ' hs⟩
  match i, hx with
  | 0, hx =>
    have : x₁ = [u, v] := by simpa using hx.symm
    subst this
    exact (t0.less ((hs.set _ _).set _ _)).mono (loopPost_mono fun σ ⟨a, s⟩ => ⟨s, fun _ => a, fun h => absurd h (by decide)⟩)
  | 1, hx =>
    have : x₁ = [v, u] := by simpa using hx.symm
    subst this
    exact ((t1 (hA (Nat.le_refl _))).less ((hs.set _ _).set _ _)).mono (loopPost_mono fun σ ⟨b, s⟩ => ⟨s, fun _ => hA (Nat.le_refl _), fun _ => b⟩)
  | n + 2, hx => simp at hx
theorem x_pairs {x y a b : Str} {px py pt p1 p2 p3 p4 q1 q2 q3 : Pos} {k k1 k2 k3 : Nat} {u v : MV} {K : List (List MV) → Vars → Prop}
    (ha : σ.get a = some u) (hb : σ.get b = some v) (hu : NotOwn u) (hv : NotOwn v) (hka : OkN a) (hkb : OkN b) (h : K [[u, v], [v, u]] σ) :
    WIT G C (.Tuple [.Name x px, .Name y py] k pt) [x, y] (.Tuple [.Tuple [.Name a p1, .Name b p2] k1 q1, .Tuple [.Name b p3, .Name a p4] k2 q2] k3 q3) σ K :=
  WIT_pairs ha hb (fun _ _ e => by subst e; exact hu) (fun _ _ e => by subst e; exact hv) h hka.d hka.c hkb.d hkb.c
end
end Mine
end
section
open PySem PySem.W PySem.Calls PyProof.Rows
namespace Mine
theorem ofn_length {N : Nat} {g : Nat → Nat} : (ofn N g).length = N := by simp [ofn]
theorem ofn_get {N p : Nat} {g : Nat → Nat} (h : p < N) : (nats (ofn N g))[p]? = some (.int (g p : Nat)) := nats_get (by simp [ofn, h])
theorem ofn_get' {N p : Nat} {k : Int} {g : Nat → Nat} (hk : k = p) (h : p < N) : (nats (ofn N g))[k.toNat]? = some (.int (g p : Nat)) := by subst hk; exact ofn_get h
theorem ofn_set {N p v : Nat} {g : Nat → Nat} : (nats (ofn N g)).set p (.int (v : Nat)) = nats (ofn N (upd g p v)) := by
  refine List.ext_getElem? fun q => ?_
  rw [List.getElem?_set]
  by_cases hq : q < N
  · rw [ofn_get hq]
    by_cases e : p = q
    · subst e; rw [if_pos rfl, nats_length, ofn_length, if_pos hq, ofn_get hq, upd, if_pos rfl]
    · rw [if_neg e, ofn_get hq, upd, if_neg (Ne.symm e)]
  · rw [List.getElem?_eq_none (by rw [nats_length, ofn_length]; omega), List.getElem?_eq_none (by rw [nats_length, ofn_length]; omega)]
    simp [nats_length, ofn_length]; omega
theorem ofn_dig {w N x : Nat} : ofn N (digit w x) = Dig w N x := rfl
section
variable {G : GCtx} {C : SC} {σ : Vars}
theorem ForT.natsE {x₀ y₀ : Str} {body : List Stmt} {Q : MFlow → Vars → Prop} {w a : Nat} {Y : Type} (L : Nat → Y → Vars) (P : Nat → Y → Prop) (h0 : Keeps (L 0) (P 0) σ)
    (turn : ∀ i, i < dlen w a → ∀ y, P i y → WS G C body (((L i y).set x₀ (.int (i : Nat))).set y₀ (.int (digit w a i : Nat))) (loopPost Q (Keeps (L (i + 1)) (P (i + 1)))))
    (fin : ∀ y σ', P (dlen w a) y → Sub (L (dlen w a) y) σ' → Q .next σ') : ForT G C [x₀, y₀] body Q (enumd (nats (dg w a))) σ := by
  refine ForT.list L P h0 (fun i u v hx y hp => ?_) enumd_pairs (by rw [enumd_length, nats_length, dg_length]; exact fin)
  obtain ⟨e1, e2⟩ := enumd_at hx
  have hi : i < dlen w a := by have := (List.getElem?_eq_some_iff.mp e2).1; rwa [nats_length, dg_length] at this
  rw [R_get hi] at e2
  cases e2
  subst e1
  exact turn i hi y hp
end
end Mine
end
section
open PySem PySem.W PySem.Calls PyProof.Rows
namespace Mine

/-! ### a def made in a body -/
structure Nest (G : GCtx) : Prop where
  hd : CodeHd G.H0 G.tc G.tp
  bm : ∃ bm ob, G.mg "__builtins__" = some (.ref bm) ∧ bm ≠ builtinsNs ∧ G.H0.get? bm = some ob ∧ ob.cls = .type "module" ∧ ob.dict = some builtinsNs ∧ ob.data = .plain
theorem Nest.gne {G : GCtx} (N : Nest G) (K : GOK G) : mainGlobals ≠ G.tp := fun q => by
  obtain ⟨o, es, ep, e, _⟩ := K.g
  have := K.tphid
  rw [← q, e] at this; cases this
theorem Nest.at {G : GCtx} (N : Nest G) {F : FMap} {h : Heap} (B : Base G F h) : h.BuiltinsAt G.mg G.tp := by
  obtain ⟨bm, ob, b1, b2, b3, b4, b5, b6⟩ := N.bm
  refine ⟨bm, ob, b1, b2, fun q => ?_, fun q => ?_, B.keep _ _ b3, b4, b5, b6⟩
  · obtain ⟨o, es, ep, e, hd, _⟩ := B.ok.g
    rw [q, e] at b3; cases b3
    rw [hd] at b6; cases b6
  · have := B.ok.tphid
    rw [← q, b3] at this; cases this

/-- what is known of a function that captures -/
structure Clo (Fs : FMap) (fa : Addr) (qual : Str) (params : Arguments) (body : List Stmt) (scope : Scope) (clos : List (Str × Addr)) (σ₀ : Vars) : Prop where
  obj : ∃ oc od sl name doc pm ct cv, Fs fa = some (⟨oc, od, .func (fnX name qual params body scope clos .none .none doc pm none (.ref cv) ct), sl⟩ : Obj) ∧ CodeF Fs cv qual
  cells : ∀ x mv, σ₀.get x = some mv → ∃ c o v, clos.lookup x = some c ∧ Fs c = some o ∧ o.data = .cell (some v) ∧ VRep Fs mv v
  all : ∀ n c, clos.lookup n = some c → ∃ o v, Fs c = some o ∧ o.data = .cell v
  inj : ∀ n n' c, clos.lookup n = some c → clos.lookup n' = some c → n = n'
theorem Clo.fn {Fs : FMap} {fa : Addr} {qual : Str} {params : Arguments} {body : List Stmt} {scope : Scope} {clos : List (Str × Addr)} {σ₀ : Vars} (K : Clo Fs fa qual params body scope clos σ₀) : FnF Fs fa := by
  obtain ⟨oc, od, sl, name, doc, pm, ct, cv, e, _⟩ := K.obj
  exact ⟨oc, od, _, sl, e⟩

theorem Vars.get_append : ∀ {σ τ : Vars} {x : Str} {mv : MV}, (σ ++ τ).get x = some mv → σ.get x = some mv ∨ τ.get x = some mv
  | [], _, _, _, h => .inr h
  | (y, u) :: r, τ, x, mv, h => by
    rw [List.cons_append] at h
    simp only [Vars.get] at h ⊢
    split at h
    · rename_i e; rw [if_pos e]; exact .inl h
    · rename_i e; rw [if_neg e]; exact Vars.get_append h
theorem lookup_rev_of {binds : List (Str × Value)} {x : Str} {v : Value} (hn : (binds.map (·.1)).Nodup) (hm : (x, v) ∈ binds) : binds.reverse.lookup x = some v := by
  have key : ∀ {l : List (Str × Value)}, (l.map (·.1)).Nodup → (x, v) ∈ l → l.lookup x = some v := by
    intro l
    induction l with
    | nil => intro _ h; cases h
    | cons p r ih =>
      intro hn hm
      obtain ⟨y, u⟩ := p
      obtain ⟨h1, h2⟩ := List.nodup_cons.mp (show (y :: r.map (·.1)).Nodup from hn)
      rcases List.mem_cons.mp hm with e | hmr
      · cases e; rw [List.lookup_cons, beq_self_eq_true]
      · have hne : (x == y) = false := by
          simp only [beq_eq_false_iff_ne]
          intro e; subst e
          exact h1 (List.mem_map.mpr ⟨(x, v), hmr, rfl⟩)
        rw [List.lookup_cons, hne]; exact ih h2 hmr
  refine key ?_ (List.mem_reverse.mpr hm)
  rw [List.map_reverse]; exact List.pairwise_reverse.mpr (hn.imp fun h => Ne.symm h)

section
variable {G : GCtx}
theorem WS.callC {k : Nat} {Fs : FMap} {fa : Addr} {qual : Str} {params : Arguments} {body : List Stmt} {scope : Scope} {clos : List (Str × Addr)} {σ₀ : Vars} {ps : List Str} {args : List MV} {Q : MV → Prop}
    (K : Clo Fs fa qual params body scope clos σ₀) (co : scope.isCoroutine = false) (gen : scope.isGenerator = false) (kind : scope.kind = .function) (hcell : ∀ y ∈ scope.names, y.2 ≠ .cell)
    (bind : ∀ name doc pm cdv ct (vs : List Value), vs.length = ps.length → bindArgs (fnX name qual params body scope clos .none .none doc pm none cdv ct) ⟨vs, []⟩ = pure (ps.zip vs))
    (nd : ps.Nodup) (loc : ∀ p ∈ ps, scope.names.lookup p = some .local) (hfree : ∀ x mv, σ₀.get x = some mv → scope.names.lookup x = some .free) (hlen : args.length = ps.length)
    (h : WS G ⟨k, scope, false, Fs⟩ body (ps.zip args ++ σ₀) (retP Q)) : CallOK G (k + 1) Fs (.ref fa) args Q := .mk fun A F s vs R hF B hv => by
  obtain ⟨oc, od, sl, name, doc, pm, ct, cv, ho, oC, vC, tC, hC, hCd, hCv⟩ := K.obj
  have hl : vs.length = ps.length := hv.length.trans hlen
  refine wpAny_call (codeAny_call_function (body := body) (by have := R.depth; omega) (B.sub _ _ (hF _ _ ho)) rfl co gen rfl ⟨cv, oC, vC, tC, rfl, B.sub _ _ (hF _ _ hC), hCd, hCv⟩ ?_)
  rw [bind name doc pm _ ct vs hl]
  refine wpAny_pure (wpAny_newFunctionEnv hcell (fun x hx => ?_) (fun h' hns hsb => ?_) kind)
  · exact loc _ (List.of_mem_zip (show (x.1, x.2) ∈ ps.zip vs from hx)).1
  have hk : ∀ a o, s.heap.get? a = some o → h'.get? a = some o := fun a o e => hsb.extBut a o (Nat.ne_of_lt (Heap.lt_size e)) (Heap.get?_push_of_some _ e)
  refine ⟨B.nolimit.keeps hk, codeAny_func ?_⟩
  have hL : s.heap.get? s.heap.objs.size = none := new_none (Nat.le_refl _)
  have fz : ∀ {a}, s.heap.get? a = none → F a = none := B.fz
  have hnd : ((ps.zip vs).map (·.1)).Nodup := by rw [List.map_fst_zip (by omega)]; exact nd
  have cellH : ∀ {c o v}, Fs c = some o → o.data = .cell v → h'.IsCell c v := fun {c o v} e d => ⟨o, hk _ _ (B.sub _ _ (hF _ _ e)), d⟩
  have p : Pre G ⟨k, scope, false, Fs⟩ (newEnv scope s.heap.objs.size mainGlobals clos (qual ++ ".<locals>.") (some fa) (.ref cv) none builtinsNs)
      (A.deeper (newEnv scope s.heap.objs.size mainGlobals clos (qual ++ ".<locals>.") (some fa) (.ref cv) none builtinsNs)) (Fresh s.heap) (ps.zip args ++ σ₀) [] F { s with heap := h', toks := s.toks + (ps.zip vs).length } := by
    refine ⟨rfl, R.deep _, hF, fun a e => ?_, ⟨B.grow hk, fun e => ?_, kind, rfl, rfl, hL, fz hL, fun n kn => ?_, fun n c l => ?_, fun n n' c l l' => K.inj n n' c l l', ?_, fun x y a xs ys e _ => ?_, fun x a xs e t ht => (nomatch ht), fun t ht => (nomatch ht), List.nodup_nil⟩⟩
    · exact keep_none hk e
    · exact B.tabIn e
    · exact absurd rfl (hcell _ (mem_of_lookup (show scope.names.lookup n = some .cell from kn)))
    · obtain ⟨o, v, e, d⟩ := K.all n c l
      exact ⟨v, cellH e d⟩
    · refine ⟨_, hns, fun x mv e => ?_⟩
      rcases Vars.get_append e with e | e
      · obtain ⟨v, hm, r⟩ := zip_get hv e
        exact ⟨v, .inl ⟨loc _ (List.of_mem_zip hm).1, lookup_rev_of hnd hm⟩, .of r⟩
      · obtain ⟨c, o, v, l, e', d, r⟩ := K.cells x mv e
        exact ⟨v, .inr ⟨.inr (hfree x mv e), c, l, cellH e' d⟩, .of (VRep.mono hF r)⟩
    · rcases Vars.get_append e with e | e
      · obtain ⟨v, hm, r⟩ := zip_get hv e
        exact (not_own r).elim
      · obtain ⟨c, o, v, l, e', d, r⟩ := K.cells x _ e
        exact (not_own r).elim
  refine h.thn p (fun fl s₂ mf σ' F' a r q => ?_)
  obtain ⟨h₂, tk₂, rfl⟩ := a.rest
  have st : Step G (Fresh s.heap) s.heap F h₂ F' := (Step.grow hk).trans a.step
  exact ⟨retV mf, F', h₂, tk₂, rfl, a.pre.rep.base, st, r.val, q⟩

/-- statements of a frame whose code is known; nothing of the frame is said behind -/
inductive ZP (G : GCtx) (P : Addr → Prop) (s : Shared) (F : FMap) (Q : MFlow → Vars → Prop) (f : Flow) (s' : Shared) : Prop
  | mk (mf : MFlow) (σ' : Vars) (F' : FMap) (b : Base G F' s'.heap) (st : Step G P s.heap F s'.heap F') (rs : ∃ h tk, s' = { s with heap := h, toks := tk }) (r : FRep F' mf f) (q : Q mf σ')
structure WSc (G : GCtx) (C : SC) (cv : Value) (q : Str) (sts : List Stmt) (σ : Vars) (Q : MFlow → Vars → Prop) : Prop where
  run : ∀ env A P tm F s, Pre G C env A P σ tm F s → env.code = cv → env.qual = q →
    wpAny (model G.prog G.w) A (execs sts env) (ZP G P s F Q) (fun _ _ => False) s
theorem WSc.thn {C : SC} {cv : Value} {q : Str} {sts : List Stmt} {σ : Vars} {Q : MFlow → Vars → Prop} {env : Env} {A : Around} {P : Addr → Prop} {tm : List (Addr × List MV)} {F : FMap} {s : Shared} {R : Flow → Shared → Prop} {E : Value → Shared → Prop} (h : WSc G C cv q sts σ Q) (p : Pre G C env A P σ tm F s) (hc : env.code = cv) (hq : env.qual = q)
    (k : ∀ f s' mf σ' F', Base G F' s'.heap → Step G P s.heap F s'.heap F' → (∃ h tk, s' = { s with heap := h, toks := tk }) → FRep F' mf f → Q mf σ' → R f s') : wpAny (model G.prog G.w) A (execs sts env) R E s :=
  wpAny_mono (h.run env A P tm F s p hc hq) (fun v s' x => x.rec (k v s')) fun _ _ x => x.elim
noncomputable def seqC (G : GCtx) (C : SC) (cv : Value) (q : Str) (rest : List Stmt) (Q : MFlow → Vars → Prop) : MFlow → Vars → Prop
  | .next, σ => WSc G C cv q rest σ Q
  | .brk, σ => Q .brk σ
  | .cont, σ => Q .cont σ
  | .ret v, σ => Q (.ret v) σ
theorem WSc_cons {C : SC} {cv : Value} {q : Str} {st : Stmt} {rest : List Stmt} {σ : Vars} {Q : MFlow → Vars → Prop} (h : W1 G C st σ (seqC G C cv q rest Q)) : WSc G C cv q (st :: rest) σ Q := .mk fun env A P tm F s p hc hq =>
  wpAny_execs_cons (h.thn p (fun f s' mf σ' F' a r qq => by
    have fin : ∀ {mf : MFlow}, FRep F' mf f → Q mf σ' → ZP G P s F Q f s' := fun {mf} r qq => ⟨mf, σ', F', a.pre.rep.base, a.step, a.rest, r, qq⟩
    cases mf with
    | next =>
      cases r
      refine (show WSc G C cv q rest σ' Q from qq).thn a.pre hc hq (fun f s'' mf σ'' F'' B st rs r qq => ⟨mf, σ'', F'', B, a.step.trans st, ?_, r, qq⟩)
      obtain ⟨h, tk, rfl⟩ := a.rest
      obtain ⟨h', tk', rfl⟩ := rs
      exact ⟨h', tk', rfl⟩
    | brk => cases r; exact fin (mf := .brk) rfl qq
    | cont => cases r; exact fin (mf := .cont) rfl qq
    | ret v => obtain ⟨u, rfl, r⟩ := r; exact fin (mf := .ret v) ⟨u, rfl, r⟩ qq))

/-- the frame's own cells are shut -/
theorem Pre.shutCells {C : SC} {env : Env} {A : Around} {P : Addr → Prop} {σ : Vars} {tm : List (Addr × List MV)} {F : FMap} {s : Shared} (p : Pre G C env A P σ tm F s) (hcw : C.cw = true) :
    ∃ F', F.le F' ∧ Step G P s.heap F s.heap F' ∧ Pre G ⟨C.k, C.scope, false, F'⟩ env A P σ tm F' s ∧ ∀ n c, C.scope.names.lookup n = some .cell → env.cells.lookup n = some c → F' c = s.heap.get? c := by
  classical
  have kd : ∀ {n}, env.kindOf n = C.scope.names.lookup n := fun {n} => by show env.scope.names.lookup n = _; rw [p.sc]
  let own : Addr → Prop := fun b => ∃ n, env.kindOf n = some .cell ∧ env.cells.lookup n = some b
  let F' : FMap := fun b => if own b then s.heap.get? b else F b
  have R := p.rep
  have fcell : ∀ b, own b → P b ∧ F b = none ∧ ∃ v, s.heap.IsCell b v := fun b ⟨n, k, l⟩ => by
    obtain ⟨c, l', q⟩ := R.cells n k
    rw [l] at l'; cases l'
    exact ⟨(q hcw).1, (q hcw).2, R.cellex n b l⟩
  have hle : F.le F' := fun b o e => by
    show (if own b then s.heap.get? b else F b) = some o
    by_cases hb : own b
    · rw [(fcell b hb).2.1] at e; cases e
    · rw [if_neg hb]; exact e
  have same : ∀ {b}, ¬ own b → F' b = F b := fun hb => if_neg hb
  have hsub : ∀ b o, F' b = some o → s.heap.get? b = some o := fun b o e => by
    by_cases hb : own b
    · have : F' b = s.heap.get? b := if_pos hb
      rw [this] at e; exact e
    · rw [same hb] at e; exact R.base.sub b o e
  have ntab : ¬ own G.tp := fun hb => by
    obtain ⟨_, _, v, hc⟩ := fcell _ hb
    exact Heap.IsCell.ne_tab hc R.base.tab rfl
  obtain ⟨m, hns, hvs⟩ := R.vars
  have nloc : ¬ own env.locals := fun hb => by
    obtain ⟨_, _, v, hc⟩ := fcell _ hb
    exact Heap.IsCell.ne_ns hc hns rfl
  have own' : ∀ {b ys}, OwnAt P F s.heap b ys → OwnAt P F' s.heap b ys := fun {b ys} o => by
    have nb : ¬ own b := fun hb => by
      obtain ⟨_, _, v, hc⟩ := fcell _ hb
      obtain ⟨us, hl⟩ := o.isList
      exact Heap.IsList.ne_cell hl hc rfl
    exact ⟨o.p, (same nb).trans o.f, let ⟨us, l, r⟩ := o.l; ⟨us, l, r.mono hle⟩⟩
  have B : Base G F' s.heap := ⟨R.base.ok, fun b o e => hle b o (R.base.glob b o e), hsub, (same ntab).trans R.base.ftab, R.base.tab.mono hle fun _ e => e⟩
  refine ⟨F', hle, ⟨fun _ _ _ _ e => e, fun b o hp _ _ => same fun hb => hp (fcell b hb).1, hle⟩, ⟨p.sc, p.room, FMap.le.refl _, p.fresh, ⟨B, R.ptab, R.kind, R.glb, R.blt, R.plocals, (same nloc).trans R.flocals, fun n k => ?_, R.cellex, R.cinj, ⟨m, hns, fun x mv e => ?_⟩, R.dist, R.tdist, fun t ht => own' (R.tms t ht), R.tmd⟩⟩, fun n c k l => ?_⟩
  · obtain ⟨c, l, _⟩ := R.cells n k
    exact ⟨c, l, fun q => nomatch q⟩
  · obtain ⟨v, a, r⟩ := hvs x mv e
    refine ⟨v, a, ?_⟩
    cases mv with
    | own b ys => exact ⟨r.1, own' r.2⟩
    | _ => exact VRep.mono hle r
  · exact if_pos ⟨n, kd.trans k, l⟩

/-- a def stands: the function is made, its name bound, the frame's cells are shut -/
theorem WSc_def {C : SC} {q name : Str} {params : Arguments} {dbody rest : List Stmt} {scope : Scope} {pos : Pos} {σ σ₀ : Vars} {Q : MFlow → Vars → Prop} (N : Nest G) (hcw : C.cw = true)
    (hd0 : params.defaults = []) (hk0 : params.kw_defaults = []) (ha : ∀ env, annTrees params none env = []) (hx : C.scope.names.lookup name = some .local) (hpos : G.npos = pos) (hqual : G.nqual = q ++ name)
    (hcap : ∀ x ∈ scope.names, x.2 = .free → C.scope.names.lookup x.1 = some .cell) (hcaps : Caps σ scope σ₀) (hname : ∀ x mv, σ₀.get x = some mv → x ≠ name)
    (h : ∀ Fs' fa clos, C.Fs.le Fs' → Clo Fs' fa G.nqual params dbody scope clos σ₀ → WS G ⟨C.k, C.scope, false, Fs'⟩ rest (σ.set name (.raw (.ref fa))) Q) :
    WSc G C (.ref G.tc) q (.FunctionDef name params dbody [] none [] scope none name pos :: rest) σ Q := .mk fun env A P tm F s p hc hq => by
  have kn : env.kindOf name = some .local := by show env.scope.names.lookup name = _; rw [p.sc]; exact hx
  have hqn : qualnameIn env name name = G.nqual := by unfold qualnameIn; rw [kn, hq, hqual]; rfl
  have hclk := clOK (env := env) (scope := scope) fun x hx e => let ⟨c, l, _⟩ := p.rep.cells x.1 (by show env.scope.names.lookup x.1 = _; rw [p.sc]; exact hcap x hx e); ⟨c, l⟩
  have B := p.rep.base
  -- what is common to both ways: the function stands at `fa`, its code at `c'`
  have finish : ∀ (h' : Heap) (tk : Nat) (F1 : FMap) (fa cv : Addr) (oc : Value) (od : Option Addr) (sl : Array (Option Value)) (doc pm ct : Value) (oC : Obj) (vC : Array Value) (tC : Tok),
      Aft G C env A P s F σ tm F1 { s with heap := h', toks := tk } → F1 fa = some (⟨oc, od, .func (fnX name G.nqual params dbody scope (capt env.cells scope.names []) .none .none doc pm none (.ref cv) ct), sl⟩ : Obj) →
      F1 cv = some oC → oC.data = .fields vC → vC[1]? = some (.str G.nqual tC) →
      wpAny (model G.prog G.w) A (storeName env name (.ref fa)) (fun _ s'' => wpAny (model G.prog G.w) A (execs rest env) (ZP G P s F Q) (fun _ _ => False) s'') (fun _ _ => False) { s with heap := h', toks := tk } := by
    intro h' tk F1 fa cv oc od sl doc pm ct oC vC tC a1 hfa hcv hcd hcq
    refine a1.pre.storeT (.inl hx) (mv := .raw (.ref fa)) (.inl ⟨rfl, rfl⟩) (fun _ s'' a2 => ?_)
    obtain ⟨F2, hle, st, p2, hown⟩ := a2.pre.shutCells hcw
    have a12 := a1.trans a2
    have K : Clo F2 fa G.nqual params dbody scope (capt env.cells scope.names []) σ₀ := by
      refine ⟨⟨oc, od, sl, name, doc, pm, ct, cv, hle _ _ hfa, oC, vC, tC, hle _ _ hcv, hcd, hcq⟩, fun x mv e => ?_, fun n c l => ?_, fun n n' c l l' => p.rep.cinj n n' c (hclk.out _ _ l) (hclk.out _ _ l')⟩
      · obtain ⟨g1, g2, g3⟩ := hcaps.get e
        have kc := hcap (x, .free) (mem_of_lookup g2) rfl
        obtain ⟨c, l⟩ := hclk.has x (mem_of_lookup g2)
        have l' := hclk.out _ _ l
        obtain ⟨m, hns, hvs⟩ := p2.rep.vars
        obtain ⟨v, at', r⟩ := hvs x mv (by rw [Vars.get_set, if_neg (hname x mv e)]; exact g1)
        rcases at' with ⟨kl, _⟩ | ⟨_, c', l'', o, ho, hd⟩
        · have : env.kindOf x = some .cell := by show env.scope.names.lookup x = _; rw [p.sc]; exact kc
          rw [this] at kl; cases kl
        · rw [l'] at l''; cases l''
          refine ⟨c, o, v, l, (hown x c kc l').trans ho, hd, ?_⟩
          cases mv with
          | own a xs => exact g3.elim
          | _ => exact r
      · have l' := hclk.out _ _ l
        obtain ⟨v, o, ho, hd⟩ := p2.rep.cellex n c l'
        have kf : (n, NameKind.free) ∈ scope.names := by
          rcases capt_mem (mem_of_lookup l) with h' | ⟨h1, _⟩
          · cases h'
          · exact h1
        exact ⟨o, v, (hown n c (hcap _ kf rfl) l').trans ho, hd⟩
    refine (h F2 fa _ ((a2.pre.fs).trans hle) K).thn p2 (fun f s' mf σ' F' a3 r qq => ⟨mf, σ', F', a3.pre.rep.base, (a12.step.trans st).trans a3.step, ?_, r, qq⟩)
    obtain ⟨h1, t1, e1⟩ := a12.rest
    obtain ⟨h2, t2, e2⟩ := a3.rest
    exact ⟨h2, t2, by rw [e2, e1]⟩
  refine wpAny_execs_cons (nestDef_K hd0 hk0 (ha env) ?_)
  rw [hqn]
  obtain ⟨ps, hP, hps⟩ := B.tab
  have C1 := N.hd.keeps B.keep
  have hfresh : ∀ {a}, s.heap.objs.size ≤ a → F a = none := fun {a} e => by
    cases qf : F a with
    | none => rfl
    | some o => have := B.sub _ _ qf; rw [new_none e] at this; cases this
  have hPlt : G.tp < s.heap.objs.size := Heap.lt_size hP
  rcases hps with rfl | ⟨c', rfl, oC, vC, tC, fC, dC, qC⟩
  · -- the first time
    refine makeFunction_K (mg := G.mg) hclk.eq p.rep.glb B.g hc C1 hP trivial rfl (N.gne B.ok) (N.at B) fun c' ctv doc h' tk hxt hge hlt hrec htb => ?_
    obtain ⟨c₂, oC, vC, tC, e2, hoC, hdC, hqC⟩ := hrec
    cases e2
    let fo : Obj := fnMade name G.nqual params dbody scope (capt env.cells scope.names []) doc ((G.mg "__name__").getD .none) c' ctv
    let F1 : FMap := fun b => if b = c' then some oC else if b = h'.objs.size then some fo else F b
    have hne : h'.objs.size ≠ c' := Nat.ne_of_gt hlt
    have hsz : s.heap.objs.size ≤ h'.objs.size := Nat.le_of_lt (Nat.lt_of_le_of_lt hge hlt)
    have hle : F.le F1 := fun b o e => by
      have hb : b < s.heap.objs.size := Heap.lt_size (B.sub _ _ e)
      show (if b = c' then some oC else if b = h'.objs.size then some fo else F b) = some o
      rw [if_neg (Nat.ne_of_lt (Nat.lt_of_lt_of_le hb hge)), if_neg (Nat.ne_of_lt (Nat.lt_of_lt_of_le hb hsz))]; exact e
    have f1c : F1 c' = some oC := if_pos rfl
    have f1f : F1 h'.objs.size = some fo := by show (if _ then _ else _) = _; rw [if_neg hne, if_pos rfl]
    have up : ∀ a o, a ≠ G.tp → s.heap.get? a = some o → (h'.push fo).get? a = some o := fun a o t e => Heap.get?_push_of_some _ (hxt a o t e)
    have B1 : Base G F1 (h'.push fo) := by
      refine ⟨B.ok, fun a o e => hle _ _ (B.glob a o e), fun a o e => ?_, ?_, ?_⟩
      · by_cases h1 : a = c'
        · subst h1; rw [f1c] at e; cases e; exact Heap.get?_push_of_some _ hoC
        · by_cases h2 : a = h'.objs.size
          · subst h2; rw [f1f] at e; cases e; exact Heap.get?_push_size _ rfl
          · have e' : F a = some o := by
              have : F1 a = F a := by show (if _ then _ else _) = _; rw [if_neg h1, if_neg h2]
              rw [this] at e; exact e
            exact up a o (fun t => by rw [t, B.ftab] at e'; cases e') (B.sub a o e')
      · show (if G.tp = c' then some oC else if G.tp = h'.objs.size then some fo else F G.tp) = none
        rw [if_neg (Nat.ne_of_lt (Nat.lt_of_lt_of_le hPlt hge)), if_neg (Nat.ne_of_lt (Nat.lt_of_lt_of_le hPlt hsz))]; exact B.ftab
      · refine ⟨_, Heap.get?_push_of_some _ htb, .inr ⟨c', ?_, oC, vC, tC, f1c, hdC, hqC⟩⟩
        rw [hpos]; rfl
    have st1 : Step G (Fresh s.heap) s.heap F (h'.push fo) F1 := by
      refine ⟨fun a o _ t e => up a o t e, fun a o _ t e => ?_, hle⟩
      have hb : a < s.heap.objs.size := Heap.lt_size e
      show (if a = c' then some oC else if a = h'.objs.size then some fo else F a) = F a
      rw [if_neg (Nat.ne_of_lt (Nat.lt_of_lt_of_le hb hge)), if_neg (Nat.ne_of_lt (Nat.lt_of_lt_of_le hb hsz))]
    exact finish _ tk F1 h'.objs.size c' _ _ _ doc _ ctv oC vC tC (p.grow B1 st1) f1f f1c hdC hqC
  · -- its code is known
    refine makeFunction_hit (mg := G.mg) (cv := .ref c') hclk.eq p.rep.glb B.g hc C1 hP (by simp [TriplesOk, rawInt]) ?_ (N.at B) fun ctv doc h' tk hk hsz => ?_
    · have := codeAmong_snoc (pos := pos) (c := .ref c') [] trivial rfl
      rw [hpos]; exact this
    let fo : Obj := { cls := .type "function", data := .func (fnX name G.nqual params dbody scope (capt env.cells scope.names []) .none .none doc ((G.mg "__name__").getD .none) none (.ref c') ctv) }
    let F1 : FMap := fun b => if b = h'.objs.size then some fo else F b
    have hle : F.le F1 := fun b o e => by
      have hb : b < s.heap.objs.size := Heap.lt_size (B.sub _ _ e)
      show (if b = h'.objs.size then some fo else F b) = some o
      rw [if_neg (Nat.ne_of_lt (Nat.lt_of_lt_of_le hb hsz))]; exact e
    have f1f : F1 h'.objs.size = some fo := if_pos rfl
    have up : ∀ a o, s.heap.get? a = some o → (h'.push fo).get? a = some o := fun a o e => Heap.get?_push_of_some _ (hk a o e)
    have B1 : Base G F1 (h'.push fo) := by
      refine ⟨B.ok, fun a o e => hle _ _ (B.glob a o e), fun a o e => ?_, ?_, B.tab.mono hle fun o e => up _ o e⟩
      · by_cases h2 : a = h'.objs.size
        · subst h2; rw [f1f] at e; cases e; exact Heap.get?_push_size _ rfl
        · have : F1 a = F a := if_neg h2
          rw [this] at e
          exact up a o (B.sub a o e)
      · show (if G.tp = h'.objs.size then some fo else F G.tp) = none
        rw [if_neg (Nat.ne_of_lt (Nat.lt_of_lt_of_le hPlt hsz))]; exact B.ftab
    have st1 : Step G (Fresh s.heap) s.heap F (h'.push fo) F1 := by
      refine ⟨fun a o _ t e => up a o e, fun a o _ t e => ?_, hle⟩
      have hb : a < s.heap.objs.size := Heap.lt_size e
      show (if a = h'.objs.size then some fo else F a) = F a
      rw [if_neg (Nat.ne_of_lt (Nat.lt_of_lt_of_le hb hsz))]
    exact finish _ tk F1 h'.objs.size c' _ _ _ doc _ ctv oC vC tC (p.grow B1 st1) f1f (hle _ _ fC) dC qC
end
end Mine
end
section
open PySem PySem.W PySem.Calls PyProof.Rows
namespace Mine
section
variable {G : GCtx}
theorem WSc.call {k : Nat} {Fs : FMap} {f : Addr} {fd : FuncData} {body : List Stmt} {ps : List Str} {args : List MV} {Q : MV → Prop} (D : DefAt G f fd body ps) (hlen : args.length = ps.length)
    (h : WSc G ⟨k, fd.scope, true, Fs⟩ fd.code (fd.qualname ++ ".<locals>.") body (ps.zip args) (retP Q)) : CallOK G (k + 1) Fs (.ref f) args Q := .mk fun A F s vs R hF B hv =>
  D.enter R hF B (hv.length.trans hlen) B.tabIn (fun _ e => e) (zip_rep hv) (zip_dist hv) fun env h' tk' p hc hq hk => h.thn p hc hq fun fl s₂ mf σ' F' b st ⟨h₂, tk₂, e⟩ r q =>
    ⟨retV mf, F', h₂, tk₂, e, (by rw [e] at b; exact b), (by rw [e] at st; exact (Step.grow hk).trans st), r.val, q⟩
end
structure Setup2 (G : GCtx) : Prop where
  nest : Nest G
  tc : G.tc = 240
  npos : G.npos = ⟨186, 4, 187, 57⟩
  nqual : G.nqual = Str.ofString "ring_deep.<locals>." ++ Str.ofString "within"
theorem callDefC {G : GCtx} {Fs : FMap} (S : Setup G) {k i f c : Nat} {name : Str} {params : Arguments} {body : List Stmt} {scope : Scope} {ps : List Str} {args : List MV} {σ : Vars} {Q : MV → Prop} (h : isTab i f c = true) (e : fnW pw i c = fnD name params body scope c .none .none .none)
    (chk : fnChk ps scope = true) (bind : ∀ doc pm ct us, us.length = ps.length → bindArgs (fnD name params body scope c doc pm ct) ⟨us, []⟩ = pure (ps.zip us)) (hl : args.length = ps.length) (hz : ps.zip args = σ)
    (hw : WSc G ⟨k, scope, true, Fs⟩ (.ref c) (name ++ ".<locals>.") body σ (retP Q)) : CallOK G (k + 1) Fs (.ref f) args Q := by
  obtain ⟨doc, pm, ct, D⟩ := S.defAt h e chk bind
  subst hz
  exact WSc.call D hl hw
section
variable {G : GCtx} {C : SC} {σ σ' : Vars}
theorem seqC_next {cv : Value} {q : Str} {rest : List Stmt} {Q : MFlow → Vars → Prop} (hs : σ = σ') (h : WSc G C cv q rest σ' Q) : seqC G C cv q rest Q .next σ := by subst hs; exact h
theorem seqC_ret {cv : Value} {q : Str} {v : MV} {rest : List Stmt} {Q : MFlow → Vars → Prop} (h : Q (.ret v) σ) : seqC G C cv q rest Q (.ret v) σ := h
end
noncomputable def allKey (p : Str → Prop) : Vars → Prop
  | [] => True
  | (x, _) :: r => p x ∧ allKey p r
theorem allKey.get {p : Str → Prop} : ∀ {σ : Vars}, allKey p σ → ∀ x mv, σ.get x = some mv → p x
  | [], _, x, mv, h => by simp [Vars.get] at h
  | (y, u) :: r, k, x, mv, h => by
    simp only [Vars.get] at h
    split at h
    · rename_i e; subst e; exact k.1
    · exact k.2.get x mv h
theorem ne_of_beq {x y : Str} (h : (x == y) = false) : x ≠ y := by simpa using h
end Mine
end
section
open PySem PySem.W PySem.Calls PyProof.Rows
namespace Mine
/-- what a def that turns its first argument must answer -/
noncomputable def retIO (a : Addr) (y : Str) (Q : MV → List MV → Prop) : MFlow → Vars → Prop
  | .ret v, σ => ∃ xs, σ.get y = some (.own a xs) ∧ Q v xs
  | _, _ => False
section
variable {G : GCtx}
theorem retIO_ret {a : Addr} {y : Str} {Q : MV → List MV → Prop} {v : MV} {σ : Vars} {xs : List MV} (hy : σ.get y = some (.own a xs)) (h : Q v xs) : retIO a y Q (.ret v) σ := ⟨xs, hy, h⟩
theorem Rep.ownAt {cw : Bool} {env : Env} {P : Addr → Prop} {σ : Vars} {tm : List (Addr × List MV)} {F : FMap} {h : Heap} (R : Rep G cw env P σ tm F h) {x : Str} {a : Addr} {xs : List MV} (e : σ.get x = some (.own a xs)) : OwnAt P F h a xs := by
  obtain ⟨m, _, hv⟩ := R.vars
  obtain ⟨v, _, r⟩ := hv x _ e
  exact r.2
theorem WS.callIO {k : Nat} {Fs : FMap} {f : Addr} {fd : FuncData} {body : List Stmt} {p0 : Str} {ps : List Str} {args xs : List MV} {Q : MV → List MV → Prop} (D : DefAt G f fd body (p0 :: ps)) (hlen : args.length = ps.length)
    (h : ∀ a, WS G ⟨k, fd.scope, true, Fs⟩ body ((p0, .own a xs) :: ps.zip args) (retIO a p0 Q)) : CallIO G (k + 1) Fs (.ref f) xs args Q := .mk fun A F s us a P R hF B hP hv ho => by
  have gz : ∀ {x mv}, Vars.get ((p0, .own a xs) :: ps.zip args) x = some mv → (x = p0 ∧ mv = .own a xs) ∨ ∃ v, (x, v) ∈ ps.zip us ∧ VRep F mv v := fun {x mv} e => by
    simp only [Vars.get] at e
    split at e
    · rename_i q; cases e; exact .inl ⟨q.symm, rfl⟩
    · exact .inr (zip_get hv e)
  have one : ∀ {x b zs}, Vars.get ((p0, .own a xs) :: ps.zip args) x = some (.own b zs) → x = p0 := fun {x b zs} e => (gz e).elim (fun q => q.1) fun ⟨_, _, r⟩ => (not_own r).elim
  refine D.enter (vs := .ref a :: us) (P := fun b => s.heap.get? b = none ∨ b = a) (σ := (p0, .own a xs) :: ps.zip args) R hF B (congrArg Nat.succ (hv.length.trans hlen)) (fun e => e.elim B.tabIn fun e => hP (e ▸ ho.p)) (fun _ e => .inl e) (fun x mv e => ?_)
    (fun x y b zs ys e e' => (one e).trans (one e').symm) fun env h' tk' p _ _ hk => (h a).thn p fun fl s₂ mf σ' F' af r q => ?_
  · rcases gz e with ⟨rfl, rfl⟩ | ⟨v, hm, r⟩
    · exact ⟨.ref a, .head _, rfl, .inr rfl, ho.f, ho.l⟩
    · exact ⟨v, .tail _ hm, .of r⟩
  obtain ⟨h₂, tk₂, rfl⟩ := af.rest
  have st : Step G (fun b => s.heap.get? b = none ∨ b = a) s.heap F h₂ F' := ((Step.grow hk).weaken fun _ e => .inl e).trans af.step
  cases mf with
  | ret v =>
    obtain ⟨u, rfl, r⟩ := r
    obtain ⟨xs', hy, q⟩ := q
    have o := af.pre.rep.ownAt hy
    exact ⟨v, xs', F', h₂, tk₂, rfl, af.pre.rep.base, st, ⟨ho.p, o.f, o.l⟩, r, q⟩
  | _ => exact q.elim
theorem CallIO.any {k k' : Nat} {Fs : FMap} {f : Value} {xs : List MV} {vs : List MV} {Q Q' : MV → List MV → Prop} (h : CallIO G k Fs f xs vs Q) (hk : k ≤ k') (hq : ∀ v xs', Q v xs' → Q' v xs') : CallIOK G k' Fs f xs vs Q' :=
  ⟨k, hk, .mk fun A F s us a P R hF B hP hv ho => h.thn R hF B hP hv ho (fun _ _ mv xs' F' h' tk e b st o r q => ⟨mv, xs', F', h', tk, e, b, st, o, r, hq _ _ q⟩)⟩

/-! ### a call whose value is a new list -/
inductive FQ (G : GCtx) (s : Shared) (F : FMap) (Q : List MV → Prop) (v : Value) (s' : Shared) : Prop
  | mk (a : Addr) (xs : List MV) (F' : FMap) (h' : Heap) (tk : Tok) (e : v = .ref a) (es : s' = { s with heap := h', toks := tk }) (b : Base G F' h') (st : Step G (Fresh s.heap) s.heap F h' F') (o : OwnAt (Fresh s.heap) F' h' a xs) (q : Q xs)
structure CallF (G : GCtx) (k : Nat) (Fs : FMap) (f : Value) (args : List MV) (Q : List MV → Prop) : Prop where
  run : ∀ A F s vs, Room A k → Fs.le F → Base G F s.heap → VReps F args vs → wpAny (model G.prog G.w) A (call f vs) (FQ G s F Q) (fun _ _ => False) s
theorem CallF.thn {k : Nat} {Fs : FMap} {f : Value} {args : List MV} {vs : List Value} {Q : List MV → Prop} {A : Around} {F : FMap} {s : Shared} {R E : Value → Shared → Prop} (h : CallF G k Fs f args Q) (r : Room A k) (l : Fs.le F) (B : Base G F s.heap) (v : VReps F args vs)
    (kk : ∀ v s' a xs F' h' tk, v = .ref a → s' = { s with heap := h', toks := tk } → Base G F' h' → Step G (Fresh s.heap) s.heap F h' F' → OwnAt (Fresh s.heap) F' h' a xs → Q xs → R v s') :
    wpAny (model G.prog G.w) A (call f vs) R E s := wpAny_mono (h.run A F s vs r l B v) (fun v s' x => x.rec (kk v s')) fun _ _ x => x.elim
inductive SF (G : GCtx) (C : SC) (env : Env) (A : Around) (P : Addr → Prop) (s : Shared) (F : FMap) (tm : List (Addr × List MV)) (Q : List MV → Prop) (f : Flow) (s' : Shared) : Prop
  | mk (a : Addr) (xs : List MV) (σ' : Vars) (F' : FMap) (e : f = .ret (.ref a)) (af : Aft G C env A P s F σ' ((a, xs) :: tm) F' s') (q : Q xs)
structure WSF (G : GCtx) (C : SC) (sts : List Stmt) (σ : Vars) (Q : List MV → Prop) : Prop where
  run : ∀ env A P tm F s, Pre G C env A P σ tm F s → wpAny (model G.prog G.w) A (execs sts env) (SF G C env A P s F tm Q) (fun _ _ => False) s
theorem WSF.thn {C : SC} {env : Env} {A : Around} {P : Addr → Prop} {σ : Vars} {tm : List (Addr × List MV)} {F : FMap} {s : Shared} {sts : List Stmt} {Q : List MV → Prop} {R : Flow → Shared → Prop} {E : Value → Shared → Prop} (h : WSF G C sts σ Q) (p : Pre G C env A P σ tm F s)
    (k : ∀ f s' a xs σ' F', f = .ret (.ref a) → Aft G C env A P s F σ' ((a, xs) :: tm) F' s' → Q xs → R f s') : wpAny (model G.prog G.w) A (execs sts env) R E s := wpAny_mono (h.run env A P tm F s p) (fun v s' x => x.rec (k v s')) fun _ _ x => x.elim
noncomputable def seqF (G : GCtx) (C : SC) (rest : List Stmt) (Q : List MV → Prop) : MFlow → Vars → Prop
  | .next, σ => WSF G C rest σ Q
  | _, _ => False
section
variable {C : SC} {σ σ₀ σ' : Vars} {Q : List MV → Prop}
theorem WSF_cons {st : Stmt} {rest : List Stmt} (h : W1 G C st σ (seqF G C rest Q)) : WSF G C (st :: rest) σ Q :=
  .mk fun env A P tm F s p => wpAny_execs_cons (h.thn p (fun f s' mf σ' F' a r q => by
    cases mf with
    | next =>
      cases r
      exact q.thn a.pre (fun f s'' b xs σ'' F'' e a' q => ⟨b, xs, σ'', F'', e, a.trans a', q⟩)
    | _ => exact q.elim))
theorem WSF_ret {e : Expr} {pos : Pos} (h : WF G C e σ (fun _ xs _ => Q xs)) : WSF G C [.Return (some e) pos] σ Q :=
  .mk fun env A P tm F s p => wpAny_execs_cons (wpAny_Return_some (h.thn p (fun v _ a xs σ' F' e af q => ⟨a, xs, σ', F', by rw [e], af, q⟩)))
theorem seqF_next {rest : List Stmt} (hs : σ = σ') (h : WSF G C rest σ' Q) : seqF G C rest Q .next σ := by subst hs; exact h
theorem WSF.less {rest : List Stmt} (h : WSF G C rest σ₀ Q) (hs : Sub σ₀ σ) : WSF G C rest σ Q := .mk fun env A P tm F s p => h.thn (p.less hs) fun f s' a xs σ' F' e af q => ⟨a, xs, σ', F', e, ⟨af.pre, af.step, af.rest⟩, q⟩
theorem seqF_sub {rest : List Stmt} (hs : Sub σ₀ σ) (h : WSF G C rest σ₀ Q) : seqF G C rest Q .next σ := h.less hs
end
theorem WSF.call {k : Nat} {Fs : FMap} {f : Addr} {fd : FuncData} {body : List Stmt} {ps : List Str} {args : List MV} {Q : List MV → Prop} (D : DefAt G f fd body ps) (hlen : args.length = ps.length)
    (h : WSF G ⟨k, fd.scope, true, Fs⟩ body (ps.zip args) Q) : CallF G (k + 1) Fs (.ref f) args Q := .mk fun A F s vs R hF B hv =>
  D.enter R hF B (hv.length.trans hlen) B.tabIn (fun _ e => e) (zip_rep hv) (zip_dist hv) fun env h' tk' p _ _ hk => h.thn p fun fl s₂ a xs σ' F' e af q => by
    obtain ⟨h₂, tk₂, rfl⟩ := af.rest
    subst e
    exact ⟨a, xs, F', h₂, tk₂, rfl, rfl, af.pre.rep.base, (Step.grow hk).trans af.step, af.pre.rep.tms _ (List.mem_cons_self ..), q⟩
inductive CallFK (G : GCtx) (k' : Nat) (Fs : FMap) (f : Value) (args : List MV) (Q : List MV → Prop) : Prop
  | mk (k : Nat) (hk : k ≤ k') (h : CallF G k Fs f args Q)
theorem CallF.any {k k' : Nat} {Fs : FMap} {f : Value} {vs : List MV} {Q Q' : List MV → Prop} (h : CallF G k Fs f vs Q) (hk : k ≤ k') (hq : ∀ xs', Q xs' → Q' xs') : CallFK G k' Fs f vs Q' :=
  ⟨k, hk, .mk fun A F s us R hF B hv => h.thn R hF B hv (fun _ _ a xs F' h' tk e' e b st o q => ⟨a, xs, F', h', tk, e', e, b, st, o, hq _ q⟩)⟩

section
variable {C : SC} {σ : Vars}
theorem WF_callF {x : Str} {np pos : Pos} {e : Expr} {rest : List Expr} {Q : Addr → List MV → Vars → Prop}
    (h : WE G C (.Name x np) σ (fun fv σ₁ => ∃ a, fv = .raw (.ref a) ∧ FnF C.Fs a ∧ WA G C (e :: rest) σ₁ (fun xs σ₂ => CallFK G C.k C.Fs (.ref a) xs (fun ys => ∀ b, Q b ys σ₂))))
    (he : ∀ env, starEach (e :: rest) env = (false, eval e env) :: starEach rest env := by intro _; rfl) (hplain : ∀ env, (backTo pos (starEach rest env)).any (·.1) = false := by intro _; rfl) :
    WF G C (.Call (.Name x np) (e :: rest) [] pos) σ Q := .mk fun env A P tm F s p => by
  refine Call_Name rfl (h.thn p (fun fv s₁ mv σ₁ F₁ a₁ r₁ q₁ => ?_))
  obtain ⟨a, rfl, hf, hw⟩ := q₁
  cases r₁
  refine callWith_F (hf.at a₁.pre.fs a₁.pre.rep.base) (hw.thn pos a₁.pre (fun vs s₂ xs σ₂ F₂ a₂ r₂ q₂ => ⟨hf.at a₂.pre.fs a₂.pre.rep.base, ?_⟩)) (he env) (hplain env)
  obtain ⟨k, hk, hc⟩ := q₂
  exact hc.thn (a₂.pre.room.mono hk) a₂.pre.fs a₂.pre.rep.base r₂ (fun v s₃ b ys F' h' tk e₁ e' B st o q => ⟨b, ys, σ₂, F', e₁, (a₁.trans a₂).trans (e' ▸ a₂.pre.addTm B st o), q b⟩)
theorem x_callF {x : Str} {np pos : Pos} {e : Expr} {rest : List Expr} {a : Addr} {Q : Addr → List MV → Vars → Prop} (hv : G.mg x = some (.ref a)) (hf : FnF C.Fs a) (hx : C.scope.names.lookup x = some .globalImplicit) (hk : OkN x)
    (hs : allStar (e :: rest) = true) (h : WA G C (e :: rest) σ (fun xs σ₂ => CallFK G C.k C.Fs (.ref a) xs (fun ys => ∀ b, Q b ys σ₂))) : WF G C (.Call (.Name x np) (e :: rest) [] pos) σ Q := by
  obtain ⟨h1, h2⟩ := Bool.and_eq_true_iff.mp hs
  exact WF_callF (x_glob hx hv hk ⟨a, rfl, hf, h⟩) (fun env => star_of h1) fun env => back_of h2
end
end
theorem callDefIO {G : GCtx} {Fs : FMap} (S : Setup G) {k i f c : Nat} {name : Str} {params : Arguments} {body : List Stmt} {scope : Scope} {p0 : Str} {ps : List Str} {args xs : List MV} {σ : Vars} {Q : MV → List MV → Prop} (h : isTab i f c = true) (e : fnW pw i c = fnD name params body scope c .none .none .none)
    (chk : fnChk (p0 :: ps) scope = true) (bind : ∀ doc pm ct us, us.length = (p0 :: ps).length → bindArgs (fnD name params body scope c doc pm ct) ⟨us, []⟩ = pure ((p0 :: ps).zip us)) (hl : args.length = ps.length) (hz : ps.zip args = σ)
    (hw : ∀ a, WS G ⟨k, scope, true, Fs⟩ body ((p0, .own a xs) :: σ) (retIO a p0 Q)) : CallIO G (k + 1) Fs (.ref f) xs args Q := by
  obtain ⟨doc, pm, ct, D⟩ := S.defAt h e chk bind
  subst hz
  exact WS.callIO D hl hw
theorem callDefF {G : GCtx} {Fs : FMap} (S : Setup G) {k i f c : Nat} {name : Str} {params : Arguments} {body : List Stmt} {scope : Scope} {ps : List Str} {args : List MV} {σ : Vars} {Q : List MV → Prop} (h : isTab i f c = true) (e : fnW pw i c = fnD name params body scope c .none .none .none)
    (chk : fnChk ps scope = true) (bind : ∀ doc pm ct us, us.length = ps.length → bindArgs (fnD name params body scope c doc pm ct) ⟨us, []⟩ = pure (ps.zip us)) (hl : args.length = ps.length) (hz : ps.zip args = σ)
    (hw : WSF G ⟨k, scope, true, Fs⟩ body σ Q) : CallF G (k + 1) Fs (.ref f) args Q := by
  obtain ⟨doc, pm, ct, D⟩ := S.defAt h e chk bind
  subst hz
  exact WSF.call D hl hw
end Mine
end
section
open PySem PySem.W PySem.Calls PyProof.Rows
namespace Mine
theorem swapsW_scope {env : Env} {sc : Scope} (h : env.scope = sc) (e : Expr) (t : Option Expr) (l : Nat) : swapsWith e t l env = swapsWith e t l (envAt sc) := by
  subst h; rfl
section
variable {G : GCtx} {C : SC} {σ σ' : Vars}
theorem W1_assign_comp2 {x : Str} {px : Pos} {tgt : Expr} {names : List Str} {elt iter : Expr} {ifs : List Expr} {scope : Scope} {pos spos : Pos} {Q : MFlow → Vars → Prop} (hx : Storable C x)
    (hnm : ∀ x ∈ names, scope.names.lookup x = some .local) (hcell : ∀ y ∈ scope.names, y.2 ≠ .cell) (hkind : scope.kind = .function) (hnames : ∀ y ∈ scope.names, y.2 = .local → scope.names.lookup y.1 = some .local)
    (hfree : ∀ y ∈ scope.names, y.2 = .free → C.scope.names.lookup y.1 = some .cell)
    (h : WIT G C tgt names iter σ (fun items σ₁ => CompK G C names ifs elt scope items σ₁ (fun ys => ∀ a, Q .next (σ₁.set x (.own a ys)))))
    (hsw : swapsWith (.ListComp elt [⟨tgt, iter, ifs, 0⟩] scope pos) (some (.Name x px)) spos.line (envAt C.scope) = pure true)
    (hs : ∀ env x, foldedSetIterable iter env x = pure x := by intro _ _; rfl) : W1 G C (.Assign [.Name x px] (.ListComp elt [⟨tgt, iter, ifs, 0⟩] scope pos) spos) σ Q := .mk fun env A P tm F s p => by
  rw [exec_Assign_Name_used _ _ _ _ ((swapsW_scope p.sc _ _ _).trans hsw)]
  have hcl := clOK (env := env) (scope := scope) fun x hx e => let ⟨c, l, _⟩ := p.rep.cells x.1 (by show env.scope.names.lookup x.1 = _; rw [p.sc]; exact hfree x hx e); ⟨c, l⟩
  refine wpAny_bind (wpAny_standAt (wpAny_bind ?_))
  show wpAny _ A (do let _ ← comprehension (.ListComp elt [⟨tgt, iter, ifs, 0⟩] scope pos) scope env _ (newList []) false (eval iter env) (some (assign (.Name x px) env))) _ _ s
  refine wpAny_bind (wpAny_mono (wpAny_comprehension_free (use := some (assign (.Name x px) env)) (Q := fun _ s' => SP G C env A P s F tm Q .next s') rfl (hs env) hcl.eq hkind hnames
    (h.thn p fun it s₂ h₂ => ?_)) (fun _ s' hq => wpAny_pure (wpAny_pure hq)) fun _ _ e => e)
  obtain ⟨items, σ₂, F₂, sm, I, fp, gd, Pi, St, rfl, am, ⟨hh, tk, rfl⟩, hk, W, st0, hPi, hfp, hgd, σ₀, keepf, f, hcap, hsz, htests, helt, q⟩ := h₂
  refine compCore (RR := fun acc Cc => compPost (model G.prog G.w) A (fun _ _ => False) (some (assign (.Name x px) env)) (fun _ s' => SP G C env A P s F tm Q .next s') acc Cc) am.pre hk W st0 hPi hfp hgd hcl hnm hcell hkind hfree hcap hsz htests helt ?_
  intro D Cc h' tk' m' F' hn hCD hFC hCn hDn B st ho
  have a₁ := am.pre.addTm (tk := tk') B st ho
  show wpAny _ A (assign (.Name x px) env (.ref D)) _ _ _
  obtain ⟨mL, hnL, _⟩ := am.pre.rep.vars
  have hL : env.locals ≠ Cc := fun q => by
    obtain ⟨o, _, _, ho, _⟩ := hnL
    rw [q, hCn] at ho; cases ho
  have hPC : P Cc := am.pre.fresh Cc hCn
  have nt := Heap.Ns.ne_tab hn B.tab
  have a₁' := a₁.pre.shut hn hL
  refine wpAny_assign_Name (a₁'.storeT hx (.inr ⟨D, _, rfl, rfl, rfl⟩) (fun _ s₃ a₃ => ?_))
  have hn₃ : s₃.heap.Ns Cc m' := hn.at' fun o e => a₃.step.keep Cc o (fun q => q.2 rfl) nt e
  refine ⟨m', hn₃, fun h'' hs'' => ?_⟩
  have pf := a₃.pre.turnedTo (P' := P) (wr := [Cc]) (tk := s₃.toks) (h' := h'') (fun b o hb e => (hs''.2 b (fun q => hb (by simp [q]))).trans e)
    (fun b hb => by cases List.mem_singleton.mp hb; exact ⟨fun q => q.2 rfl, hFC, nt⟩)
    (fun n c l hb => by
      obtain ⟨v, hcell⟩ := a₃.pre.rep.cellex n c l
      exact Heap.IsCell.ne_ns hcell hn₃ (List.mem_singleton.mp hb)) (fun _ q => q.1) am.pre.rep.ptab (fun b hb => by cases List.mem_singleton.mp hb; exact .inl hPC)
  refine ⟨.next, _, F', ⟨pf, (am.step.trans a₁.step).trans ((a₃.step.weaken fun _ q => q.1).trans (Step.sameBut hPC hs'')), ?_⟩, rfl, q D⟩
  obtain ⟨h1, t1, e1⟩ := a₃.rest
  obtain ⟨h2, t2, e2⟩ := am.rest
  exact ⟨h'', s₃.toks, by rw [e1, e2]⟩
theorem x_assign_comp {x : Str} {px : Pos} {tgt : Expr} {names : List Str} {elt iter : Expr} {scope : Scope} {pos spos : Pos} {Q : MFlow → Vars → Prop} (hk : CompOk C names scope) (hx : Storable C x) (hp : plainE iter = true)
    (hsw : swapsWith (.ListComp elt [⟨tgt, iter, [], 0⟩] scope pos) (some (.Name x px)) spos.line (envAt C.scope) = pure true)
    (h : WIT G C tgt names iter σ (fun items σ₁ => CompM G C names elt scope items σ₁ (fun ys => ∀ a, Q .next (σ₁.set x (.own a ys))))) : W1 G C (.Assign [.Name x px] (.ListComp elt [⟨tgt, iter, [], 0⟩] scope pos) spos) σ Q :=
  W1_assign_comp2 hx hk.nm hk.cell hk.kind hk.names hk.free (h.mono fun _ _ q => q.K) hsw (fun env x => folded_of hp)
end
end Mine
end
section
open PySem PySem.W PySem.Calls PyProof.Rows
namespace Mine
set_option maxRecDepth 100000
local macro_rules | `(tactic| wtm_at "m.gcall") => `(tactic| ((with_reducible refine' x_call ?hm ?hf ?hx ?hk rfl ?_); (case hm => with_reducible assumption); (case hf => exact fnAt ‹_› ‹_› (by kernel_rfl)); (case hx => wtm_at "m.lk"); (case hk => wtm_at "m.okn")))
local macro_rules | `(tactic| wtm_at "m.gname") => `(tactic| ((with_reducible refine' x_glob ?hx ?hm ?hk ?_); (case hm => with_reducible assumption); (case hx => wtm_at "m.lk"); (case hk => wtm_at "m.okn")))
local macro_rules | `(tactic| wtm_at "m.ne") => `(tactic| kernel_rfl)
local macro_rules | `(tactic| wtm_at "m.okn") => `(tactic| exact okn (by kernel_rfl))
local macro_rules | `(tactic| wtm_at "m.set") => `(tactic| first | with_reducible exact set_0 | with_reducible exact new_0 | ((with_reducible first | refine set_1 ?_ | refine set_2 ?_ | refine set_3 ?_ | refine set_4 ?_ | refine set_5 ?_ | refine set_6 ?_ | refine set_7 ?_ | refine set_8 ?_ | refine set_9 ?_ | refine new_1 ?_ | refine new_2 ?_ | refine new_3 ?_ | refine new_4 ?_ | refine new_5 ?_ | refine new_6 ?_ | refine new_7 ?_ | refine new_8 ?_ | refine new_9 ?_ | refine new_10 ?_ | refine new_11 ?_); kernel_rfl))
local macro_rules | `(tactic| wtm_at "m.norm") => `(tactic| first | ((with_reducible refine' eq_set ?na ?nb); (case na => wtm_at "m.norm"); (case nb => wtm_at "m.set")) | with_reducible exact rfl)
local macro_rules | `(tactic| wtm_at "m.get") => `(tactic| first | with_reducible exact get_0 | ((with_reducible refine' get_of_set ?na ?nb); (case na => wtm_at "m.norm"); (case nb => wtm_at "m.get")) | ((with_reducible first | refine get_1 ?_ | refine get_2 ?_ | refine get_3 ?_ | refine get_4 ?_ | refine get_5 ?_ | refine get_6 ?_ | refine get_7 ?_ | refine get_8 ?_ | refine get_9 ?_ | refine get_10 ?_ | refine get_11 ?_); kernel_rfl))
local macro_rules | `(tactic| wtm_at "m.lk") => `(tactic| dsimp only; decide +kernel)
local macro_rules | `(tactic| wtm_at "m.caps") => `(tactic| first | exact Caps.nil | (refine' Caps.cons ?cg ?cl trivial ?cr; (case cg => wtm_at "m.get"); (case cl => decide +kernel); (case cr => wtm_at "m.caps")))
local macro_rules | `(tactic| wtm_at "m.st") => `(tactic| first | (refine Or.inl ?_; wtm_at "m.lk") | (refine Or.inr ⟨rfl, ?_⟩; wtm_at "m.lk"))
local macro_rules | `(tactic| wtm_at "m.loc2") => `(tactic| exact ⟨rfl, (by wtm_at "m.lk"), (by wtm_at "m.lk"), (by kernel_rfl)⟩)
local macro_rules | `(tactic| wtm_at "m.sub") => `(tactic| first | with_reducible exact Sub.nil | ((with_reducible refine' Sub.cons' ?_ ?sg ?se); (case sg => wtm_at "m.get"); (try (case se => rfl)); wtm_at "m.sub"))
local macro_rules | `(tactic| wtm_at "m.el") => `(tactic| first
  | (refine' R_get' ?ka ?kb; (case ka => exact rfl); (case kb => wtm_at "m.side"))
  | (refine' R_getK ?kb; (case kb => wtm_at "m.side"))
  | (refine' ofn_get' ?ka ?kb; (case ka => exact rfl); (case kb => wtm_at "m.side"))
  | (refine' nats_getK ?kb; (case kb => wtm_at "m.side"))
  | (refine' rowL_get' ?ka ?kb; (case ka => exact rfl); (case kb => wtm_at "m.side")))
local macro_rules | `(tactic| wtm_at "m.ws") => `(tactic| first
  | ((with_reducible refine' WS_set ?na ?nb ?_); (case na => wtm_at "m.norm"); (case nb => wtm_at "m.set"))
  | with_reducible refine v_cons ?_
  | with_reducible refine WS_nil ?_)
local macro_rules | `(tactic| wtm_at "m.wf") => `(tactic| first
  | with_reducible refine WF_list ?_
  | ((with_reducible first | refine WF_upto ?_ ?ht | refine WF_all ?_ ?ht | refine WF_rev ?_ ?ht); (case ht => exact fun _ _ => rfl))
  | with_reducible refine WF_mullist (WE_of_WF (WF_list ?_)))
local macro_rules | `(tactic| wtm_at "m.w1") => `(tactic| first
  | ((with_reducible refine' x_aug ?hg ?hst ?hk ?_); (case hg => wtm_at "m.get"); (case hst => wtm_at "m.st"); (case hk => wtm_at "m.okn"))
  | ((with_reducible refine' x_append ?hg ?hk rfl rfl ?_); (case hg => wtm_at "m.get"); (case hk => wtm_at "m.okn"))
  | with_reducible refine v_if ?_
  | with_reducible refine WS_ret ?_
  | ((with_reducible refine x_assignF rfl ?hst ?_); (case hst => wtm_at "m.st"); wtm_at "m.wf")
  | ((with_reducible refine x_tup2F ?hst ?hc ?_); (case hst => wtm_at "m.loc2"); (case hc => kernel_rfl); wtm_at "m.wf")
  | ((with_reducible refine x_tup3F ?hst ?hs2 ?hn ?hc ?_); (case hst => wtm_at "m.loc2"); (case hs2 => wtm_at "m.loc2"); (case hn => kernel_rfl); (case hc => kernel_rfl); wtm_at "m.wf")
  | ((with_reducible refine x_tup2 ?hst ?hc ?_); (case hst => wtm_at "m.loc2"); (case hc => kernel_rfl))
  | ((with_reducible refine x_setitem rfl ?hk ?_); (case hk => wtm_at "m.okn"))
  | ((with_reducible first | refine x_assign rfl ?hst ?_ | refine x_for ?hst rfl ?_ | refine x_for2 ?hst ?hs2 rfl ?_); (case hst => wtm_at "m.st"); (try (case hs2 => wtm_at "m.st"))))
local macro_rules | `(tactic| wtm_at "m.wa") => `(tactic| with_reducible first | refine x_acons rfl ?_ | refine WA_nil ?_)
local macro_rules | `(tactic| wtm_at "m.name") => `(tactic| first
  | ((with_reducible refine' x_name ?hg ?ho ?hk ?_); (case hg => wtm_at "m.get"); (case ho => exact trivial); (case hk => wtm_at "m.okn"))
  | ((with_reducible refine' x_name_own ?hg ?hk ?_); (case hg => wtm_at "m.get"); (case hk => wtm_at "m.okn"))
  | wtm_at "m.gname")
local macro_rules | `(tactic| wtm_at "m.cio") => `(tactic| ((case hv => with_reducible assumption); (case hf => exact fnAt ‹_› ‹_› (by kernel_rfl)); (case hx => wtm_at "m.lk"); (case hk => wtm_at "m.okn"); (case hg => wtm_at "m.get"); (case hk2 => wtm_at "m.okn")))
local macro_rules | `(tactic| wtm_at "m.call") => `(tactic| first
  | ((with_reducible refine' x_len_own (mgn_len ‹_›) ?hx ?hg ?hk ?_ ?_); (case hg => wtm_at "m.get"); (case hx => wtm_at "m.lk"); (case hk => wtm_at "m.okn"))
  | ((with_reducible refine x_len (mgn_len ‹_›) ?hx rfl ?_); (case hx => wtm_at "m.lk"))
  | wtm_at "m.gcall"
  | ((with_reducible refine' x_callv ?hg ?hf ?hk rfl ?_); (case hg => wtm_at "m.get"); (case hf => assumption); (case hk => wtm_at "m.okn")))
local macro_rules | `(tactic| wtm_at "m.we") => `(tactic| first
  | ((with_reducible refine' WE_set ?na ?nb ?_); (case na => wtm_at "m.norm"); (case nb => wtm_at "m.set"))
  | ((with_reducible show WE _ _ (.Name _ _) _ _); wtm_at "m.name")
  | ((with_reducible refine WE_of_WF (WF_addlists (WE_of_WF (WF_upto ?_ ?ht)))); (case ht => exact fun _ _ => rfl))
  | (with_reducible first | refine WE_int ?_ | refine WE_bin ?_)
  | ((with_reducible show WE _ _ (.Call (.Name _ _) _ _ _) _ _); wtm_at "m.call")
  | (with_reducible refine x_item_neg (slice := .UnaryOp .USub _ _) rfl ?_)
  | ((with_reducible refine' x_item_own ?hg ?hk rfl ?_); (case hg => wtm_at "m.get"); (case hk => wtm_at "m.okn"))
  | (with_reducible first | refine x_item rfl ?_ | refine WE_neg ?_ | refine WE_bool ?_ | refine v_ifexp ?_ | refine WE_not ?_)
  | (refine WE_bitlen ?_)
  | ((with_reducible refine WE_of_WF ?_); wtm_at "m.wf"))
local macro_rules | `(tactic| wtm_at "m.wb") => `(tactic| with_reducible first | refine x_cmpB rfl rfl ?_ | refine v_not ?_ | refine WB_boolop ?_ | refine WB_name ?_)
local macro_rules | `(tactic| wtm_at "m.wbs") => `(tactic| with_reducible first | refine v_and ?_ | refine v_or ?_ | refine v_and_nil ?_ | refine v_or_nil ?_)
local macro_rules | `(tactic| wtm_at "m.wi") => `(tactic| first
  | ((with_reducible first | refine x_range1 (mgn_range ‹_›) ?hx rfl ?_ | refine x_range2 (mgn_range ‹_›) ?hx rfl rfl ?_ | refine x_range3 (mgn_range ‹_›) ?hx rfl rfl rfl ?_); (case hx => wtm_at "m.lk"))
  | with_reducible refine WI_list ?_)
local macro_rules | `(tactic| wtm_at "m.wit") => `(tactic| ((with_reducible first | refine x_enum (mgn_enumerate ‹_›) ?hx rfl ?_ | refine x_zip (mgn_zip ‹_›) ?hx rfl rfl ?_); (case hx => wtm_at "m.lk")))
local macro_rules | `(tactic| wtm_at "m.wp") => `(tactic| first
  | ((with_reducible first | refine' seqP_next ?hs ?_ | refine' seqC_next ?hs ?_); (case hs => wtm_at "m.norm"))
  | (with_reducible first | refine seqP_ret ?_ | refine loopPost_ret ?_ | refine seqC_ret ?_ | refine joinP_ret ?_ | refine retP_ret ?_ | refine ifP_t ?_ | refine ifP_f ?_ | refine notP_t ?_ | refine notP_f ?_)
  | (with_reducible first | refine BinP.mk _ _ _ rfl rfl sem_addN ?_ | refine BinP.mk _ _ _ rfl rfl sem_add1N ?_ | refine BinP.mk _ _ _ rfl rfl sem_maskN ?_ | refine BinP.mk _ _ _ rfl rfl (sem_orD ?_) ?_)
  | ((with_reducible refine BinP.mk _ _ _ rfl rfl (sem_subN ?hsb) ?_); (case hsb => wtm_at "m.ar"))
  | (with_reducible first | refine BinP.mk _ _ _ rfl rfl (sem_mulN ?_) ?_ | refine BinP.mk _ _ _ rfl rfl (sem_fdN ?_ ?_) ?_ | refine BinP.mk _ _ _ rfl rfl (sem_modN ?_) ?_ | refine BinP.mk _ _ _ rfl rfl (sem_shl1 ?_) ?_ | refine BinP.mk _ _ _ rfl rfl (sem_shlN ?_ ?_) ?_ | refine BinP.mk _ _ _ rfl rfl sem_shrN ?_ | refine BinP.mk _ _ _ rfl rfl (sem_powN ?_) ?_ | refine BinP.mk _ _ _ rfl rfl sem_add ?_ | refine BinP.mk _ _ _ rfl rfl sem_sub ?_ | refine BinP.mk _ _ _ rfl rfl sem_and ?_ | refine BinP.mk _ _ _ rfl rfl sem_or ?_ | refine BinP.mk _ _ _ rfl rfl (sem_mul ?_) ?_ | refine BinP.mk _ _ _ rfl rfl (sem_floordiv ?_ ?_) ?_ | refine BinP.mk _ _ _ rfl rfl (sem_mod ?_) ?_ | refine BinP.mk _ _ _ rfl rfl (sem_lshift ?_ ?_ ?_) ?_ | refine BinP.mk _ _ _ rfl rfl (sem_rshift ?_) ?_ | refine BinP.mk _ _ _ rfl rfl (sem_pow ?_ ?_ ?_) ?_)
  | (with_reducible first | refine AugP.mk _ _ rfl (inp_orD ?_) ?_ | refine AugP.mk _ _ rfl inp_addN ?_ | refine AugP.mk _ _ rfl inp_shrN ?_ | refine AugP.mk _ _ rfl inp_add ?_ | refine AugP.mk _ _ rfl inp_sub ?_ | refine AugP.mk _ _ rfl inp_or ?_ | refine AugP.mk _ _ rfl (inp_rshift ?_) ?_)
  | ((with_reducible refine CmpP.mk _ _ rfl rfl (fun hc => ?_) (fun hc => ?_)) <;> ((try simp only [icmp, nats_length, dg_length, Dig_length, rowL_length] at hc); (try (exfalso; omega))))
  | ((with_reducible refine' ItemP.mk _ _ _ rfl rfl ⟨?_, ?_⟩ ?el ?_); (case el => wtm_at "m.el"))
  | ((with_reducible refine' ItemO.mk _ _ _ ?hg rfl ⟨?_, ?_⟩ ?el ?_); (case hg => wtm_at "m.get"); (case el => wtm_at "m.el"))
  | ((with_reducible refine' ItemN.mk _ _ _ rfl rfl ⟨?_, ?_, ?_⟩ ?el ?_); (case el => wtm_at "m.el"))
  | ((with_reducible first | refine' AppP.mk _ ?hg ?_ ?_ | refine' SetI.mk _ _ rfl ?hg ⟨?_, ?_, ?_⟩ ?_ | refine' ⟨_, _, ?hg, ?_⟩ | refine' ⟨_, ?hg, ?_⟩); (case hg => wtm_at "m.get"))
  | (with_reducible first | refine Rng3.mk _ _ _ rfl rfl rfl ⟨?_, ?_, ?_⟩ ?_ | refine Rng1.mk _ rfl ⟨?_, ?_⟩ ?_ | refine Rng2.mk _ _ rfl rfl ⟨?_, ?_, ?_, ?_⟩ ?_ | refine UptoP.mk _ _ rfl rfl ?_ ?_ (fun _ => ?_) | refine RevP.mk _ rfl rfl ?_ (fun _ => ?_) | refine AllP.mk _ rfl ?_ (fun _ => ?_) | refine AddP.mk _ _ rfl rfl ?_ (fun _ => ?_) | refine MulP.mk _ _ rfl rfl ⟨?_, ?_⟩ (fun _ => ?_) | refine ListP.mk ?_ (fun _ => ?_) | refine ⟨_, _, rfl, rfl, ?_⟩ | refine ⟨_, rfl, ?_⟩ | refine LenP.mk _ rfl ?_ ?_)
  | ((with_reducible first | show _ < _ ∧ _ | show _ ≤ _ ∧ _); refine ⟨?_, ?_⟩))
local macro_rules | `(tactic| wtm_at "m.sp") => `(tactic| fail "spec")
local macro_rules | `(tactic| wtm_at "m.spec") => `(tactic| ((wtm_at "m.sp"); (case hkk => first | exact Nat.le_of_ble_eq_true rfl | (dsimp only; omega)); (try (case hi => exact rfl)); all_goals (try wtm_at "m.pre")))
local macro_rules | `(tactic| wtm_at "m.pre") => `(tactic| first
  | exact rfl
  | ((with_reducible show _ < _); first | assumption | (apply_assumption; done))
  | ((with_reducible first | show _ ≤ _ | show Sm _ | show _ ∣ _ | show ∀ _ : Nat, _ < _); assumption)
  | wtm_at "m.side")
local macro_rules | `(tactic| wtm_at "m.e") => `(tactic| first
  | ((with_reducible show CallK _ _ _ _ _ _); wtm_at "m.spec")
  | ((with_reducible show WE _ _ _ _ _); wtm_at "m.we")
  | ((with_reducible show WA _ _ _ _ _); wtm_at "m.wa")
  | ((with_reducible show W1 _ _ _ _ _); wtm_at "m.w1")
  | ((with_reducible show WB _ _ _ _ _); wtm_at "m.wb")
  | ((with_reducible show WBs _ _ _ _ _ _); wtm_at "m.wbs"))
local macro_rules | `(tactic| wtm_at "m.s") => `(tactic| first
  | wtm_at "m.e"
  | ((with_reducible show WS _ _ _ _ _); wtm_at "m.ws")
  | ((with_reducible show WI _ _ _ _ _); wtm_at "m.wi")
  | ((with_reducible show WIT _ _ _ _ _ _ _); wtm_at "m.wit")
  | wtm_at "m.wp")
local macro_rules | `(tactic| wtm_at "m.gx") => `(tactic| repeat' (first | wtm_at "m.e" | with_reducible refine WS_nil ?_ | wtm_at "m.wp"))
local macro_rules | `(tactic| wtm_at "m.one") => `(tactic| (wtm_at "m.ws"; wtm_at "m.gx"; all_goals (try wtm_at "m.side")))
local macro_rules | `(tactic| wtm_at "m.go") => `(tactic| repeat' wtm_at "m.s")
local macro_rules | `(tactic| wtm_at "m.ar") => `(tactic| ((try simp only [nats_length, dg_length, Dig_length, rowL_length, ofn_length, List.length_nil, List.length_cons, List.length_append, List.length_replicate, List.length_take, List.length_set, Int.toNat_natCast]) <;> first | omega | exact Int.natCast_nonneg _ | exact Int.le_trans (by decide) (Int.natCast_nonneg _) | (simp; done)))
local macro_rules | `(tactic| wtm_at "m.side") => `(tactic| first
  | ((with_reducible first | show @LE.le Nat _ _ _ | show @LT.lt Nat _ _ _ | show @LE.le Int _ _ _ | show @LT.lt Int _ _ _ | show @Eq Nat _ _ | show @Eq Int _ _ | show @Ne Int _ _); wtm_at "m.ar")
  | ((with_reducible show @Eq MV _ _); (with_reducible rfl))
  | ((with_reducible show _ ∨ _); first | (refine Or.inl ?_; wtm_at "m.ar") | (refine Or.inr ?_; wtm_at "m.ar")))
local macro_rules | `(tactic| wtm_at "m.run") => `(tactic| (wtm_at "m.go"; all_goals (try wtm_at "m.side")))
section
variable {G : GCtx} (S : Setup G) {Fs : FMap}
include S
theorem s_normal (hF : HF G Fs) {ds : List Nat} (hl : ds.length ≤ 100000) : CallOK G 20 Fs (.ref 46) [.list (nats ds)] (fun v => v = .list (nats (strip ds))) := by
  refine' callDefR S (i := 3) (f := 46) (c := 45) (k := 19) (ps := ["a"]) (by kernel_rfl) rfl (by kernel_rfl) (by exact fun _ _ _ => bind1 fun _ => rfl) rfl (zip_cons zip_nil) ?h
  case h =>

    wtm_at "m.run"
    refine v_while (Y := Nat) (fun e => [("a", .list (nats ds)), ("end", .int e)]) (fun e => e ≤ ds.length ∧ strip (ds.take e) = strip ds) id ?_ ?_
    · refine .intro ds.length ⟨Nat.le_refl _, by rw [List.take_length]⟩ ?_
      wtm_at "m.sub"
      rw [nats_length]
    · intro e ⟨he, hs⟩
      wtm_at "m.run"
      · rename_i h1 h2
        obtain ⟨e, rfl⟩ : ∃ n, e = n + 1 := ⟨e - 1, by omega⟩
        simp only [Nat.add_sub_cancel, Int.toNat_natCast] at h2
        refine loopPost_next (.intro e ⟨⟨by omega, ?_⟩, Nat.lt_succ_self _⟩ ?_)
        · have h3 : ds.getD e 0 = 0 := by exact_mod_cast h2
          rw [← hs, strip_step (by omega) h3]
        · wtm_at "m.sub"
          exact congrArg MV.int (by omega)
      · rename_i h1 h2 fa
        obtain ⟨e, rfl⟩ : ∃ n, e = n + 1 := ⟨e - 1, by omega⟩
        simp only [Nat.add_sub_cancel, Int.toNat_natCast] at h2
        have h3 : ds.getD e 0 ≠ 0 := by exact_mod_cast h2
        rw [Int.toNat_natCast, nats_take, ← hs, strip_done (by omega) h3]
      · rename_i h1 fa
        obtain rfl : e = 0 := by omega
        rw [← hs]; rfl
local macro_rules | `(tactic| wtm_at "m.sp") => `(tactic| refine' call_det (s_normal ‹_› ‹_› ?_) ?hkk ?_)
theorem s_compare (hF : HF G Fs) {w x y : Nat} (hw : 0 < w) (hx : Sm x) (hy : Sm y) : CallOK G 20 Fs (.ref 53) [R w x, R w y] (fun v => v = .int (cmpI x y)) := by
  refine' callDefR S (i := 4) (f := 53) (c := 52) (k := 19) (ps := ["a", "b"]) (by kernel_rfl) rfl (by kernel_rfl) (by exact fun _ _ _ => bind2 fun _ _ => rfl) rfl (zip_cons (zip_cons zip_nil)) ?h
  case h =>

    have lx := hx.len hw
    have ly := hy.len hw
    wtm_at "m.run"
    · rename_i h1 h2
      have : dlen w x < dlen w y := by omega
      rw [cmpI_lt (cmp_len hw this)]
    · rename_i h1 h2
      have : dlen w y < dlen w x := by omega
      rw [cmpI_gt (cmp_len hw this)]
    · rw [R_len]; exact small_down (by omega)
    · rename_i h1
      have e : dlen w x = dlen w y := by omega
      refine ⟨dlen w x, by rw [R_len]; exact size_down, ?_⟩
      refine ForK.down (Y := Unit) (dlen w x) (fun i _ => [("a", R w x), ("b", R w y)]) (fun i _ => ∀ j, dlen w x ≤ j + i → digit w x j = digit w y j) (by wtm_at "m.side") rfl ?_ ?_ ?_
      · refine .intro () (fun j hj => ?_) (by wtm_at "m.sub")
        rw [digit_beyond hw (by omega), digit_beyond hw (by omega)]
      · intro i hi _ hp
        wtm_at "m.run"
        · rename_i h1 h2
          rw [cmpI_lt (cmp_top (i := dlen w x - 1 - i) (fun j hj => hp j (by omega)) hw (by omega))]
        · rename_i h1 h2
          rw [cmpI_gt (cmp_top (i := dlen w x - 1 - i) (fun j hj => (hp j (by omega)).symm) hw (by omega))]
        · rename_i h1
          refine loopPost_next (.intro () (fun j hj => ?_) (by wtm_at "m.sub"))
          by_cases hj' : dlen w x ≤ j + i
          · exact hp j hj'
          · obtain rfl : j = dlen w x - 1 - i := by omega
            omega
      · intro _ σ' hp hs
        refine seqP_sub hs ?_
        wtm_at "m.run"
        rw [cmpI_eq (cmp_all hw fun j => hp j (by omega))]
local macro_rules | `(tactic| wtm_at "m.sp") => `(tactic| refine' call_det (s_compare ‹_› ‹_› ?_ ?_ ?_) ?hkk ?_)
theorem s_add (hF : HF G Fs) {a b w : Nat} (hw : 0 < w) (hw' : w ≤ 64) (ha : Sm a) (hb : Sm b) : CallOK G 20 Fs (.ref 60) [R w a, R w b, .int w] (fun v => v = R w (a + b)) := by
  refine' callDefR S (i := 5) (f := 60) (c := 59) (k := 19) (ps := ["a", "b", "w"]) (by kernel_rfl) rfl (by kernel_rfl) (by exact fun _ _ _ => bind3 fun _ _ _ => rfl) rfl (zip_cons (zip_cons (zip_cons zip_nil))) ?h
  case h =>

    have la := ha.len hw
    have lb := hb.len hw
    refine v_if_join (Y := Nat × Nat) (fun y => [("a", R w y.1), ("b", R w y.2), ("w", .int w)]) (fun y => dlen w y.2 ≤ dlen w y.1 ∧ Sm y.1 ∧ Sm y.2 ∧ y.1 + y.2 = a + b) ?_ ?_
    · wtm_at "m.run"
      · rename_i hc
        exact joinP_next (.intro (b, a) ⟨by dsimp only; omega, hb, ha, Nat.add_comm _ _⟩ (by wtm_at "m.sub"))
      · rename_i hc
        exact joinP_next (.intro (a, b) ⟨by dsimp only; omega, ha, hb, rfl⟩ (by wtm_at "m.sub"))
    · rintro ⟨x, y⟩ ⟨hle, hx, hy, hxy⟩
      dsimp only at hle hx hy hxy ⊢
      have lx := hx.len hw
      have ly := hy.len hw
      wtm_at "m.run"
      refine ForK.up0 (Y := Addr) (dlen w y) (fun i fa => [("a", R w x), ("b", R w y), ("w", .int w), ("mask", .int ((2 ^ w : Nat) - 1)), ("found", .own fa (nats (Dig w i (x + y)))), ("carry", .int ((x % P w i + y % P w i) / P w i : Nat))]) (fun _ _ => True) (by wtm_at "m.side") ?_ ?_ ?_
      · refine' .intro _ trivial ?h
        case h =>
          wtm_at "m.sub"
          · rw [carry_zero]; rfl
      · intro i hi fa _
        wtm_at "m.run"
        refine loopPost_next (.intro fa trivial ?_)
        wtm_at "m.sub"
        · refine congrArg MV.int ?_
          rw [← add_carry]
        · rw [nats_snoc (d := digit w (x + y) i) (by rw [← add_digit]), Dig_succ]
      · intro fa σ' _ hs
        refine seqP_sub hs ?_
        wtm_at "m.run"
        refine ForK.up (Y := Addr) (dlen w y) (dlen w x - dlen w y) (fun i fa => [("a", R w x), ("w", .int w), ("mask", .int ((2 ^ w : Nat) - 1)), ("found", .own fa (nats (Dig w (dlen w y + i) (x + y)))), ("carry", .int ((x % P w (dlen w y + i) + y % P w (dlen w y + i)) / P w (dlen w y + i) : Nat))]) (fun _ _ => True) (by wtm_at "m.side") (by wtm_at "m.side") ?_ ?_ ?_
        · refine' .intro fa trivial ?h
          case h => wtm_at "m.sub"
        · intro i hi fa _
          have hy0 := digit_beyond hw (show dlen w y ≤ dlen w y + i by omega)
          wtm_at "m.run"
          refine loopPost_next (.intro fa trivial ?_)
          wtm_at "m.sub"
          · refine congrArg MV.int ?_
            rw [← Nat.add_assoc, ← add_carry, hy0, Nat.add_zero]
          · rw [nats_snoc (d := digit w (x + y) (dlen w y + i)) (by rw [← add_digit, hy0, Nat.add_zero]), ← Nat.add_assoc, Dig_succ]
        · intro fa σ' _ hs
          rw [show dlen w y + (dlen w x - dlen w y) = dlen w x by omega] at hs
          refine seqP_sub hs ?_
          wtm_at "m.run"
          · rename_i hc
            show MV.list _ = R w (a + b)
            rw [← hxy, R, ← add_end_pos hw hle (pos_of hc), nats_append]; rfl
          · rename_i hc
            show MV.list _ = R w (a + b)
            rw [← hxy, R, ← add_end_zero hw hle (zero_of hc)]
local macro_rules | `(tactic| wtm_at "m.sp") => `(tactic| refine' call_det (s_add ‹_› ‹_› ?_ ?_ ?_ ?_) ?hkk ?_)
theorem s_sub (hF : HF G Fs) {w x y : Nat} (hw : 0 < w) (hw' : w ≤ 60) (hx : Sm x) (hy : y ≤ x) : CallOK G 21 Fs (.ref 67) [R w x, R w y, .int w] (fun v => v = R w (x - y)) := by
  refine' callDefR S (i := 6) (f := 67) (c := 66) (k := 20) (ps := ["a", "b", "w"]) (by kernel_rfl) rfl (by kernel_rfl) (by exact fun _ _ _ => bind3 fun _ _ _ => rfl) rfl (zip_cons (zip_cons (zip_cons zip_nil))) ?h
  case h =>
    have u0 : G.mg (Str.ofString "normal") = some (.ref 46) := mgAt S (i := 3) (c := 45) (by kernel_rfl)
    have u1 : G.mg (Str.ofString "compare") = some (.ref 53) := mgAt S (i := 4) (c := 52) (by kernel_rfl)
    have lx := hx.len hw
    have hy' := hx.mono hy
    have ly := hy'.len hw
    have lxy := dlen_mono hw hy
    wtm_at "m.run"
    · rename_i hc
      exact absurd (cmpI_neg.mp hc) (by omega)
    · refine ForK.up0 (Y := Addr) (dlen w x) (fun i fa => [("a", R w x), ("b", R w y), ("w", .int w), ("base", .int (2 ^ w : Nat)), ("found", .own fa (nats (Dig w i (x - y)))), ("borrow", .int (bor w x y i : Nat))]) (fun _ _ => True) (by wtm_at "m.side") ?_ ?_ ?_
      · refine' .intro _ trivial ?h
        case h =>
          wtm_at "m.sub"
          · rw [bor_zero]; rfl
      · intro i hi fa _
        have st := sub_step (w := w) (i := i) hy
        have hb1 := bor_le (w := w) (x := x) (y := y) (i := i)
        have hb2 := bor_le (w := w) (x := x) (y := y) (i := i + 1)
        have hd := digit_lt (w := w) (n := x - y) (i := i)
        wtm_at "m.ws"
        wtm_at "m.ws"
        wtm_at "m.w1"
        refine WE_bin (x_val (X := .int ((digit w x i : Int) - bor w x y i)) ?_ (x_val (X := .int (digit w y i)) ?_ ?_))
        · wtm_at "m.run"
          exact ⟨rfl, rfl⟩
        · wtm_at "m.run"
          · exact ⟨rfl, rfl⟩
          · rename_i hc
            rw [digit_beyond hw (by omega)]; exact ⟨rfl, rfl⟩
        · wtm_at "m.s"
          have hd' : (digit w (x - y) i : Int) < 2 ^ w := by exact_mod_cast hd
          rcases (show bor w x y (i + 1) = 0 ∨ bor w x y (i + 1) = 1 by omega) with e | e
          · rw [show (digit w x i : Int) - bor w x y i - digit w y i = digit w (x - y) i by rw [st, e]; simp]
            wtm_at "m.run"
            all_goals (try (exfalso; omega))
            refine loopPost_next (.intro fa trivial ?_)
            wtm_at "m.sub"
            · rw [e]; rfl
            · rw [nats_snoc rfl, Dig_succ]
          · rw [show (digit w x i : Int) - bor w x y i - digit w y i = digit w (x - y) i - 2 ^ w by rw [st, e]; simp]
            wtm_at "m.run"
            all_goals (try (exfalso; omega))
            refine loopPost_next (.intro fa trivial ?_)
            wtm_at "m.sub"
            · rw [e]; rfl
            · rw [nats_snoc (d := digit w (x - y) i) (by push_cast; omega), Dig_succ]
      · intro fa σ' _ hs
        refine seqP_sub hs ?_
        wtm_at "m.run"
        rw [strip_Dig hw (Nat.lt_of_le_of_lt (Nat.sub_le _ _) (lt_dlen hw))]
local macro_rules | `(tactic| wtm_at "m.sp") => `(tactic| refine' call_det (s_sub ‹_› ‹_› ?_ ?_ ?_ ?_) ?hkk ?_)
theorem s_shift_left (hF : HF G Fs) {w x n : Nat} {i : Int} (hi : i = n) (hw : 0 < w) (hw' : w ≤ 60) (hn : n ≤ 100000) (hx : Sm (x * 2 ^ n)) : CallOK G 21 Fs (.ref 74) [R w x, .int i, .int w] (fun v => v = R w (x * 2 ^ n)) := by
  subst hi
  refine' callDefR S (i := 7) (f := 74) (c := 73) (k := 20) (ps := ["a", "n", "w"]) (by kernel_rfl) rfl (by kernel_rfl) (by exact fun _ _ _ => bind3 fun _ _ _ => rfl) rfl (zip_cons (zip_cons (zip_cons zip_nil))) ?h
  case h =>

    have hxx : Sm x := hx.mono (Nat.le_mul_of_pos_right _ (Nat.two_pow_pos _))
    have lx := hxx.len hw
    have hnw : n / w ≤ 100000 := Nat.le_trans (Nat.div_le_self _ _) hn
    have hf := Nat.mod_lt n hw
    have hq0 : (0 : Int) ≤ (n : Int) / (w : Int) := Int.natCast_nonneg (n / w)
    have hr0 : (0 : Int) ≤ (n : Int) % (w : Int) := Int.natCast_nonneg (n % w)
    have hdd : ∀ j, digit w x j < 2 ^ 64 := fun j => Nat.lt_of_lt_of_le digit_lt (Nat.pow_le_pow_right (by decide) (by omega))
    wtm_at "m.run"
    · rename_i hc fa
      rw [dlen_eq_zero.mp (show dlen w x = 0 by omega), Nat.zero_mul, R_zero]
    · rename_i hc fa fb
      have hx0 : 0 < x := Nat.pos_of_ne_zero fun e => hc (by rw [e, dlen_zero]; rfl)
      refine ForK.nats (Y := Addr) (fun j fa => [("w", .int w), ("few", .int (n % w : Nat)), ("mask", .int ((2 ^ w : Nat) - 1)), ("found", .own fa (nats (List.replicate (n / w) 0 ++ Dig w j (x * 2 ^ (n % w))))), ("carry", .int ((x % P w j * 2 ^ (n % w)) / P w j : Nat))]) (fun _ _ => True) ?_ ?_ ?_
      · refine' .intro _ trivial ?h
        case h =>
          wtm_at "m.sub"
          · simp [P, Nat.mod_one]
          · rw [Int.toNat_natCast, nats_replicate, Dig_zero, List.append_nil]
      · intro j d hd fa _
        have hj : j < dlen w x := by have := (List.getElem?_eq_some_iff.mp hd).1; rwa [dg_length] at this
        rw [dg_get hj] at hd
        cases hd
        have := hdd j
        wtm_at "m.run"
        · exact shl_small
        · refine loopPost_next (.intro fa trivial ?_)
          wtm_at "m.sub"
          · rw [shl_carry hf]
          · rw [nats_snoc rfl, shl_digit hf, List.append_assoc, ← Dig_succ]
      · intro fa σ' _ hs
        rw [dg_length] at hs
        refine seqP_sub hs ?_
        wtm_at "m.run"
        · rename_i hc
          have := shl_end_pos hw hf (pos_of hc)
          rw [R, ← shift_split (w := w) (x := x) (n := n), ← dg_shift hw (Nat.mul_pos hx0 (Nat.two_pow_pos _)), ← this.1, ← List.append_assoc, ← nats_snoc rfl]
        · rename_i hc
          rw [R, ← shift_split (w := w) (x := x) (n := n), ← dg_shift hw (Nat.mul_pos hx0 (Nat.two_pow_pos _)), ← shl_end_zero hw hx0 hf (zero_of hc)]
local macro_rules | `(tactic| wtm_at "m.sp") => `(tactic| refine' call_det (s_shift_left ‹_› ‹_› ?hi ?_ ?_ ?_ ?_) ?hkk ?_)
theorem s_shift_right (hF : HF G Fs) {w x n : Nat} {i : Int} (hi : i = n) (hw : 0 < w) (hw' : w ≤ 60) (hn : n ≤ 100000) (hx : Sm x) : CallOK G 21 Fs (.ref 81) [R w x, .int i, .int w] (fun v => v = R w (x / 2 ^ n)) := by
  subst hi
  refine' callDefR S (i := 8) (f := 81) (c := 80) (k := 20) (ps := ["a", "n", "w"]) (by kernel_rfl) rfl (by kernel_rfl) (by exact fun _ _ _ => bind3 fun _ _ _ => rfl) rfl (zip_cons (zip_cons (zip_cons zip_nil))) ?h
  case h =>
    have u0 : G.mg (Str.ofString "normal") = some (.ref 46) := mgAt S (i := 3) (c := 45) (by kernel_rfl)
    have lx := hx.len hw
    have hdd : ∀ j, digit w x j < 2 ^ 64 := fun j => Nat.lt_of_lt_of_le digit_lt (Nat.pow_le_pow_right (by decide) (by omega))
    have hnw : n / w ≤ 100000 := Nat.le_trans (Nat.div_le_self _ _) hn
    have hf := Nat.mod_lt n hw
    have hq0 : (0 : Int) ≤ (n : Int) / (w : Int) := Int.natCast_nonneg (n / w)
    have hr0 : (0 : Int) ≤ (n : Int) % (w : Int) := Int.natCast_nonneg (n % w)
    wtm_at "m.run"
    refine ForK.up (Y := Addr) (n / w) (dlen w x - n / w) (fun j fa => [("a", R w x), ("w", .int w), ("few", .int (n % w : Nat)), ("mask", .int ((2 ^ w : Nat) - 1)), ("found", .own fa (nats (Dig w j (x / 2 ^ n))))]) (fun _ _ => True) rfl (by rw [R_len]; omega) ?_ ?_ ?_
    · refine' .intro _ trivial ?h
      case h => wtm_at "m.sub"
    · intro j hj fa _
      have hd1 := hdd (n / w + j + 1)
      wtm_at "m.ws"
      wtm_at "m.ws"
      refine x_assign rfl (by wtm_at "m.st") (x_val (X := .int (digit w x (n / w + j + 1))) ?_ ?_)
      · wtm_at "m.run"
        · exact ⟨rfl, rfl⟩
        · rename_i hc
          rw [digit_beyond hw (by omega)]; exact ⟨rfl, rfl⟩
      wtm_at "m.run"
      · refine Nat.div_lt_of_lt_mul ?_
        rw [← Nat.pow_add, show n % w + (w - n % w) = w by omega]
        exact digit_lt
      · refine loopPost_next (.intro fa trivial ?_)
        wtm_at "m.sub"
        have := shr_digit (x := x) (s := n / w) (j := j) hf
        rw [Nat.div_add_mod] at this
        rw [nats_snoc rfl, this, ← Dig_succ]
    · intro fa σ' _ hs
      refine seqP_sub hs ?_
      wtm_at "m.run"
      rw [R, ← strip_Dig hw (shr_lt hw)]
local macro_rules | `(tactic| wtm_at "m.sp") => `(tactic| refine' call_det (s_shift_right ‹_› ‹_› ?hi ?_ ?_ ?_ ?_) ?hkk ?_)
theorem s_bits (hF : HF G Fs) {w x : Nat} (hw : 0 < w) (hw' : w ≤ 60) (hx : Sm x) : CallOK G 21 Fs (.ref 88) [R w x, .int w] (fun v => v = .int (bitlen x)) := by
  refine' callDefR S (i := 9) (f := 88) (c := 87) (k := 20) (ps := ["a", "w"]) (by kernel_rfl) rfl (by kernel_rfl) (by exact fun _ _ _ => bind2 fun _ _ => rfl) rfl (zip_cons (zip_cons zip_nil)) ?h
  case h =>

    have lx := hx.len hw
    wtm_at "m.run"
    · rename_i hc
      have hx0 : 0 < x := Nat.pos_of_ne_zero fun e => by rw [e, dlen_zero] at hc; exact absurd hc (by decide)
      refine congrArg MV.int ?_
      rw [R_len, show (-1 + (dlen w x : Int)).toNat = dlen w x - 1 by omega, intBits_nat, ← bits_eq hw hx0]
    · rename_i hc
      rw [dlen_eq_zero.mp (show dlen w x = 0 by omega)]; rfl
local macro_rules | `(tactic| wtm_at "m.sp") => `(tactic| refine' call_det (s_bits ‹_› ‹_› ?_ ?_ ?_) ?hkk ?_)
theorem s_low (hF : HF G Fs) {w x n : Nat} {i : Int} (hi : i = n) (hw : 0 < w) (hw' : w ≤ 60) (hn : n ≤ 100000) (hx : Sm x) : CallOK G 21 Fs (.ref 95) [R w x, .int i, .int w] (fun v => v = R w (x % 2 ^ n)) := by
  subst hi
  refine' callDefR S (i := 10) (f := 95) (c := 94) (k := 20) (ps := ["a", "n", "w"]) (by kernel_rfl) rfl (by kernel_rfl) (by exact fun _ _ _ => bind3 fun _ _ _ => rfl) rfl (zip_cons (zip_cons (zip_cons zip_nil))) ?h
  case h =>
    have u0 : G.mg (Str.ofString "normal") = some (.ref 46) := mgAt S (i := 3) (c := 45) (by kernel_rfl)
    have lx := hx.len hw
    have hdd : ∀ j, digit w x j < 2 ^ 64 := fun j => Nat.lt_of_lt_of_le digit_lt (Nat.pow_le_pow_right (by decide) (by omega))
    have hnw : n / w ≤ 100000 := Nat.le_trans (Nat.div_le_self _ _) hn
    have hf := Nat.mod_lt n hw
    have hq0 : (0 : Int) ≤ (n : Int) / (w : Int) := Int.natCast_nonneg (n / w)
    have hr0 : (0 : Int) ≤ (n : Int) % (w : Int) := Int.natCast_nonneg (n % w)
    wtm_at "m.run"
    · rename_i hc fa
      have hc' : dlen w x ≤ n / w := Int.ofNat_le.mp hc
      rw [R, low_big hw hc']
    rename_i hc fa fb fc
    rw [Int.toNat_natCast, nats_take, nats_snoc rfl]
    wtm_at "m.run"
    rw [dg, Dig_take (by omega), low_digits hw, strip_Dig hw (low_lt hw)]
local macro_rules | `(tactic| wtm_at "m.sp") => `(tactic| refine' call_det (s_low ‹_› ‹_› ?hi ?_ ?_ ?_ ?_) ?hkk ?_)
theorem s_ring_one (hF : HF G Fs) {w n : Nat} {i : Int} (hi : i = n) (hw : 0 < w) (hw' : w ≤ 60) (hn : n ≤ 500) : CallOK G 22 Fs (.ref 102) [.int i, .int w] (fun v => v = R w (M n)) := by
  subst hi
  refine' callDefR S (i := 12) (f := 102) (c := 101) (k := 21) (ps := ["n", "w"]) (by kernel_rfl) rfl (by kernel_rfl) (by exact fun _ _ _ => bind2 fun _ _ => rfl) rfl (zip_cons (zip_cons zip_nil)) ?h
  case h =>
    have u0 : G.mg (Str.ofString "add") = some (.ref 60) := mgAt S (i := 5) (c := 59) (by kernel_rfl)
    have u1 : G.mg (Str.ofString "shift_left") = some (.ref 74) := mgAt S (i := 7) (c := 73) (by kernel_rfl)
    have h1 : Sm (1 * 2 ^ n) := Sm.of (k := n + 1) (by rw [Nat.one_mul]; exact Nat.pow_lt_pow_right (by decide) (Nat.lt_succ_self _)) (by show n + 1 ≤ 1000; omega)
    have h2 : Sm 1 := Sm.of (k := 1) (by decide) (by decide)
    wtm_at "m.run"
    rw [R_one hw]
    wtm_at "m.run"
    rw [R_one hw]
    wtm_at "m.run"
    rw [Nat.one_mul]
local macro_rules | `(tactic| wtm_at "m.sp") => `(tactic| refine' call_det (s_ring_one ‹_› ‹_› ?hi ?_ ?_ ?_) ?hkk ?_)
theorem s_ring_add (hF : HF G Fs) {w n a b : Nat} {i : Int} (hi : i = n) (hw : 0 < w) (hw' : w ≤ 60) (hn : n ≤ 500) (ha : a < M n) (hb : b < M n) : CallOK G 23 Fs (.ref 109) [R w a, R w b, .int i, .int w] (fun v => v = R w ((a + b) % M n)) := by
  subst hi
  refine' callDefR S (i := 13) (f := 109) (c := 108) (k := 22) (ps := ["a", "b", "n", "w"]) (by kernel_rfl) rfl (by kernel_rfl) (by exact fun _ _ _ => bind4 fun _ _ _ _ => rfl) rfl (zip_cons (zip_cons (zip_cons (zip_cons zip_nil)))) ?h
  case h =>
    have u0 : G.mg (Str.ofString "add") = some (.ref 60) := mgAt S (i := 5) (c := 59) (by kernel_rfl)
    have u1 : G.mg (Str.ofString "sub") = some (.ref 67) := mgAt S (i := 6) (c := 66) (by kernel_rfl)
    have u2 : G.mg (Str.ofString "ring_one") = some (.ref 102) := mgAt S (i := 12) (c := 101) (by kernel_rfl)
    have u3 : G.mg (Str.ofString "bits") = some (.ref 88) := mgAt S (i := 9) (c := 87) (by kernel_rfl)
    have u4 : G.mg (Str.ofString "compare") = some (.ref 53) := mgAt S (i := 4) (c := 52) (by kernel_rfl)
    have hsa := Sm.ofM hn ha
    have hsb := Sm.ofM hn hb
    have hM : M n ≤ 2 ^ (n + 1) := M_le (Nat.le_refl _)
    have hsM : Sm (M n) := Sm.of (k := n + 2) (Nat.lt_of_le_of_lt hM (Nat.pow_lt_pow_right (by decide) (Nat.lt_succ_self _))) (by show n + 2 ≤ 1000; omega)
    have hsum : Sm (a + b) := Sm.of (k := n + 2) (by rw [Nat.pow_succ]; omega) (by show n + 2 ≤ 1000; omega)
    wtm_at "m.run"
    · exact cmpI_nonneg.mp (by assumption)
    · rename_i hc
      rw [radd_eq ha hb, if_pos (cmpI_nonneg.mp hc)]
    · rename_i hc
      rw [radd_eq ha hb, if_neg fun h => hc (cmpI_nonneg.mpr h)]
    · rename_i hc
      have h3 : a + b < 2 ^ n := lt_of_bitlen (by omega)
      rw [Nat.mod_eq_of_lt (by show a + b < 2 ^ n + 1; omega)]
local macro_rules | `(tactic| wtm_at "m.sp") => `(tactic| refine' call_det (s_ring_add ‹_› ‹_› ?hi ?_ ?_ ?_ ?_ ?_) ?hkk ?_)
theorem s_ring_sub (hF : HF G Fs) {w n a b : Nat} {i : Int} (hi : i = n) (hw : 0 < w) (hw' : w ≤ 60) (hn : n ≤ 500) (ha : a < M n) (hb : b < M n) : CallOK G 23 Fs (.ref 116) [R w a, R w b, .int i, .int w] (fun v => v = R w (rsub n a b)) := by
  subst hi
  refine' callDefR S (i := 14) (f := 116) (c := 115) (k := 22) (ps := ["a", "b", "n", "w"]) (by kernel_rfl) rfl (by kernel_rfl) (by exact fun _ _ _ => bind4 fun _ _ _ _ => rfl) rfl (zip_cons (zip_cons (zip_cons (zip_cons zip_nil)))) ?h
  case h =>
    have u0 : G.mg (Str.ofString "sub") = some (.ref 67) := mgAt S (i := 6) (c := 66) (by kernel_rfl)
    have u1 : G.mg (Str.ofString "compare") = some (.ref 53) := mgAt S (i := 4) (c := 52) (by kernel_rfl)
    have u2 : G.mg (Str.ofString "add") = some (.ref 60) := mgAt S (i := 5) (c := 59) (by kernel_rfl)
    have u3 : G.mg (Str.ofString "ring_one") = some (.ref 102) := mgAt S (i := 12) (c := 101) (by kernel_rfl)
    have hsa := Sm.ofM hn ha
    have hsb := Sm.ofM hn hb
    have hM : M n ≤ 2 ^ (n + 1) := M_le (Nat.le_refl _)
    have hsM : Sm (M n) := Sm.of (k := n + 2) (Nat.lt_of_le_of_lt hM (Nat.pow_lt_pow_right (by decide) (Nat.lt_succ_self _))) (by show n + 2 ≤ 1000; omega)
    have hsum : Sm (a + M n) := Sm.of (k := n + 2) (by rw [Nat.pow_succ]; omega) (by show n + 2 ≤ 1000; omega)
    wtm_at "m.run"
    · exact cmpI_nonneg.mp (by assumption)
    · rename_i hc
      rw [rsub_eq ha hb, if_pos (cmpI_nonneg.mp hc)]
    · rename_i hc
      rw [rsub_eq ha hb, if_neg fun h => hc (cmpI_nonneg.mpr h)]
local macro_rules | `(tactic| wtm_at "m.sp") => `(tactic| refine' call_det (s_ring_sub ‹_› ‹_› ?hi ?_ ?_ ?_ ?_ ?_) ?hkk ?_)
theorem s_ring_neg (hF : HF G Fs) {w n a : Nat} {i : Int} (hi : i = n) (hw : 0 < w) (hw' : w ≤ 60) (hn : n ≤ 500) (ha : a ≤ M n) : CallOK G 23 Fs (.ref 123) [R w a, .int i, .int w] (fun v => v = R w (rneg n a)) := by
  subst hi
  refine' callDefR S (i := 15) (f := 123) (c := 122) (k := 22) (ps := ["a", "n", "w"]) (by kernel_rfl) rfl (by kernel_rfl) (by exact fun _ _ _ => bind3 fun _ _ _ => rfl) rfl (zip_cons (zip_cons (zip_cons zip_nil))) ?h
  case h =>
    have u0 : G.mg (Str.ofString "sub") = some (.ref 67) := mgAt S (i := 6) (c := 66) (by kernel_rfl)
    have u1 : G.mg (Str.ofString "ring_one") = some (.ref 102) := mgAt S (i := 12) (c := 101) (by kernel_rfl)
    have hM : M n ≤ 2 ^ (n + 1) := M_le (Nat.le_refl _)
    have hsM : Sm (M n) := Sm.of (k := n + 2) (Nat.lt_of_le_of_lt hM (Nat.pow_lt_pow_right (by decide) (Nat.lt_succ_self _))) (by show n + 2 ≤ 1000; omega)
    have hsa := hsM.mono ha
    have la := hsa.len hw
    wtm_at "m.run"
    · rename_i hc
      have h0 : 0 < a := Nat.pos_of_ne_zero fun e => by rw [e, dlen_zero] at hc; exact absurd hc (by decide)
      rw [rneg_eq ha, if_pos h0]
    · rename_i hc fa
      have h0 : a = 0 := dlen_eq_zero.mp (show dlen w a = 0 by omega)
      rw [rneg_eq ha, if_neg (by omega), R_zero]
local macro_rules | `(tactic| wtm_at "m.sp") => `(tactic| refine' call_det (s_ring_neg ‹_› ‹_› ?hi ?_ ?_ ?_ ?_) ?hkk ?_)
theorem s_ring_fold (hF : HF G Fs) {w n a : Nat} {i : Int} (hi : i = n) (hw : 0 < w) (hw' : w ≤ 60) (hn0 : 0 < n) (hn : n ≤ 500) (ha : Sm a) : CallOK G 24 Fs (.ref 130) [R w a, .int i, .int w] (fun v => v = R w (a % M n)) := by
  subst hi
  refine' callDefR S (i := 16) (f := 130) (c := 129) (k := 23) (ps := ["a", "n", "w"]) (by kernel_rfl) rfl (by kernel_rfl) (by exact fun _ _ _ => bind3 fun _ _ _ => rfl) rfl (zip_cons (zip_cons (zip_cons zip_nil))) ?h
  case h =>
    have u0 : G.mg (Str.ofString "low") = some (.ref 95) := mgAt S (i := 10) (c := 94) (by kernel_rfl)
    have u1 : G.mg (Str.ofString "shift_right") = some (.ref 81) := mgAt S (i := 8) (c := 80) (by kernel_rfl)
    have u2 : G.mg (Str.ofString "ring_sub") = some (.ref 116) := mgAt S (i := 14) (c := 115) (by kernel_rfl)
    have u3 : G.mg (Str.ofString "ring_add") = some (.ref 109) := mgAt S (i := 13) (c := 108) (by kernel_rfl)
    wtm_at "m.run"
    refine' W1_freeze (x := "found") ?hg ?hs ?_
    case hg => wtm_at "m.get"
    case hs => wtm_at "m.set"
    rw [← R_zero (w := w)]
    refine v_while (Y := Nat × Nat × Bool) (fun y => [("a", R w y.1), ("n", .int n), ("w", .int w), ("found", R w y.2.1), ("is_minus", .bool y.2.2)])
      (fun y => Sm y.1 ∧ y.2.1 < M n ∧ Cg n a (if y.2.2 = true then (y.2.1 : Int) - y.1 else (y.2.1 : Int) + y.1)) (fun y => y.1) ?_ ?_
    · exact .intro (a, 0, false) ⟨ha, M_pos, .of (by simp)⟩ (by wtm_at "m.sub")
    · rintro ⟨x, f, s⟩ ⟨hx, hf, hc⟩
      dsimp only at hx hf hc ⊢
      have lx := hx.len hw
      have hl : x % 2 ^ n < M n := Nat.lt_succ_of_lt (Nat.mod_lt _ (Nat.two_pow_pos _))
      have hs : Sm (x / 2 ^ n) := hx.mono (Nat.div_le_self _ _)
      have hx0 : ∀ {hc : 0 < (dlen w x : Int)}, x / 2 ^ n < x := fun {hc} => by
        have h0 : 0 < x := Nat.pos_of_ne_zero fun e => by rw [e, dlen_zero] at hc; exact absurd hc (by decide)
        exact Nat.div_lt_self h0 (Nat.one_lt_two_pow (by omega))
      have hx1 : ∀ {hc : ¬ 0 < (dlen w x : Int)}, x = 0 := fun {hc} => dlen_eq_zero.mp (show dlen w x = 0 by omega)
      cases s
      · wtm_at "m.run"
        · rename_i h0
          refine loopPost_next (.intro (x / 2 ^ n, (f + x % 2 ^ n) % M n, true) ⟨⟨hs, Nat.mod_lt _ M_pos, ?_⟩, hx0 (hc := h0)⟩ (by wtm_at "m.sub"))
          dsimp only
          rw [if_pos rfl]
          rw [if_neg (by decide)] at hc
          refine hc.trans (.trans (.add (.refl _) fold_step) (.trans (.of ?_) (.sub (Cg.mod _).symm (.refl _))))
          push_cast; omega
        · rename_i h0
          have e := hx1 (hc := h0)
          subst e
          rw [if_neg (by decide)] at hc
          rw [Cg.mod_eq (n := n) (b := f) (hc.trans (.of (by simp))), Nat.mod_eq_of_lt hf]
      · wtm_at "m.run"
        · rename_i h0
          refine loopPost_next (.intro (x / 2 ^ n, rsub n f (x % 2 ^ n), false) ⟨⟨hs, rsub_lt, ?_⟩, hx0 (hc := h0)⟩ (by wtm_at "m.sub"))
          dsimp only
          rw [if_neg (by decide)]
          rw [if_pos rfl] at hc
          refine hc.trans (.trans (.sub (.refl _) fold_step) (.trans (.of ?_) (.add (Cg.rsub (Nat.le_of_lt hl)).symm (.refl _))))
          push_cast; omega
        · rename_i h0
          have e := hx1 (hc := h0)
          subst e
          rw [if_pos rfl] at hc
          rw [Cg.mod_eq (n := n) (b := f) (hc.trans (.of (by simp))), Nat.mod_eq_of_lt hf]
local macro_rules | `(tactic| wtm_at "m.sp") => `(tactic| refine' call_det (s_ring_fold ‹_› ‹_› ?hi ?_ ?_ ?_ ?_ ?_) ?hkk ?_)
theorem s_ring_shift0 (hF : HF G Fs) {w n a k : Nat} {i j : Int} (hi : i = n) (hj : (j % (2 * n : Nat)) = k) (hk : k < n) (hw : 0 < w) (hw' : w ≤ 60) (hn : n ≤ 400) (ha : a < M n) : CallOK G 25 Fs (.ref 137) [R w a, .int j, .int i, .int w] (fun v => v = R w (a * 2 ^ k % M n)) := by
  subst hi
  refine' callDefR S (i := 17) (f := 137) (c := 136) (k := 24) (ps := ["a", "k", "n", "w"]) (by kernel_rfl) rfl (by kernel_rfl) (by exact fun _ _ _ => bind4 fun _ _ _ _ => rfl) rfl (zip_cons (zip_cons (zip_cons (zip_cons zip_nil)))) ?h
  case h =>
    have u0 : G.mg (Str.ofString "ring_fold") = some (.ref 130) := mgAt S (i := 16) (c := 129) (by kernel_rfl)
    have u1 : G.mg (Str.ofString "ring_neg") = some (.ref 123) := mgAt S (i := 15) (c := 122) (by kernel_rfl)
    have u2 : G.mg (Str.ofString "shift_left") = some (.ref 74) := mgAt S (i := 7) (c := 73) (by kernel_rfl)
    have u3 : G.mg (Str.ofString "ring_shift") = some (.ref 137) := mgAt S (i := 17) (c := 136) (by kernel_rfl)
    have hs : Sm (a * 2 ^ k) := Sm.shl ha (by omega)
    wtm_at "m.ws"
    refine x_assign rfl (by wtm_at "m.st") (x_val (X := .int k) ?_ ?_)
    · wtm_at "m.run"
      exact ⟨congrArg MV.int hj, rfl⟩
    wtm_at "m.run"
    all_goals (exfalso; omega)
theorem s_ring_shift (hF : HF G Fs) {w n a : Nat} {i j : Int} (hi : i = n) (hw : 0 < w) (hw' : w ≤ 60) (hn0 : 0 < n) (hn : n ≤ 400) (ha : a < M n) : CallOK G 26 Fs (.ref 137) [R w a, .int j, .int i, .int w] (fun v => v = R w (rsh n a j)) := by
  subst hi
  refine' callDefR S (i := 17) (f := 137) (c := 136) (k := 25) (ps := ["a", "k", "n", "w"]) (by kernel_rfl) rfl (by kernel_rfl) (by exact fun _ _ _ => bind4 fun _ _ _ _ => rfl) rfl (zip_cons (zip_cons (zip_cons (zip_cons zip_nil)))) ?h
  case h =>
    have u0 : G.mg (Str.ofString "ring_fold") = some (.ref 130) := mgAt S (i := 16) (c := 129) (by kernel_rfl)
    have u1 : G.mg (Str.ofString "ring_neg") = some (.ref 123) := mgAt S (i := 15) (c := 122) (by kernel_rfl)
    have u2 : G.mg (Str.ofString "shift_left") = some (.ref 74) := mgAt S (i := 7) (c := 73) (by kernel_rfl)
    have u3 : G.mg (Str.ofString "ring_shift") = some (.ref 137) := mgAt S (i := 17) (c := 136) (by kernel_rfl)
    obtain ⟨k, hk⟩ := Int.eq_ofNat_of_zero_le (Int.emod_nonneg j (show ((2 * n : Nat) : Int) ≠ 0 by omega))
    have hk2 : k < 2 * n := by have := Int.emod_lt_of_pos j (show (0 : Int) < (2 * n : Nat) by omega); omega
    have hr : rsh n a j = a * 2 ^ k % M n := by rw [rsh, hk, Int.toNat_natCast]
    rw [hr]
    have hs : k < n → Sm (a * 2 ^ k) := fun h => Sm.shl ha (by omega)
    wtm_at "m.ws"
    refine x_assign rfl (by wtm_at "m.st") (x_val (X := .int k) ?_ ?_)
    · wtm_at "m.run"
      exact ⟨congrArg MV.int hk, rfl⟩
    by_cases hkn : n ≤ k
    · wtm_at "m.run"
      · refine call_det (s_ring_shift0 S hF (k := k - n) rfl (Int.emod_eq_of_lt (by omega) (by omega)) (by omega) hw hw' hn ha) (Nat.le_of_ble_eq_true rfl) ?_
        wtm_at "m.run"
        · exact Nat.le_of_lt (Nat.mod_lt _ M_pos)
        · rw [rsh_high hkn]
      all_goals (exfalso; omega)
    · have := hs (by omega)
      wtm_at "m.run"
      all_goals (exfalso; omega)
local macro_rules | `(tactic| wtm_at "m.sp") => `(tactic| refine' call_det (s_ring_shift ‹_› ‹_› ?hi ?_ ?_ ?_ ?_ ?_) ?hkk ?_)
theorem s_ring_mul (hF : HF G Fs) {w n a b km : Nat} {f : Addr} {i : Int} (hi : i = n) (hf : FnF Fs f) (hkm : 24 ≤ km) (hm : CallOK G km Fs (.ref f) [R w a, R w b, .int w] (fun v => ∃ z, v = R w z ∧ Sm z ∧ z % M n = a * b % M n)) (hw : 0 < w) (hw' : w ≤ 60) (hn0 : 0 < n) (hn : n ≤ 400) :
    CallOK G (km + 1) Fs (.ref 144) [R w a, R w b, .int i, .int w, .raw (.ref f)] (fun v => v = R w (a * b % M n)) := by
  subst hi
  refine' callDefR S (i := 18) (f := 144) (c := 143) (k := km) (ps := ["a", "b", "n", "w", "mul"]) (by kernel_rfl) rfl (by kernel_rfl) (by exact fun _ _ _ => bind5 fun _ _ _ _ _ => rfl) rfl (zip_cons (zip_cons (zip_cons (zip_cons (zip_cons zip_nil))))) ?h
  case h =>
    have u0 : G.mg (Str.ofString "ring_fold") = some (.ref 130) := mgAt S (i := 16) (c := 129) (by kernel_rfl)
    wtm_at "m.run"
    refine call_any hm (Nat.le_refl _) ?_
    rintro v ⟨z, rfl, hz, e⟩
    wtm_at "m.run"
    rw [e]
theorem s_forward (hF : HF G Fs) {w n l : Nat} {f : Nat → Nat} {i : Int} (hi : i = n) (hw : 0 < w) (hw' : w ≤ 60) (hn0 : 0 < n) (hn : n ≤ 400) (hl : l ≤ 10) (hd : 2 ^ l ∣ n) (hf : ∀ p, f p < M n) :
    CallOK G 27 Fs (.ref 151) [.list (rowL w (2 ^ l) f), .int i, .int w] (fun v => v = .list (rowL w (2 ^ l) (fwd n l f))) := by
  subst hi
  refine' callDefR S (i := 19) (f := 151) (c := 150) (k := 26) (ps := ["row", "n", "w"]) (by kernel_rfl) rfl (by kernel_rfl) (by exact fun _ _ _ => bind3 fun _ _ _ => rfl) rfl (zip_cons (zip_cons (zip_cons zip_nil))) ?h
  case h =>
    have u0 : G.mg (Str.ofString "ring_add") = some (.ref 109) := mgAt S (i := 13) (c := 108) (by kernel_rfl)
    have u1 : G.mg (Str.ofString "ring_shift") = some (.ref 137) := mgAt S (i := 17) (c := 136) (by kernel_rfl)
    have u2 : G.mg (Str.ofString "ring_sub") = some (.ref 116) := mgAt S (i := 14) (c := 115) (by kernel_rfl)
    have hL : 2 ^ l ≤ 1024 := Nat.pow_le_pow_right (n := 2) (by decide) hl
    have hL0 := Nat.two_pow_pos l
    wtm_at "m.run"
    rename_i fa
    refine v_while (Y := Nat × Nat × (Nat → Nat)) (fun y => [("n", .int n), ("w", .int w), ("found", .own fa (rowL w (2 ^ l) y.2.2)), ("half", .int ((2 ^ y.1 / 2 : Nat) : Int)), ("step", .int (y.2.1 : Nat))])
      (fun y => y.1 ≤ l ∧ y.2.1 * 2 ^ y.1 = 2 * n ∧ (∀ p, y.2.2 p < M n) ∧ fwd n y.1 y.2.2 = fwd n l f) (fun y => y.1) ?_ ?_
    · refine .intro (l, 2 * n / 2 ^ l, f) ⟨Nat.le_refl _, Nat.div_mul_cancel (Nat.dvd_trans hd ⟨2, Nat.mul_comm _ _⟩), hf, rfl⟩ ?_
      wtm_at "m.sub"
      · rw [rowL_length]
      · rw [rowL_length]
    · rintro ⟨j, st, cur⟩ ⟨hj, hst, hcur, hfw⟩
      dsimp only at hj hst hcur hfw ⊢
      cases j with
      | zero =>
        rw [show 2 ^ 0 / 2 = 0 from rfl]
        wtm_at "m.run"
        rw [← hfw]; rfl
      | succ j =>
        have e2 : 2 ^ (j + 1) = 2 * 2 ^ j := by rw [Nat.pow_succ, Nat.mul_comm]
        rw [e2, Nat.mul_div_cancel_left _ (by decide : 0 < 2)]
        have h0 := Nat.two_pow_pos j
        have hle : 2 ^ (j + 1) ≤ 2 ^ l := Nat.pow_le_pow_right (by decide) hj
        have hNL : 2 * 2 ^ j * 2 ^ (l - (j + 1)) = 2 ^ l := by rw [← e2, ← Nat.pow_add]; congr 1; omega
        generalize hN : 2 ^ (l - (j + 1)) = N at hNL
        have hst' : st * 2 ^ j = n := by rw [e2, Nat.mul_left_comm] at hst; omega
        have hdiv : n / 2 ^ j = st := by rw [← hst', Nat.mul_div_cancel _ h0]
        have hstn : st ≤ 400 := Nat.le_trans (Nat.le_of_dvd hn0 ⟨2 ^ j, hst'.symm⟩) hn
        wtm_at "m.run"
        · rw [rowL_length]; exact small_upN (K := 2 * 2 ^ j) (by omega) (by omega) (by omega)
        refine ⟨N, by rw [rowL_length, ← hNL]; exact size_up (by omega), ?_⟩
        refine ForK.stride (Y := Unit) (2 * 2 ^ j) N (fun B _ => [("n", .int n), ("w", .int w), ("found", .own fa (rowL w (2 ^ l) (mix (stF n (2 ^ j) cur) cur (2 ^ j) B 0))), ("half", .int ((2 ^ j : Nat) : Int)), ("step", .int (st : Nat))]) (fun _ _ => True) rfl rfl ?_ ?_ ?_
        · refine .intro () trivial ?_
          wtm_at "m.sub"
          rw [mix_start]
        · intro B hB _ _
          have hpl : 2 * 2 ^ j * B + 2 * 2 ^ j ≤ 2 ^ l := by
            have := Nat.mul_le_mul_left (2 * 2 ^ j) (Nat.succ_le_of_lt hB)
            rw [hNL, Nat.succ_eq_add_one, Nat.mul_add] at this; omega
          wtm_at "m.run"
          refine ForK.up0 (Y := Unit) (2 ^ j) (fun a _ => [("n", .int n), ("w", .int w), ("begin", .int ((2 * 2 ^ j * B : Nat) : Int)), ("found", .own fa (rowL w (2 ^ l) (mix (stF n (2 ^ j) cur) cur (2 ^ j) B a))), ("half", .int ((2 ^ j : Nat) : Int)), ("step", .int (st : Nat))]) (fun _ _ => True) (by wtm_at "m.side") ?_ ?_ ?_
          · exact .intro () trivial (by wtm_at "m.sub")
          · intro a ha _ _
            obtain ⟨m1, m2⟩ := mix_at (S := stF n (2 ^ j) cur) (cur := cur) (B := B) ha
            have hcl : ∀ p, mix (stF n (2 ^ j) cur) cur (2 ^ j) B a p < M n := fun p => mix_lt (fun p => stF_lt) hcur
            have hrs : ∀ {x y}, rsub n x y < M n := rsub_lt
            wtm_at "m.run"
            refine loopPost_next (.intro () trivial ?_)
            wtm_at "m.sub"
            rw [Int.toNat_natCast, Int.toNat_natCast, rowL_set, rowL_set, m1, m2, ← stF_low ha, ← hdiv, ← stF_high ha, mix_step ha]
          · intro _ σ' _ hs
            rw [mix_block h0] at hs
            refine seqP_sub hs ?_
            wtm_at "m.run"
            exact loopPost_next (.intro () trivial (by wtm_at "m.sub"))
        · intro _ σ' _ hs
          refine seqP_sub hs ?_
          wtm_at "m.run"
          refine loopPost_next (.intro (j, 2 * st, stF n (2 ^ j) cur) ⟨⟨by omega, by rw [Nat.mul_assoc, hst'], fun _ => stF_lt, hfw⟩, Nat.lt_succ_self _⟩ ?_)
          wtm_at "m.sub"
          rw [rowL_congr fun p hp => mix_end h0 (by rw [hNL]; exact hp)]
local macro_rules | `(tactic| wtm_at "m.sp") => `(tactic| refine' call_det (s_forward ‹_› ‹_› ?hi ?_ ?_ ?_ ?_ ?_ ?_ ?_) ?hkk ?_)
theorem s_backward (hF : HF G Fs) {w n l : Nat} {f : Nat → Nat} {i : Int} (hi : i = n) (hw : 0 < w) (hw' : w ≤ 60) (hn0 : 0 < n) (hn : n ≤ 400) (hl : l ≤ 10) (hd : 2 ^ l ∣ n) (hf : ∀ p, f p < M n) :
    CallOK G 27 Fs (.ref 156) [.list (rowL w (2 ^ l) f), .int i, .int w] (fun v => v = .list (rowL w (2 ^ l) (fun p => rsh n (bwd n l f p) (-(l : Int))))) := by
  subst hi
  refine' callDefR S (i := 20) (f := 156) (c := 155) (k := 26) (ps := ["row", "n", "w"]) (by kernel_rfl) rfl (by kernel_rfl) (by exact fun _ _ _ => bind3 fun _ _ _ => rfl) rfl (zip_cons (zip_cons (zip_cons zip_nil))) ?h
  case h =>
    have u0 : G.mg (Str.ofString "ring_shift") = some (.ref 137) := mgAt S (i := 17) (c := 136) (by kernel_rfl)
    have u1 : G.mg (Str.ofString "ring_add") = some (.ref 109) := mgAt S (i := 13) (c := 108) (by kernel_rfl)
    have u2 : G.mg (Str.ofString "ring_sub") = some (.ref 116) := mgAt S (i := 14) (c := 115) (by kernel_rfl)
    have hL : 2 ^ l ≤ 1024 := Nat.pow_le_pow_right (n := 2) (by decide) hl
    have hL0 := Nat.two_pow_pos l
    wtm_at "m.run"
    rename_i fa
    refine v_while (Y := Nat × (Nat → Nat)) (fun y => [("row", .list (rowL w (2 ^ l) f)), ("n", .int n), ("w", .int w), ("found", .own fa (rowL w (2 ^ l) y.2)), ("half", .int ((2 ^ y.1 : Nat) : Int))])
      (fun y => y.1 ≤ l ∧ (∀ p, y.2 p < M n) ∧ y.2 = bwd n y.1 f) (fun y => l - y.1) ?_ ?_
    · exact .intro (0, f) ⟨Nat.zero_le _, hf, rfl⟩ (by wtm_at "m.sub")
    · rintro ⟨j, cur⟩ ⟨hj, hcur, hbw⟩
      dsimp only at hj hcur hbw ⊢
      by_cases hjl : j = l
      · subst hjl
        wtm_at "m.run"
        rw [show ((Builtin.Int.intBits ((rowL w (2 ^ j) f).length : Int) : Nat) : Int) - 1 = (j : Int) by
          rw [rowL_length, intBits_nat, bitlen_eq (Nat.le_refl (2 ^ j)) (Nat.pow_lt_pow_right (by decide) (Nat.lt_succ_self _))]; omega]
        refine WE_of_WF (x_comp (CompOk.of rfl) rfl (x_wit ?_))
        wtm_at "m.run"
        refine ⟨[("less", .int j), ("n", .int n), ("w", .int w)], fun x => R w (rsh n (unR w (x.headD .none)) (-(j : Int))), ?_, by rw [List.length_map, rowL_length]; omega, ?_, ?_⟩
        · wtm_at "m.caps"
        · intro x₁ hx
          obtain ⟨p, hp, rfl⟩ := rowL_items hx
          refine WE.setAll1 ?_
          have := hcur p
          wtm_at "m.run"
          exact ⟨by show _ = R w (rsh n (unR w (R w (cur p))) _); rw [unR_R hw], rfl⟩
        · intro a
          wtm_at "m.run"
          rw [rowL_map (g := fun p => rsh n (cur p) (-(j : Int))) fun p _ => by show R w (rsh n (unR w (R w (cur p))) _) = _; rw [unR_R hw], hbw]
      · have e2 : 2 ^ (j + 1) = 2 * 2 ^ j := by rw [Nat.pow_succ, Nat.mul_comm]
        have h0 := Nat.two_pow_pos j
        have hle : 2 ^ (j + 1) ≤ 2 ^ l := Nat.pow_le_pow_right (by decide) (by omega)
        have hNL : 2 * 2 ^ j * 2 ^ (l - (j + 1)) = 2 ^ l := by rw [← e2, ← Nat.pow_add]; congr 1; omega
        generalize hN : 2 ^ (l - (j + 1)) = N at hNL
        have hst' : n / 2 ^ j * 2 ^ j = n := Nat.div_mul_cancel (Nat.dvd_trans (Nat.pow_dvd_pow 2 hj) hd)
        have hstn : n / 2 ^ j ≤ 400 := Nat.le_trans (Nat.div_le_self _ _) hn
        wtm_at "m.run"
        · rw [rowL_length]; exact small_upN (K := 2 * 2 ^ j) (by omega) (by omega) (by omega)
        refine ⟨N, by rw [rowL_length, ← hNL]; exact size_up (by omega), ?_⟩
        refine ForK.stride (Y := Unit) (2 * 2 ^ j) N (fun B _ => [("row", .list (rowL w (2 ^ l) f)), ("n", .int n), ("w", .int w), ("found", .own fa (rowL w (2 ^ l) (mix (stB n (2 ^ j) cur) cur (2 ^ j) B 0))), ("half", .int ((2 ^ j : Nat) : Int)), ("step", .int (n / 2 ^ j : Nat))]) (fun _ _ => True) rfl rfl ?_ ?_ ?_
        · refine .intro () trivial ?_
          wtm_at "m.sub"
          rw [mix_start]
        · intro B hB _ _
          have hpl : 2 * 2 ^ j * B + 2 * 2 ^ j ≤ 2 ^ l := by
            have := Nat.mul_le_mul_left (2 * 2 ^ j) (Nat.succ_le_of_lt hB)
            rw [hNL, Nat.succ_eq_add_one, Nat.mul_add] at this; omega
          wtm_at "m.run"
          refine ForK.up0 (Y := Unit) (2 ^ j) (fun a _ => [("row", .list (rowL w (2 ^ l) f)), ("n", .int n), ("w", .int w), ("begin", .int ((2 * 2 ^ j * B : Nat) : Int)), ("found", .own fa (rowL w (2 ^ l) (mix (stB n (2 ^ j) cur) cur (2 ^ j) B a))), ("half", .int ((2 ^ j : Nat) : Int)), ("step", .int (n / 2 ^ j : Nat))]) (fun _ _ => True) (by wtm_at "m.side") ?_ ?_ ?_
          · exact .intro () trivial (by wtm_at "m.sub")
          · intro a ha _ _
            obtain ⟨m1, m2⟩ := mix_at (S := stB n (2 ^ j) cur) (cur := cur) (B := B) ha
            have hcl : ∀ p, mix (stB n (2 ^ j) cur) cur (2 ^ j) B a p < M n := fun p => mix_lt (fun p => stB_lt) hcur
            have hrs : ∀ {x y}, rsh n x y < M n := rsh_lt
            have ej : -((n / 2 ^ j : Nat) : Int) * (a : Int) = -((n / 2 ^ j * a : Nat) : Int) := by rw [Int.neg_mul, ← Int.natCast_mul]
            wtm_at "m.run"
            refine loopPost_next (.intro () trivial ?_)
            wtm_at "m.sub"
            rw [Int.toNat_natCast, Int.toNat_natCast, rowL_set, rowL_set, m1, m2, ej, ← stB_low ha, ← stB_high ha, mix_step ha]
          · intro _ σ' _ hs
            rw [mix_block h0] at hs
            refine seqP_sub hs ?_
            wtm_at "m.run"
            exact loopPost_next (.intro () trivial (by wtm_at "m.sub"))
        · intro _ σ' _ hs
          refine seqP_sub hs ?_
          wtm_at "m.run"
          refine loopPost_next (.intro (j + 1, stB n (2 ^ j) cur) ⟨⟨by omega, fun _ => stB_lt, by rw [hbw]; rfl⟩, by dsimp only; omega⟩ ?_)
          wtm_at "m.sub"
          · rw [e2]
          · rw [rowL_congr fun p hp => mix_end h0 (by rw [hNL]; exact hp)]
local macro_rules | `(tactic| wtm_at "m.sp") => `(tactic| refine' call_det (s_backward ‹_› ‹_› ?hi ?_ ?_ ?_ ?_ ?_ ?_ ?_) ?hkk ?_)
theorem s_weighted (hF : HF G Fs) {w n L : Nat} {f : Nat → Nat} {i st : Int} (hi : i = n) (hw : 0 < w) (hw' : w ≤ 60) (hn0 : 0 < n) (hn : n ≤ 400) (hL : L ≤ 1024) (hst : st.natAbs ≤ 400) (hf : ∀ p, f p < M n) :
    CallOK G 27 Fs (.ref 166) [.list (rowL w L f), .int st, .int i, .int w] (fun v => v = .list (rowL w L (fun p => rsh n (f p) (st * p)))) := by
  subst hi
  refine' callDefR S (i := 22) (f := 166) (c := 165) (k := 26) (ps := ["row", "step", "n", "w"]) (by kernel_rfl) rfl (by kernel_rfl) (by exact fun _ _ _ => bind4 fun _ _ _ _ => rfl) rfl (zip_cons (zip_cons (zip_cons (zip_cons zip_nil)))) ?h
  case h =>
    have u0 : G.mg (Str.ofString "ring_shift") = some (.ref 137) := mgAt S (i := 17) (c := 136) (by kernel_rfl)
    wtm_at "m.run"
    refine WE_of_WF (x_comp (names := ["at", "one"]) (CompOk.of rfl) rfl ?_)
    wtm_at "m.run"
    rw [rowL_enum]
    refine ⟨[("n", .int n), ("step", .int st), ("w", .int w)], fun x => match x with | [.int p, v] => R w (rsh n (unR w v) (st * p)) | _ => .none, ?_, by simp; omega, ?_, ?_⟩
    · wtm_at "m.caps"
    · intro x₁ hx
      obtain ⟨p, hp, rfl⟩ := List.mem_map.mp hx
      have := hf p
      refine WE.setAll2 ?_
      wtm_at "m.run"
      exact ⟨by show _ = R w (rsh n (unR w (R w (f p))) _); rw [unR_R hw], rfl⟩
    · intro a
      wtm_at "m.run"
      rw [List.map_map, rowL]
      refine congrArg MV.list (List.map_congr_left fun p _ => ?_)
      show R w (rsh n (unR w (R w (f p))) _) = _
      rw [unR_R hw]
local macro_rules | `(tactic| wtm_at "m.sp") => `(tactic| refine' call_det (s_weighted ‹_› ‹_› ?hi ?_ ?_ ?_ ?_ ?_ ?_ ?_) ?hkk ?_)
theorem s_convolved (hF : HF G Fs) {w n l km : Nat} {f g : Nat → Nat} {i : Int} {fm : Addr} (hi : i = n) (hfm : FnF Fs fm) (hkm : 26 ≤ km) (hm : ∀ x y, x < M n → y < M n → CallOK G km Fs (.ref fm) [R w x, R w y, .int w] (fun v => ∃ z, v = R w z ∧ Sm z ∧ z % M n = x * y % M n))
    (hw : 0 < w) (hw' : w ≤ 60) (hn0 : 0 < n) (hn : n ≤ 400) (hl : l ≤ 10) (hd : 2 ^ l ∣ n) (hf : ∀ p, f p < M n) (hg : ∀ p, g p < M n) :
    CallOK G (km + 2) Fs (.ref 161) [.list (rowL w (2 ^ l) f), .list (rowL w (2 ^ l) g), .int i, .int w, .raw (.ref fm)] (fun v => v = .list (rowL w (2 ^ l) (cvN n (2 ^ l) f g))) := by
  subst hi
  have hL : 2 ^ l ≤ 1024 := Nat.pow_le_pow_right (n := 2) (by decide) hl
  refine' callDefR S (i := 21) (f := 161) (c := 160) (k := (km+1)) (ps := ["one", "other", "n", "w", "mul"]) (by kernel_rfl) rfl (by kernel_rfl) (by exact fun _ _ _ => bind5 fun _ _ _ _ _ => rfl) rfl (zip_cons (zip_cons (zip_cons (zip_cons (zip_cons zip_nil))))) ?h
  case h =>
    have u0 : G.mg (Str.ofString "backward") = some (.ref 156) := mgAt S (i := 20) (c := 155) (by kernel_rfl)
    have u1 : G.mg (Str.ofString "forward") = some (.ref 151) := mgAt S (i := 19) (c := 150) (by kernel_rfl)
    have u2 : G.mg (Str.ofString "ring_mul") = some (.ref 144) := mgAt S (i := 18) (c := 143) (by kernel_rfl)
    wtm_at "m.run"
    refine WE_of_WF (x_comp (names := ["a", "b"]) (CompOk.of rfl) rfl ?_)
    wtm_at "m.run"
    rw [rowL_zip]
    refine ⟨[("n", .int n), ("w", .int w), ("mul", .raw (.ref fm))], fun x => match x with | [u, v] => R w (unR w u * unR w v % M n) | _ => .none, ?_, by simp; omega, ?_, ?_⟩
    · wtm_at "m.caps"
    · intro x₁ hx
      obtain ⟨p, hp, rfl⟩ := List.mem_map.mp hx
      have h1 := fwd_lt (l := l) (p := p) hf
      have h2 := fwd_lt (l := l) (p := p) hg
      refine WE.setAll2 ?_
      wtm_at "m.run"
      refine call_det (s_ring_mul S hF rfl hfm (by omega) (hm _ _ h1 h2) hw hw' hn0 hn) (Nat.le_refl _) ?_
      wtm_at "m.run"
      exact ⟨by show _ = R w (unR w (R w _) * unR w (R w _) % M n); rw [unR_R hw, unR_R hw], rfl⟩
    · intro a
      have e : ((List.range (2 ^ l)).map fun (p : Nat) => [R w (fwd n l f p), R w (fwd n l g p)]).map (fun x => match x with | [u, v] => R w (unR w u * unR w v % M n) | _ => .none) = rowL w (2 ^ l) (fun p => fwd n l f p * fwd n l g p % M n) := by
        rw [List.map_map, rowL]
        refine List.map_congr_left fun p _ => ?_
        show R w (unR w (R w _) * unR w (R w _) % M n) = _
        rw [unR_R hw, unR_R hw]
      rw [e]
      have h3 : ∀ p, fwd n l f p * fwd n l g p % M n < M n := fun p => Nat.mod_lt _ M_pos
      wtm_at "m.run"
      rw [rowL_congr fun k hk => conv_row hn0 (Nat.dvd_trans hd ⟨2, Nat.mul_comm _ _⟩) hf hg (fun p hp => ⟨Nat.mod_lt _ M_pos, Cg.mod _⟩) hk]
theorem s_in_pieces (hF : HF G Fs) {w s a L : Nat} {i j : Int} (hi : i = s) (hj : j = L) (hw : 0 < w) (hw' : w ≤ 60) (hs : s ≤ 400) (hL : L ≤ 1024) (ha : Sm a) : CallOK G 22 Fs (.ref 180) [R w a, .int i, .int j, .int w] (fun v => v = .list (rowL w L (digit s a))) := by
  subst hi hj
  refine' callDefR S (i := 24) (f := 180) (c := 179) (k := 21) (ps := ["a", "size", "pieces", "w"]) (by kernel_rfl) rfl (by kernel_rfl) (by exact fun _ _ _ => bind4 fun _ _ _ _ => rfl) rfl (zip_cons (zip_cons (zip_cons (zip_cons zip_nil)))) ?h
  case h =>
    have u0 : G.mg (Str.ofString "shift_right") = some (.ref 81) := mgAt S (i := 8) (c := 80) (by kernel_rfl)
    have u1 : G.mg (Str.ofString "low") = some (.ref 95) := mgAt S (i := 10) (c := 94) (by kernel_rfl)
    wtm_at "m.run"
    rename_i fa
    refine ForK.up0 (Y := Unit) L (fun t _ => [("a", R w (a / 2 ^ (s * t))), ("size", .int s), ("w", .int w), ("found", .own fa (rowL w t (digit s a)))]) (fun _ _ => True) (by wtm_at "m.side") ?_ ?_ ?_
    · refine .intro () trivial ?_
      wtm_at "m.sub"
      rw [Nat.mul_zero, Nat.pow_zero, Nat.div_one]
    · intro t ht _ _
      have h1 : Sm (a / 2 ^ (s * t)) := ha.mono (Nat.div_le_self _ _)
      wtm_at "m.run"
      refine loopPost_next (.intro () trivial ?_)
      wtm_at "m.sub"
      · rw [rowL_snoc rfl]
      · rw [Nat.div_div_eq_div_mul, ← Nat.pow_add, Nat.mul_add, Nat.mul_one]
    · intro _ σ' _ hs
      refine seqP_sub hs ?_
      wtm_at "m.run"
local macro_rules | `(tactic| wtm_at "m.sp") => `(tactic| refine' call_det (s_in_pieces ‹_› ‹_› ?hi ?_ ?_ ?_ ?_ ?_ ?_) ?hkk ?_)
theorem s_put_together (hF : HF G Fs) {w s c L : Nat} {f : Nat → Nat} {i : Int} (hi : i = s) (hw : 0 < w) (hw' : w ≤ 60) (hb : c + (s + 1) * L < 1000) (hL : L ≤ 1024) (hs : s ≤ 1000) (hf : ∀ p, f p < 2 ^ c) : CallOK G 22 Fs (.ref 187) [.list (rowL w L f), .int i, .int w] (fun v => v = R w (pt s L f L)) := by
  subst hi
  refine' callDefR S (i := 25) (f := 187) (c := 186) (k := 21) (ps := ["row", "size", "w"]) (by kernel_rfl) rfl (by kernel_rfl) (by exact fun _ _ _ => bind3 fun _ _ _ => rfl) rfl (zip_cons (zip_cons (zip_cons zip_nil))) ?h
  case h =>
    have u0 : G.mg (Str.ofString "add") = some (.ref 60) := mgAt S (i := 5) (c := 59) (by kernel_rfl)
    have u1 : G.mg (Str.ofString "shift_left") = some (.ref 74) := mgAt S (i := 7) (c := 73) (by kernel_rfl)
    wtm_at "m.one"
    refine' WS_freeze (x := "found") ?hg ?hs ?_
    case hg => wtm_at "m.get"
    case hs => wtm_at "m.set"
    wtm_at "m.run"
    rw [rowL_reverse]
    refine ForK.list (Y := Unit) (fun t _ => [("size", .int s), ("w", .int w), ("found", R w (pt s L f t))]) (fun _ _ => True) ?_ ?_ ?_
    · refine .intro () trivial ?_
      wtm_at "m.sub"
    · intro t x₁ hx _ _
      have ht : t < L := by have := (List.getElem?_eq_some_iff.mp hx).1; rwa [rowL_length] at this
      rw [rowL_get ht] at hx
      cases hx
      have hc1 : c + (s + 1) * (t + 1) ≤ c + (s + 1) * L := Nat.add_le_add_left (Nat.mul_le_mul_left _ ht) _
      have hp := pt_lt (s := s) (L := L) hf (t + 1)
      have h1 : Sm (pt s L f (t + 1)) := Sm.of hp (by show _ ≤ 1000; omega)
      have h2 : Sm (pt s L f t * 2 ^ s) := h1.mono (Nat.le_add_right _ _)
      have h3 : Sm (f (L - 1 - t)) := h1.mono (Nat.le_add_left _ _)
      wtm_at "m.run"
      refine loopPost_next (.intro () trivial ?_)
      wtm_at "m.sub"
    · intro _ σ' _ hs
      rw [rowL_length] at hs
      refine seqP_sub hs ?_
      wtm_at "m.run"
theorem s_ring_size (hF : HF G Fs) {a p : Nat} {i j : Int} (hi : i = a) (hj : j = p) (hp : 0 < p) (hp' : p < 1000000) (ha : a < 1000000) : CallOK G 20 Fs (.ref 194) [.int i, .int j] (fun v => v = .int ((cdiv a p * p : Nat) : Int)) := by
  subst hi hj
  refine' callDefR S (i := 26) (f := 194) (c := 193) (k := 19) (ps := ["least", "pieces"]) (by kernel_rfl) rfl (by kernel_rfl) (by exact fun _ _ _ => bind2 fun _ _ => rfl) rfl (zip_cons (zip_cons zip_nil)) ?h
  case h =>

    wtm_at "m.run"
    rw [cdiv_int hp]; rfl
local macro_rules | `(tactic| wtm_at "m.sp") => `(tactic| refine' call_det (s_ring_size ‹_› ‹_› ?hi ?_ ?_ ?_ ?_) ?hkk ?_)
theorem s_convolved_minus (hF : HF G Fs) {w n l km : Nat} {f g : Nat → Nat} {i : Int} {fm : Addr} (hi : i = n) (hfm : FnF Fs fm) (hkm : 26 ≤ km) (hm : ∀ x y, x < M n → y < M n → CallOK G km Fs (.ref fm) [R w x, R w y, .int w] (fun v => ∃ z, v = R w z ∧ Sm z ∧ z % M n = x * y % M n))
    (hw : 0 < w) (hw' : w ≤ 60) (hn0 : 0 < n) (hn : n ≤ 400) (hl : l ≤ 10) (hd : 2 ^ l ∣ n) (hf : ∀ p, f p < M n) (hg : ∀ p, g p < M n) :
    CallOK G (km + 3) Fs (.ref 173) [.list (rowL w (2 ^ l) f), .list (rowL w (2 ^ l) g), .int i, .int w, .raw (.ref fm)] (fun v => v = .list (rowL w (2 ^ l) (dmN n (2 ^ l) f g))) := by
  subst hi
  have hL : 2 ^ l ≤ 1024 := Nat.pow_le_pow_right (n := 2) (by decide) hl
  have hL0 := Nat.two_pow_pos l
  obtain ⟨st, hst⟩ : ∃ st, st = n / 2 ^ l := ⟨_, rfl⟩
  have hst2 : st * 2 ^ l = n := by rw [hst]; exact Nat.div_mul_cancel hd
  have hst3 : st ≤ 400 := by rw [hst]; exact Nat.le_trans (Nat.div_le_self _ _) hn
  have hr : ∀ (h : Nat → Nat) (j : Int), ∀ p, rsh n (h p) (j * p) < M n := fun h j p => rsh_lt
  refine' callDefR S (i := 23) (f := 173) (c := 172) (k := (km+2)) (ps := ["one", "other", "n", "w", "mul"]) (by kernel_rfl) rfl (by kernel_rfl) (by exact fun _ _ _ => bind5 fun _ _ _ _ _ => rfl) rfl (zip_cons (zip_cons (zip_cons (zip_cons (zip_cons zip_nil))))) ?h
  case h =>
    have u0 : G.mg (Str.ofString "convolved") = some (.ref 161) := mgAt S (i := 21) (c := 160) (by kernel_rfl)
    have u1 : G.mg (Str.ofString "weighted") = some (.ref 166) := mgAt S (i := 22) (c := 165) (by kernel_rfl)
    wtm_at "m.ws"
    refine x_assign rfl (by wtm_at "m.st") (x_val (X := .int (st : Nat)) ?_ ?_)
    · wtm_at "m.run"
      exact ⟨by rw [rowL_length, hst], rfl⟩
    wtm_at "m.run"
    all_goals (try (exact hr _ _))
    refine call_det (s_convolved S hF rfl hfm hkm hm hw hw' hn0 hn hl hd (hr _ _) (hr _ _)) (by dsimp only; omega) ?_
    have hc : ∀ p, cvN n (2 ^ l) (fun p => rsh n (f p) ((st : Int) * p)) (fun p => rsh n (g p) ((st : Int) * p)) p < M n := fun p => cvN_lt
    wtm_at "m.run"
    rw [rowL_congr fun k hk => neg_row hn0 hst2 hk]
theorem s_mul_rings (hF : HF G Fs) {w l a b km : Nat} {fm : Addr} {i : Int} (hi : i = (2 ^ l : Nat)) (hfm : FnF Fs fm) (hkm : 26 ≤ km) (hm : ∀ x y, x < 2 ^ 400 → y < 2 ^ 400 → CallOK G km Fs (.ref fm) [R w x, R w y, .int w] (fun v => v = R w (x * y)))
    (hw : 0 < w) (hw' : w ≤ 60) (hl : l ≤ 3) (ha : a < 2 ^ 45) (hb : b < 2 ^ 45) :
    CallOK G (km + 3) Fs (.ref 201) [R w a, R w b, .int w, .int i, .raw (.ref fm)] (fun v => v = R w (a * b)) := by
  subst hi
  have hL : 2 ^ l ≤ 8 := Nat.pow_le_pow_right (n := 2) (by decide) hl
  have hL0 := Nat.two_pow_pos l
  have hsa : Sm a := Sm.of ha (by decide)
  have hsb : Sm b := Sm.of hb (by decide)
  have la := hsa.len hw
  have lb := hsb.len hw
  have ba := bitlen_le_of ha
  have bb := bitlen_le_of hb
  refine' callDefR S (i := 27) (f := 201) (c := 200) (k := (km+2)) (ps := ["a", "b", "w", "pieces", "mul"]) (by kernel_rfl) rfl (by kernel_rfl) (by exact fun _ _ _ => bind5 fun _ _ _ _ _ => rfl) rfl (zip_cons (zip_cons (zip_cons (zip_cons (zip_cons zip_nil))))) ?h
  case h =>
    have u0 : G.mg (Str.ofString "ring_size") = some (.ref 194) := mgAt S (i := 26) (c := 193) (by kernel_rfl)
    have u1 : G.mg (Str.ofString "convolved") = some (.ref 161) := mgAt S (i := 21) (c := 160) (by kernel_rfl)
    have u2 : G.mg (Str.ofString "put_together") = some (.ref 187) := mgAt S (i := 25) (c := 186) (by kernel_rfl)
    have u3 : G.mg (Str.ofString "in_pieces") = some (.ref 180) := mgAt S (i := 24) (c := 179) (by kernel_rfl)
    have u4 : G.mg (Str.ofString "bits") = some (.ref 88) := mgAt S (i := 9) (c := 87) (by kernel_rfl)
    have hz : ∀ {c : Nat}, (dlen w c : Int) = 0 → c = 0 := fun h => dlen_eq_zero.mp (by exact_mod_cast h)
    wtm_at "m.one"
    · rename_i hc
      wtm_at "m.run"
      rw [hz hc, Nat.zero_mul, R_zero]
    · rename_i h1 h2
      wtm_at "m.run"
      rw [hz h2, Nat.mul_zero, R_zero]
    obtain ⟨s, hs⟩ : ∃ s, s = cdiv (bitlen a + bitlen b) (2 ^ l) := ⟨_, rfl⟩
    have hs1 : bitlen a + bitlen b ≤ s * 2 ^ l := by rw [hs]; exact le_cdiv hL0
    have hs2 : s * 2 ^ l < bitlen a + bitlen b + 2 ^ l := by rw [hs]; exact cdiv_lt hL0
    have hs3 : s ≤ bitlen a + bitlen b := by rw [hs]; exact cdiv_le hL0
    have hl1 : bitlen (2 ^ l) = l + 1 := bitlen_eq (Nat.le_refl _) (Nat.pow_lt_pow_right (by decide) (Nat.lt_succ_self _))
    wtm_at "m.ws"
    refine x_assign rfl (by wtm_at "m.st") (x_val (X := .int (s : Nat)) ?_ ?_)
    · wtm_at "m.run"
      exact ⟨by rw [hs, ← cdiv_int hL0], rfl⟩
    obtain ⟨n, hn⟩ : ∃ n, n = cdiv (2 * s + (l + 1)) (2 ^ l) * 2 ^ l := ⟨_, rfl⟩
    have hn1 : 2 * s + (l + 1) ≤ n := by rw [hn]; exact le_cdiv hL0
    have hn2 : n < 2 * s + (l + 1) + 2 ^ l := by rw [hn]; exact cdiv_lt hL0
    have hnd : 2 ^ l ∣ n := ⟨_, by rw [hn, Nat.mul_comm]⟩
    wtm_at "m.s"
    wtm_at "m.ws"
    refine x_assign rfl (by wtm_at "m.st") (x_val (X := .int (n : Nat)) ?_ ?_)
    · wtm_at "m.run"
      · rw [intBits_nat, hl1]; show 2 * s + (l + 1) < 1000000; omega
      · exact ⟨by rw [hn, intBits_nat, hl1], rfl⟩
    have hp : ∀ x p, digit s x p < M n := fun x p => Nat.lt_of_lt_of_le digit_lt (Nat.le_trans (Nat.pow_le_pow_right (by decide) (show s ≤ n by omega)) (Nat.le_succ _))
    wtm_at "m.run"
    refine call_det (s_convolved S hF rfl hfm hkm (fun x y hx hy => ?_) hw hw' (by omega) (by omega) (by omega) hnd (hp a) (hp b)) (by dsimp only; omega) ?_
    · have h1 : M n ≤ 2 ^ 400 := M_le (by omega)
      refine (hm x y (by omega) (by omega)).mono (Nat.le_refl _) (FMap.le.refl _) fun v e => ⟨x * y, e, ?_, rfl⟩
      have : x * y < 2 ^ 400 * 2 ^ 400 := Nat.mul_lt_mul'' (by omega) (by omega)
      rw [← Nat.pow_add] at this
      exact Sm.of this (by decide)
    wtm_at "m.run"
    refine call_det (s_put_together S hF (c := n + 1) rfl hw hw' ?_ (by omega) (by omega) (fun p => Nat.lt_of_lt_of_le cvN_lt (M_le (Nat.le_refl _)))) (by dsimp only; omega) ?_
    · rw [Nat.add_mul]; omega
    wtm_at "m.run"
    rw [mul_rings_eq hL0 hs1 (by rw [hl1]; exact hn1)]
theorem s_sqr_rings (hF : HF G Fs) {w l a km : Nat} {fm : Addr} {i : Int} (hi : i = (2 ^ l : Nat)) (hfm : FnF Fs fm) (hkm : 26 ≤ km) (hm : ∀ x, x < 2 ^ 400 → CallOK G km Fs (.ref fm) [R w x, .int w] (fun v => v = R w (x * x)))
    (hw : 0 < w) (hw' : w ≤ 60) (hl : l ≤ 3) (ha : a < 2 ^ 45) :
    CallOK G (km + 3) Fs (.ref 206) [R w a, .int w, .int i, .raw (.ref fm)] (fun v => v = R w (a * a)) := by
  subst hi
  have hL : 2 ^ l ≤ 8 := Nat.pow_le_pow_right (n := 2) (by decide) hl
  have hL0 := Nat.two_pow_pos l
  have hsa : Sm a := Sm.of ha (by decide)
  have la := hsa.len hw
  have ba := bitlen_le_of ha
  refine' callDefR S (i := 28) (f := 206) (c := 205) (k := (km+2)) (ps := ["a", "w", "pieces", "sqr"]) (by kernel_rfl) rfl (by kernel_rfl) (by exact fun _ _ _ => bind4 fun _ _ _ _ => rfl) rfl (zip_cons (zip_cons (zip_cons (zip_cons zip_nil)))) ?h
  case h =>
    have u0 : G.mg (Str.ofString "ring_size") = some (.ref 194) := mgAt S (i := 26) (c := 193) (by kernel_rfl)
    have u1 : G.mg (Str.ofString "forward") = some (.ref 151) := mgAt S (i := 19) (c := 150) (by kernel_rfl)
    have u2 : G.mg (Str.ofString "put_together") = some (.ref 187) := mgAt S (i := 25) (c := 186) (by kernel_rfl)
    have u3 : G.mg (Str.ofString "in_pieces") = some (.ref 180) := mgAt S (i := 24) (c := 179) (by kernel_rfl)
    have u4 : G.mg (Str.ofString "backward") = some (.ref 156) := mgAt S (i := 20) (c := 155) (by kernel_rfl)
    have u5 : G.mg (Str.ofString "bits") = some (.ref 88) := mgAt S (i := 9) (c := 87) (by kernel_rfl)
    have u6 : G.mg (Str.ofString "ring_fold") = some (.ref 130) := mgAt S (i := 16) (c := 129) (by kernel_rfl)
    have hz : ∀ {c : Nat}, (dlen w c : Int) = 0 → c = 0 := fun h => dlen_eq_zero.mp (by exact_mod_cast h)
    wtm_at "m.one"
    · rename_i hc
      wtm_at "m.run"
      rw [hz hc, Nat.zero_mul, R_zero]
    obtain ⟨s, hs⟩ : ∃ s, s = cdiv (bitlen a + bitlen a) (2 ^ l) := ⟨_, rfl⟩
    have hs1 : bitlen a + bitlen a ≤ s * 2 ^ l := by rw [hs]; exact le_cdiv hL0
    have hs2 : s * 2 ^ l < bitlen a + bitlen a + 2 ^ l := by rw [hs]; exact cdiv_lt hL0
    have hs3 : s ≤ bitlen a + bitlen a := by rw [hs]; exact cdiv_le hL0
    have hl1 : bitlen (2 ^ l) = l + 1 := bitlen_eq (Nat.le_refl _) (Nat.pow_lt_pow_right (by decide) (Nat.lt_succ_self _))
    wtm_at "m.ws"
    refine x_assign rfl (by wtm_at "m.st") (x_val (X := .int (s : Nat)) ?_ ?_)
    · wtm_at "m.run"
      exact ⟨by rw [hs, ← cdiv_int hL0, show (-2 : Int) * (bitlen a : Int) = -((bitlen a + bitlen a : Nat) : Int) by omega], rfl⟩
    obtain ⟨n, hn⟩ : ∃ n, n = cdiv (2 * s + (l + 1)) (2 ^ l) * 2 ^ l := ⟨_, rfl⟩
    have hn1 : 2 * s + (l + 1) ≤ n := by rw [hn]; exact le_cdiv hL0
    have hn2 : n < 2 * s + (l + 1) + 2 ^ l := by rw [hn]; exact cdiv_lt hL0
    have hnd : 2 ^ l ∣ n := ⟨_, by rw [hn, Nat.mul_comm]⟩
    wtm_at "m.s"
    wtm_at "m.ws"
    refine x_assign rfl (by wtm_at "m.st") (x_val (X := .int (n : Nat)) ?_ ?_)
    · wtm_at "m.run"
      · rw [intBits_nat, hl1]; show 2 * s + (l + 1) < 1000000; omega
      · exact ⟨by rw [hn, intBits_nat, hl1], rfl⟩
    have hp : ∀ p, digit s a p < M n := fun p => Nat.lt_of_lt_of_le digit_lt (Nat.le_trans (Nat.pow_le_pow_right (by decide) (show s ≤ n by omega)) (Nat.le_succ _))
    have hM : M n ≤ 2 ^ 400 := M_le (by omega)
    have hlt := fun p => fwd_lt (l := l) (p := p) hp
    wtm_at "m.run"
    refine WE_of_WF (x_comp (names := ["one"]) (CompOk.of rfl) rfl (x_wit ?_))
    wtm_at "m.run"
    refine ⟨[("n", .int n), ("w", .int w), ("sqr", .raw (.ref fm))], fun x => R w (unR w (x.headD .none) * unR w (x.headD .none) % M n), ?_, by rw [List.length_map, rowL_length]; omega, ?_, ?_⟩
    · wtm_at "m.caps"
    · intro x₁ hx
      obtain ⟨p, hp', rfl⟩ := rowL_items hx
      refine WE.setAll1 ?_
      wtm_at "m.run"
      refine call_det (hm _ (by have := hlt p; omega)) (by dsimp only; omega) ?_
      have hsx : Sm (fwd n l (digit s a) p * fwd n l (digit s a) p) := by
        have h1 : fwd n l (digit s a) p < 2 ^ 400 := by have := hlt p; omega
        have : fwd n l (digit s a) p * fwd n l (digit s a) p < 2 ^ 400 * 2 ^ 400 := Nat.mul_lt_mul'' h1 h1
        rw [← Nat.pow_add] at this
        exact Sm.of this (by decide)
      wtm_at "m.run"
      exact ⟨by show _ = R w (unR w (R w _) * unR w (R w _) % M n); rw [unR_R hw], rfl⟩
    · intro fa
      rw [rowL_map (g := fun p => fwd n l (digit s a) p * fwd n l (digit s a) p % M n) fun p _ => by show R w (unR w (R w _) * unR w (R w _) % M n) = _; rw [unR_R hw]]
      have h3 : ∀ p, fwd n l (digit s a) p * fwd n l (digit s a) p % M n < M n := fun p => Nat.mod_lt _ M_pos
      wtm_at "m.run"
      rw [rowL_congr fun k hk => conv_row (by omega) (Nat.dvd_trans hnd ⟨2, Nat.mul_comm _ _⟩) hp hp (fun p hp => ⟨Nat.mod_lt _ M_pos, Cg.mod _⟩) hk]
      refine call_det (s_put_together S hF (c := n + 1) rfl hw hw' ?_ (by omega) (by omega) (fun p => Nat.lt_of_lt_of_le cvN_lt (M_le (Nat.le_refl _)))) (by dsimp only; omega) ?_
      · rw [Nat.add_mul]; omega
      wtm_at "m.run"
      rw [mul_rings_eq hL0 hs1 (by rw [hl1]; exact hn1)]
theorem s_signed_sum (hF : HF G Fs) {w s n c L : Nat} {f : Nat → Nat} {i j o : Int} (hi : i = s) (hj : j = n) (ho : o = c) (hw : 0 < w) (hw' : w ≤ 60) (hn0 : 0 < n) (hn : n ≤ 400) (hc0 : 0 < c) (hc : c ≤ 400) (hb : n + s * L < 1000) (hL : L ≤ 1024) (hs : s ≤ 400) (hf : ∀ p, f p < M n) :
    CallOK G 25 Fs (.ref 213) [.list (rowL w L f), .int i, .int j, .int o, .int w] (fun v => v = R w (zmod c (ssum s n L f))) := by
  subst hi hj ho
  refine' callDefR S (i := 29) (f := 213) (c := 212) (k := 24) (ps := ["row", "size", "n", "outer", "w"]) (by kernel_rfl) rfl (by kernel_rfl) (by exact fun _ _ _ => bind5 fun _ _ _ _ _ => rfl) rfl (zip_cons (zip_cons (zip_cons (zip_cons (zip_cons zip_nil))))) ?h
  case h =>
    have u0 : G.mg (Str.ofString "ring_fold") = some (.ref 130) := mgAt S (i := 16) (c := 129) (by kernel_rfl)
    have u1 : G.mg (Str.ofString "bits") = some (.ref 88) := mgAt S (i := 9) (c := 87) (by kernel_rfl)
    have u2 : G.mg (Str.ofString "shift_left") = some (.ref 74) := mgAt S (i := 7) (c := 73) (by kernel_rfl)
    have u3 : G.mg (Str.ofString "ring_sub") = some (.ref 116) := mgAt S (i := 14) (c := 115) (by kernel_rfl)
    have u4 : G.mg (Str.ofString "ring_add") = some (.ref 109) := mgAt S (i := 13) (c := 108) (by kernel_rfl)
    have u5 : G.mg (Str.ofString "ring_neg") = some (.ref 123) := mgAt S (i := 15) (c := 122) (by kernel_rfl)
    wtm_at "m.one"
    refine' WS_freeze (x := "found") ?hg ?hs ?_
    case hg => wtm_at "m.get"
    case hs => wtm_at "m.set"
    wtm_at "m.run"
    refine ForT.rowE (Y := Unit) (fun t _ => [("size", .int s), ("n", .int n), ("outer", .int c), ("w", .int w), ("found", R w (zmod c (ssum s n t f)))]) (fun _ _ => True) ?_ ?_ ?_
    · refine .intro () trivial ?_
      wtm_at "m.sub"
    · intro t ht _ _
      have h1 := hf t
      have hst : s * t + s ≤ s * L := by rw [← Nat.mul_succ]; exact Nat.mul_le_mul_left _ ht
      have hsx : Sm (f t) := Sm.ofM (by omega) h1
      have hsn : ∀ {x}, x < M n → Sm (x * 2 ^ (s * t)) := fun h => Sm.shl h (by omega)
      have hz := zmod_lt (n := c) (X := ssum s n t f)
      have hmc : ∀ x, x % M c < M c := fun x => Nat.mod_lt _ M_pos
      by_cases hm : n ≤ bitlen (f t)
      · have hx0 : 0 < f t := Nat.pos_of_ne_zero fun e => by rw [e] at hm; simp [bitlen] at hm; omega
        have e1 : rneg n (f t) = M n - f t := by rw [rneg_eq (Nat.le_of_lt h1), if_pos hx0]
        have hs1 : Sm (rneg n (f t) * 2 ^ (s * t)) := hsn rneg_lt
        have fin : rsub c (zmod c (ssum s n t f)) (rneg n (f t) * 2 ^ (s * t) % M c) = zmod c (ssum s n (t + 1) f) := by
          refine (zmod_eq ?_ rsub_lt).symm
          refine (Cg.rsub (Nat.le_of_lt (hmc _))).trans ((Cg.sub zmod_cg (Cg.mod _)).trans (.of ?_))
          rw [ssum, ssum, sm, sv, if_pos hm, e1, Int.natCast_mul, Int.natCast_sub (Nat.le_of_lt h1)]
          push_cast
          grind
        wtm_at "m.ws"
        wtm_at "m.ws"
        refine x_assign rfl (by wtm_at "m.st") (x_val (X := .bool true) ?_ ?_)
        · refine x_cmpE rfl rfl ?_
          wtm_at "m.run"
          exact ⟨by rw [decide_eq_true (by show (n : Int) ≤ (bitlen (f t) : Int); omega)], rfl⟩
        wtm_at "m.run"
        refine loopPost_next (.intro () trivial ?_)
        wtm_at "m.sub"
        rw [fin]
      · have hs1 : Sm (f t * 2 ^ (s * t)) := hsn h1
        have fin : (zmod c (ssum s n t f) + f t * 2 ^ (s * t) % M c) % M c = zmod c (ssum s n (t + 1) f) := by
          refine (zmod_eq ?_ (hmc _)).symm
          refine (Cg.mod _).trans ?_
          rw [Int.natCast_add]
          refine (Cg.add zmod_cg (Cg.mod _)).trans (.of ?_)
          rw [ssum, ssum, sm, sv, if_neg hm]
          push_cast
          rfl
        wtm_at "m.ws"
        wtm_at "m.ws"
        refine x_assign rfl (by wtm_at "m.st") (x_val (X := .bool false) ?_ ?_)
        · refine x_cmpE rfl rfl ?_
          wtm_at "m.run"
          exact ⟨by rw [decide_eq_false (by show ¬ (n : Int) ≤ (bitlen (f t) : Int); omega)], rfl⟩
        wtm_at "m.run"
        refine loopPost_next (.intro () trivial ?_)
        wtm_at "m.sub"
        rw [fin]
    · intro _ σ' _ hs
      refine seqP_sub hs ?_
      wtm_at "m.run"
theorem s_pieces_for (hF : HF G Fs) {n : Nat} {i least : Int} (hi : i = n) (hn0 : 0 < n) (hn : n ≤ 200) : CallOK G 20 Fs (.ref 227) [.int i, .int least] (fun v => ∃ l, v = .int ((2 ^ l : Nat) : Int) ∧ 2 ^ l ∣ n ∧ l ≤ 3) := by
  subst hi
  refine' callDefR S (i := 31) (f := 227) (c := 226) (k := 19) (ps := ["n", "least"]) (by kernel_rfl) rfl (by kernel_rfl) (by exact fun _ _ _ => bind2 fun _ _ => rfl) rfl (zip_cons (zip_cons zip_nil)) ?h
  case h =>

    wtm_at "m.run"
    refine v_while (Y := Nat) (fun l => [("n", .int n), ("least", .int least), ("pieces", .int ((2 ^ l : Nat) : Int))]) (fun l => 2 ^ l ∣ n ∧ (l = 0 ∨ 2 ^ l * 2 ^ l ≤ n)) (fun l => n - 2 ^ l) ?_ ?_
    · exact .intro 0 ⟨⟨n, by simp⟩, .inl rfl⟩ (by wtm_at "m.sub")
    · rintro l ⟨hd, hq⟩
      have h0 := Nat.two_pow_pos l
      have hle : 2 ^ l ≤ n := Nat.le_of_dvd hn0 hd
      have hl3 : l ≤ 3 := by
        refine Nat.le_of_not_lt fun h => ?_
        have h1 : 2 ^ 4 ≤ 2 ^ l := Nat.pow_le_pow_right (by decide) h
        have h2 := Nat.mul_le_mul h1 h1
        rcases hq with hq | hq <;> omega
      wtm_at "m.run"
      · rename_i h1 h2 h3
        have h2' : n % (2 * 2 ^ l) = 0 := by exact_mod_cast h2
        have h3' : 4 * 2 ^ l * 2 ^ l ≤ n := by exact_mod_cast h3
        have e2 : 2 ^ (l + 1) = 2 * 2 ^ l := by rw [Nat.pow_succ, Nat.mul_comm]
        refine loopPost_next (.intro (l + 1) ⟨⟨by rw [e2]; exact Nat.dvd_of_mod_eq_zero h2', .inr ?_⟩, ?_⟩ ?_)
        · rw [e2]
          have : 2 * 2 ^ l * (2 * 2 ^ l) = 4 * 2 ^ l * 2 ^ l := by grind
          omega
        · have : 2 ^ (l + 1) ≤ n := Nat.le_of_dvd hn0 (by rw [e2]; exact Nat.dvd_of_mod_eq_zero h2')
          omega
        · wtm_at "m.sub"
          rw [e2]
      all_goals exact ⟨hd, hl3⟩
theorem s_ring_mul_pieces (hF : HF G Fs) {w n l a b km : Nat} {i o : Int} {fm : Addr} (hi : i = n) (ho : o = (2 ^ l : Nat)) (hfm : FnF Fs fm) (hkm : 26 ≤ km)
    (hm : ∀ x y, x < M (cdiv (2 * (n / 2 ^ l) + (l + 1) + 1) (2 ^ l) * 2 ^ l) → y < M (cdiv (2 * (n / 2 ^ l) + (l + 1) + 1) (2 ^ l) * 2 ^ l) → CallOK G km Fs (.ref fm) [R w x, R w y, .int w] (fun v => ∃ z, v = R w z ∧ Sm z ∧ z % M (cdiv (2 * (n / 2 ^ l) + (l + 1) + 1) (2 ^ l) * 2 ^ l) = x * y % M (cdiv (2 * (n / 2 ^ l) + (l + 1) + 1) (2 ^ l) * 2 ^ l)))
    (hw : 0 < w) (hw' : w ≤ 60) (hn0 : 0 < n) (hn : n ≤ 150) (hl : l ≤ 3) (hd : 2 ^ l ∣ n) (ha : a < M n) (hb : b < M n) :
    CallOK G (km + 4) Fs (.ref 220) [R w a, R w b, .int i, .int w, .int o, .raw (.ref fm)] (fun v => v = R w (a * b % M n)) := by
  subst hi ho
  have hL : 2 ^ l ≤ 8 := Nat.pow_le_pow_right (n := 2) (by decide) hl
  have hL0 := Nat.two_pow_pos l
  have hsa : Sm a := Sm.ofM (by omega) ha
  have hsb : Sm b := Sm.ofM (by omega) hb
  have hl1 : bitlen (2 ^ l) = l + 1 := bitlen_eq (Nat.le_refl _) (Nat.pow_lt_pow_right (by decide) (Nat.lt_succ_self _))
  refine' callDefR S (i := 30) (f := 220) (c := 219) (k := (km+3)) (ps := ["a", "b", "n", "w", "pieces", "mul"]) (by kernel_rfl) rfl (by kernel_rfl) (by exact fun _ _ _ => bind6 fun _ _ _ _ _ _ => rfl) rfl (zip_cons (zip_cons (zip_cons (zip_cons (zip_cons (zip_cons zip_nil)))))) ?h
  case h =>
    have u0 : G.mg (Str.ofString "ring_size") = some (.ref 194) := mgAt S (i := 26) (c := 193) (by kernel_rfl)
    have u1 : G.mg (Str.ofString "convolved_minus") = some (.ref 173) := mgAt S (i := 23) (c := 172) (by kernel_rfl)
    have u2 : G.mg (Str.ofString "signed_sum") = some (.ref 213) := mgAt S (i := 29) (c := 212) (by kernel_rfl)
    have u3 : G.mg (Str.ofString "in_pieces") = some (.ref 180) := mgAt S (i := 24) (c := 179) (by kernel_rfl)
    have u4 : G.mg (Str.ofString "bits") = some (.ref 88) := mgAt S (i := 9) (c := 87) (by kernel_rfl)
    have u5 : G.mg (Str.ofString "ring_neg") = some (.ref 123) := mgAt S (i := 15) (c := 122) (by kernel_rfl)
    wtm_at "m.ws"
    refine x_for2 (by wtm_at "m.st") (by wtm_at "m.st") rfl ?_
    refine' x_pairs ?ga ?gb ?na ?nb ?oa ?ob ?_
    case ga => wtm_at "m.get"
    case gb => wtm_at "m.get"
    case na => trivial
    case nb => trivial
    case oa => wtm_at "m.okn"
    case ob => wtm_at "m.okn"
    refine ForT.pair2 (σ₀ := [("a", R w a), ("b", R w b), ("n", .int n), ("w", .int w), ("pieces", .int ((2 ^ l : Nat) : Int)), ("mul", .raw (.ref fm))]) (A := bitlen a ≤ n) (B := bitlen b ≤ n) ?_ ?_ ?_ ?_
    · wtm_at "m.sub"
    · have hb' := Nat.le_of_lt hb
      wtm_at "m.run"
      · rename_i hc
        rw [full_neg (by omega) ha hb]
      · rename_i hc
        exact loopPost_next ⟨by omega, by wtm_at "m.sub"⟩
    · intro hA
      have ha' := Nat.le_of_lt ha
      wtm_at "m.run"
      · rename_i hc
        rw [full_neg (by omega) hb ha, Nat.mul_comm]
      · rename_i hc
        exact loopPost_next ⟨by omega, by wtm_at "m.sub"⟩
    · intro hA hB σ' hs
      refine seqP_sub hs ?_
      obtain ⟨s, hsd⟩ : ∃ s, s = n / 2 ^ l := ⟨_, rfl⟩
      rw [← hsd] at hm
      have hs1 : s * 2 ^ l = n := by rw [hsd]; exact Nat.div_mul_cancel hd
      have hs2 : s ≤ n := by rw [hsd]; exact Nat.div_le_self _ _
      obtain ⟨m, hmd⟩ : ∃ m, m = cdiv (2 * s + (l + 1) + 1) (2 ^ l) * 2 ^ l := ⟨_, rfl⟩
      rw [← hmd] at hm
      have hn1 : 2 * s + (l + 1) + 1 ≤ m := by rw [hmd]; exact le_cdiv hL0
      have hn2 : m < 2 * s + (l + 1) + 1 + 2 ^ l := by rw [hmd]; exact cdiv_lt hL0
      have hnd : 2 ^ l ∣ m := ⟨_, by rw [hmd, Nat.mul_comm]⟩
      have hp : ∀ x p, digit s x p < M m := fun x p => Nat.lt_of_lt_of_le digit_lt (Nat.le_trans (Nat.pow_le_pow_right (by decide) (show s ≤ m by omega)) (Nat.le_succ _))
      wtm_at "m.ws"
      refine x_assign rfl (by wtm_at "m.st") (x_val (X := .int (s : Nat)) ?_ ?_)
      · wtm_at "m.run"
        exact ⟨by rw [hsd], rfl⟩
      wtm_at "m.s"
      wtm_at "m.ws"
      refine x_assign rfl (by wtm_at "m.st") (x_val (X := .int (m : Nat)) ?_ ?_)
      · wtm_at "m.run"
        · rw [intBits_nat, hl1]; show 2 * s + (l + 1) + 1 < 1000000; omega
        · exact ⟨by rw [hmd, intBits_nat, hl1], rfl⟩
      wtm_at "m.run"
      refine call_det (s_convolved_minus S hF rfl hfm hkm hm hw hw' (by omega) (by omega) (by omega) hnd (hp a) (hp b)) (by dsimp only; omega) ?_
      have hc : ∀ p, dmN m (2 ^ l) (digit s a) (digit s b) p < M m := fun p => dmN_lt
      wtm_at "m.run"
      refine call_det (s_signed_sum S hF rfl rfl rfl hw hw' (by omega) (by omega) hn0 (by omega) (by omega) (by omega) (by omega) hc) (by dsimp only; omega) ?_
      wtm_at "m.run"
      rw [zmod_congr (ssum_dm hL0 hs1 (by rw [hl1]; omega) (lt_of_bitlen hA) (lt_of_bitlen hB)), zmod_nat]
theorem s_mul_school (hF : HF G Fs) {w a b : Nat} (hw : 0 < w) (hw' : w ≤ 60) (ha : Sm a) (hb : Sm b) : CallOK G 21 Fs (.ref 248) [R w a, R w b, .int w] (fun v => v = R w (a * b)) := by
  refine' callDefR S (i := 35) (f := 248) (c := 247) (k := 20) (ps := ["a", "b", "w"]) (by kernel_rfl) rfl (by kernel_rfl) (by exact fun _ _ _ => bind3 fun _ _ _ => rfl) rfl (zip_cons (zip_cons (zip_cons zip_nil))) ?h
  case h =>
    have u0 : G.mg (Str.ofString "normal") = some (.ref 46) := mgAt S (i := 3) (c := 45) (by kernel_rfl)
    have la := ha.len hw
    have lb := hb.len hw
    have hdd : ∀ x j, digit w x j < 2 ^ 64 := fun x j => Nat.lt_of_lt_of_le digit_lt (Nat.pow_le_pow_right (by decide) (by omega))
    obtain ⟨N, hN⟩ : ∃ N, N = dlen w a + dlen w b := ⟨_, rfl⟩
    wtm_at "m.run"
    rename_i fa
    refine ForT.natsE (Y := Unit) (fun t _ => [("b", R w b), ("w", .int w), ("mask", .int ((2 ^ w : Nat) - 1)), ("found", .own fa (nats (ofn N (digit w (mT w a b t)))))]) (fun _ _ => True) ?_ ?_ ?_
    · refine .intro () trivial ?_
      wtm_at "m.sub"
      rw [Int.toNat_natCast, R_len, R_len, ← hN, show mT w a b 0 = 0 by simp [mT, P, Nat.mod_one], nats_replicate]
      refine congrArg (MV.own fa) (congrArg nats ?_)
      exact (List.ext_getElem? fun q => by
        by_cases hq : q < N
        · simp [ofn, hq, digit]
        · simp [ofn, hq])
    · intro t ht _ _
      have e0 : digit w (mT w a b t) = two w (mT w a b (t + 1)) (mT w a b t) (t + 0) := by
        refine (two_start ?_).symm
        show mT w a b (t + 1) % P w t = mT w a b t % P w t
        rw [mT_succ, Nat.add_mul_mod_self_right]
      wtm_at "m.run"
      refine ForT.natsE (Y := Unit) (fun j _ => [("b", R w b), ("w", .int w), ("mask", .int ((2 ^ w : Nat) - 1)), ("at", .int (t : Nat)), ("limb", .int (digit w a t : Nat)), ("carry", .int (mC w a b t j : Nat)), ("found", .own fa (nats (ofn N (two w (mT w a b (t + 1)) (mT w a b t) (t + j)))))]) (fun _ _ => True) ?_ ?_ ?_
      · refine .intro () trivial ?_
        wtm_at "m.sub"
        · rw [e0]
        · rw [mC_zero]; rfl
      · intro j hj _ _
        have h1 := hdd a t
        have h2 := hdd b j
        wtm_at "m.run"
        refine loopPost_next (.intro () trivial ?_)
        wtm_at "m.sub"
        · rw [Int.toNat_natCast, ofn_set, two_at, mC_mod, two_step, Nat.add_assoc]
        · rw [two_at, mC_div]
      · intro _ σ' _ hs
        refine seqP_sub hs ?_
        obtain ⟨m1, m2⟩ := mC_end (a := a) (b := b) (t := t) hw
        wtm_at "m.run"
        refine loopPost_next (.intro () trivial ?_)
        wtm_at "m.sub"
        rw [R_len, Int.toNat_natCast, ofn_set, m1, two_step, two_end m2]
    · intro _ σ' _ hs
      refine seqP_sub hs ?_
      rw [mT_all hw, ofn_dig]
      wtm_at "m.run"
      rw [strip_Dig hw (by rw [hN]; exact mT_all_lt hw)]
theorem s_sqr_school (hF : HF G Fs) {w a : Nat} (hw : 0 < w) (hw' : w ≤ 60) (ha : Sm a) : CallOK G 21 Fs (.ref 255) [R w a, .int w] (fun v => v = R w (a * a)) := by
  refine' callDefR S (i := 36) (f := 255) (c := 254) (k := 20) (ps := ["a", "w"]) (by kernel_rfl) rfl (by kernel_rfl) (by exact fun _ _ _ => bind2 fun _ _ => rfl) rfl (zip_cons (zip_cons zip_nil)) ?h
  case h =>
    have u0 : G.mg (Str.ofString "normal") = some (.ref 46) := mgAt S (i := 3) (c := 45) (by kernel_rfl)
    have la := ha.len hw
    have hdd : ∀ x j, digit w x j < 2 ^ 60 := fun x j => Nat.lt_of_lt_of_le digit_lt (Nat.pow_le_pow_right (by decide) hw')
    obtain ⟨N, hN⟩ : ∃ N, N = 2 * dlen w a := ⟨_, rfl⟩
    wtm_at "m.run"
    rename_i fa
    refine ForT.natsE (Y := Unit) (fun t _ => [("a", R w a), ("w", .int w), ("size", .int (dlen w a : Nat)), ("mask", .int ((2 ^ w : Nat) - 1)), ("found", .own fa (nats (ofn N (digit w (qT w a t)))))]) (fun _ _ => True) ?_ ?_ ?_
    · refine .intro () trivial ?_
      wtm_at "m.sub"
      · rw [Int.toNat_natCast, R_len, ← hN, qT_zero, nats_replicate]
        refine congrArg (MV.own fa) (congrArg nats ?_)
        exact (List.ext_getElem? fun q => by
          by_cases hq : q < N
          · simp [ofn, hq, digit]
          · simp [ofn, hq])
      · rw [R_len]
    · intro t ht _ _
      have h1 := hdd a t
      have e0 : digit w (qT w a t) = two w (qT w a (t + 1)) (qT w a t) (2 * t) := by
        refine (two_start ?_).symm
        rw [qT_succ, P_succ, show digit w a t * digit w a t * P w (2 * t) + 2 * digit w a t * qH w a t * (P w (2 * t) * 2 ^ w) = (digit w a t * digit w a t + 2 * digit w a t * qH w a t * 2 ^ w) * P w (2 * t) by grind, Nat.add_mul_mod_self_right]
      wtm_at "m.run"
      refine ForK.up (Y := Unit) (t + 1) (dlen w a - t - 1) (fun j _ => [("a", R w a), ("w", .int w), ("size", .int (dlen w a : Nat)), ("mask", .int ((2 ^ w : Nat) - 1)), ("at", .int (t : Nat)), ("limb", .int (digit w a t : Nat)), ("carry", .int (qC w a t (qX w a t j) (2 * t + 1 + j) : Nat)), ("found", .own fa (nats (ofn N (two w (qT w a (t + 1)) (qT w a t) (2 * t + 1 + j)))))]) (fun _ _ => True) rfl (by rw [show ((dlen w a : Int) - ((t + 1 : Nat) : Int)).toNat = dlen w a - t - 1 by omega]) ?_ ?_ ?_
      · refine .intro () trivial ?_
        wtm_at "m.sub"
        · rw [Int.toNat_natCast, ofn_set, qC_first_mod, e0]
          exact congrArg (MV.own fa) (congrArg nats (congrArg (ofn N) two_step))
        · exact congrArg (fun n : Nat => MV.int (n : Int)) qC_first_div
      · intro j hj _ _
        have h2 := hdd a (t + 1 + j)
        wtm_at "m.run"
        refine loopPost_next (.intro () trivial ?_)
        have ej : t + (t + 1 + j) = 2 * t + 1 + j := by omega
        wtm_at "m.sub"
        · rw [Int.toNat_natCast, ofn_set, ej, two_at]
          exact congrArg (MV.own fa) (congrArg nats (congrArg (ofn N) ((congrArg (upd _ _) qC_mod).trans two_step)))
        · rw [ej, two_at]
          exact congrArg (fun n : Nat => MV.int (n : Int)) qC_div
      · intro _ σ' _ hs
        refine seqP_sub hs ?_
        wtm_at "m.run"
        refine v_while (Y := Nat) (fun q => [("a", R w a), ("w", .int w), ("size", .int (dlen w a : Nat)), ("mask", .int ((2 ^ w : Nat) - 1)), ("last", .int (q : Nat)), ("carry", .int (qC w a t (qE w a t) q : Nat)), ("found", .own fa (nats (ofn N (two w (qT w a (t + 1)) (qT w a t) q))))]) (fun _ => True) (fun q => N - q) ?_ ?_
        · refine .intro (t + dlen w a) trivial ?_
          have eq : 2 * t + 1 + (dlen w a - t - 1) = t + dlen w a := by omega
          wtm_at "m.sub"
          · rw [eq]
          · rw [eq]; rfl
        · intro q _
          have hq := fun h => qC_room (a := a) (t := t) (q := q) hw ht h
          wtm_at "m.run"
          · rename_i hc
            have hqN : q < N := by rw [hN]; exact hq (by exact_mod_cast hc)
            refine loopPost_next (.intro (q + 1) ⟨trivial, by omega⟩ ?_)
            wtm_at "m.sub"
            · rw [Int.toNat_natCast, ofn_set, two_at, qC_go_mod hw ht, two_step]
            · rw [two_at, qC_go_div]
          · rename_i hc
            refine loopPost_next (.intro () trivial ?_)
            have hz : qC w a t (qE w a t) q = 0 := by omega
            have he := qC_div_eq (q := q) hw ht
            rw [hz, Nat.zero_add] at he
            wtm_at "m.sub"
            rw [two_end he]
    · intro _ σ' _ hs
      refine seqP_sub hs ?_
      rw [qT_all hw, ofn_dig]
      wtm_at "m.run"
      have hlt : a * a < 2 ^ (w * N) := by
        refine Nat.lt_of_lt_of_le (Nat.mul_lt_mul'' (lt_dlen hw) (lt_dlen hw)) ?_
        rw [← Nat.pow_add]
        refine Nat.pow_le_pow_right (by decide) ?_
        rw [hN, Nat.mul_left_comm]; omega
      rw [strip_Dig hw hlt]
omit S in
theorem HF.up {Fs Fs' : FMap} (h : HF G Fs) (hl : Fs.le Fs') : HF G Fs' := fun a o e => hl a o (h a o e)
theorem s_ring_deep (S2 : Setup2 G) {w : Nat} (hw : 0 < w) (hw' : w ≤ 60) {fm : Addr} {least : Int} : ∀ (n : Nat), 0 < n → n ≤ 100 → ∀ {Fs : FMap}, HF G Fs → FnF Fs fm → (∀ x y, x < 2 ^ 400 → y < 2 ^ 400 → CallOK G 26 Fs (.ref fm) [R w x, R w y, .int w] (fun v => v = R w (x * y))) →
    ∀ a b, a < M n → b < M n → CallOK G (6 * n + 40) Fs (.ref 241) [R w a, R w b, .int (n : Nat), .int w, .int least, .raw (.ref fm)] (fun v => v = R w (a * b % M n)) := by
  intro n
  induction n using Nat.strongRecOn with
  | ind n ih =>
  intro hn0 hn Fs hF hfm hm a b ha hb
  have hm26 : ∀ x y, x < M n → y < M n → CallOK G 26 Fs (.ref fm) [R w x, R w y, .int w] (fun v => ∃ z, v = R w z ∧ Sm z ∧ z % M n = x * y % M n) := fun x y hx hy => by
    have h1 : M n ≤ 2 ^ 400 := M_le (by omega)
    refine (hm x y (by omega) (by omega)).mono (Nat.le_refl _) (FMap.le.refl _) fun v e => ⟨x * y, e, ?_, rfl⟩
    have : x * y < 2 ^ 400 * 2 ^ 400 := Nat.mul_lt_mul'' (by omega) (by omega)
    rw [← Nat.pow_add] at this
    exact Sm.of this (by decide)
  refine' callDefC S (i := 33) (f := 241) (c := 240) (k := 6 * n + 39) (ps := ["a", "b", "n", "w", "least", "mul"]) (by kernel_rfl) rfl (by kernel_rfl) (by exact fun _ _ _ => bind6 fun _ _ _ _ _ _ => rfl) rfl (zip_cons (zip_cons (zip_cons (zip_cons (zip_cons (zip_cons zip_nil)))))) ?h
  case h =>
    have u0 : G.mg (Str.ofString "pieces_for") = some (.ref 227) := mgAt S (i := 31) (c := 226) (by kernel_rfl)
    have u1 : G.mg (Str.ofString "ring_size") = some (.ref 194) := mgAt S (i := 26) (c := 193) (by kernel_rfl)
    have u2 : G.mg (Str.ofString "ring_mul_pieces") = some (.ref 220) := mgAt S (i := 30) (c := 219) (by kernel_rfl)
    have u3 : G.mg (Str.ofString "ring_mul") = some (.ref 144) := mgAt S (i := 18) (c := 143) (by kernel_rfl)
    have u4 : G.mg (Str.ofString "ring_deep") = some (.ref 241) := mgAt S (i := 33) (c := 240) (by kernel_rfl)
    refine WSc_cons ?_
    wtm_at "m.go"
    refine call_any (s_pieces_for S hF rfl hn0 (by omega)) (by dsimp only; omega) ?_
    rintro v ⟨l, rfl, hd, hl⟩
    have hL : 2 ^ l ≤ 8 := Nat.pow_le_pow_right (n := 2) (by decide) hl
    have hL0 := Nat.two_pow_pos l
    have hl1 : bitlen (2 ^ l) = l + 1 := bitlen_eq (Nat.le_refl _) (Nat.pow_lt_pow_right (by decide) (Nat.lt_succ_self _))
    have hnl : n / 2 ^ l ≤ n := Nat.div_le_self _ _
    obtain ⟨m, hmd⟩ : ∃ m, m = cdiv (2 * (n / 2 ^ l) + (l + 1) + 1) (2 ^ l) * 2 ^ l := ⟨_, rfl⟩
    have hm1 : 2 * (n / 2 ^ l) + (l + 1) + 1 ≤ m := by rw [hmd]; exact le_cdiv hL0
    wtm_at "m.s"
    refine WSc_cons ?_
    refine x_assign rfl (by wtm_at "m.st") (x_val (X := .int (m : Nat)) ?_ ?_)
    · wtm_at "m.run"
      · rw [intBits_nat, hl1]; show 2 * (n / 2 ^ l) + (l + 1) + 1 < 1000000; omega
      · exact ⟨by rw [hmd, intBits_nat, hl1], rfl⟩
    wtm_at "m.s"
    refine WSc_cons ?_
    wtm_at "m.run"
    · refine call_det (s_ring_mul S hF rfl hfm (by omega) (hm26 a b ha hb) hw hw' hn0 (by omega)) (by dsimp only; omega) ?_
      wtm_at "m.run"
    · refine call_det (s_ring_mul S hF rfl hfm (by omega) (hm26 a b ha hb) hw hw' hn0 (by omega)) (by dsimp only; omega) ?_
      wtm_at "m.run"
    rename_i h1 h2
    have hmn : m < n := by omega
    rw [← S2.tc]
    refine WSc_def (σ₀ := [("least", .int least), ("lesser", .int (m : Nat)), ("mul", .raw (.ref fm))]) S2.nest rfl rfl rfl (fun _ => rfl) ?hx S2.npos S2.nqual ?hcap ?hcaps ?hname ?_
    case hx => wtm_at "m.lk"
    case hcap => exact (CompOk.of (names := []) rfl).free
    case hcaps => wtm_at "m.caps"
    case hname => exact allKey.get ⟨ne_of_beq (by wtm_at "m.ne"), ne_of_beq (by wtm_at "m.ne"), ne_of_beq (by wtm_at "m.ne"), trivial⟩
    intro Fs' fa clos hle K
    have hfa := K.fn
    have hF' := HF.up hF hle
    have hfm' := hfm.mono hle
    have hm' : ∀ x y, x < 2 ^ 400 → y < 2 ^ 400 → CallOK G 26 Fs' (.ref fm) [R w x, R w y, .int w] (fun v => v = R w (x * y)) := fun x y hx hy => (hm x y hx hy).mono (Nat.le_refl _) hle fun _ e => e
    have hcall : ∀ x y, x < M m → y < M m → CallOK G (6 * m + 41) Fs' (.ref fa) [R w x, R w y, .int w] (fun v => ∃ z, v = R w z ∧ Sm z ∧ z % M m = x * y % M m) := fun x y hx hy => by
      refine WS.callC (k := 6 * m + 40) (ps := ["x", "y", "width"]) K rfl rfl rfl ?hc1 ?hb1 (by decide) ?hl1 ?hf1 rfl ?hw1
      case hc1 => decide
      case hb1 =>
        intro name doc pm cdv ct
        exact bind3 fun _ _ _ => rfl
      case hl1 => decide
      case hf1 => exact allKey.get ⟨by decide +kernel, by decide +kernel, by decide +kernel, trivial⟩
      case hw1 =>
        show WS _ _ _ [("x", R w x), ("y", R w y), ("width", .int w), ("least", .int least), ("lesser", .int (m : Nat)), ("mul", .raw (.ref fm))] _
        wtm_at "m.run"
        refine call_det (ih m hmn (by omega) (by omega) hF' hfm' hm' x y hx hy) (Nat.le_refl _) ?_
        wtm_at "m.run"
        have : x * y % M m < M m := Nat.mod_lt _ M_pos
        exact ⟨Sm.ofM (by omega) this, Nat.mod_mod _ _⟩
    wtm_at "m.run"
    refine call_det (s_ring_mul_pieces S hF' rfl rfl hfa (km := 6 * m + 41) (by omega) (by rw [← hmd]; exact hcall) hw hw' hn0 (by omega) hl hd ha hb) (by dsimp only; omega) ?_
    wtm_at "m.run"
theorem s_mul_rings_deep (hF : HF G Fs) (S2 : Setup2 G) {w a b : Nat} {least : Int} {fm : Addr} (hfm : FnF Fs fm) (hm : ∀ x y, x < 2 ^ 400 → y < 2 ^ 400 → CallOK G 26 Fs (.ref fm) [R w x, R w y, .int w] (fun v => v = R w (x * y)))
    (hw : 0 < w) (hw' : w ≤ 60) (ha : a < 2 ^ 40) (hb : b < 2 ^ 40) :
    CallOK G 600 Fs (.ref 234) [R w a, R w b, .int w, .int least, .raw (.ref fm)] (fun v => v = R w (a * b)) := by
  have hsa : Sm a := Sm.of ha (by decide)
  have hsb : Sm b := Sm.of hb (by decide)
  have la := hsa.len hw
  have lb := hsb.len hw
  have ba := bitlen_le_of ha
  have bb := bitlen_le_of hb
  refine' callDefR S (i := 32) (f := 234) (c := 233) (k := 599) (ps := ["a", "b", "w", "least", "mul"]) (by kernel_rfl) rfl (by kernel_rfl) (by exact fun _ _ _ => bind5 fun _ _ _ _ _ => rfl) rfl (zip_cons (zip_cons (zip_cons (zip_cons (zip_cons zip_nil))))) ?h
  case h =>
    have u0 : G.mg (Str.ofString "ring_size") = some (.ref 194) := mgAt S (i := 26) (c := 193) (by kernel_rfl)
    have u1 : G.mg (Str.ofString "ring_deep") = some (.ref 241) := mgAt S (i := 33) (c := 240) (by kernel_rfl)
    have u2 : G.mg (Str.ofString "bits") = some (.ref 88) := mgAt S (i := 9) (c := 87) (by kernel_rfl)
    have hz : ∀ {c : Nat}, (dlen w c : Int) = 0 → c = 0 := fun h => dlen_eq_zero.mp (by exact_mod_cast h)
    wtm_at "m.one"
    · rename_i hc
      wtm_at "m.run"
      rw [hz hc, Nat.zero_mul, R_zero]
    · rename_i h1 h2
      wtm_at "m.run"
      rw [hz h2, Nat.mul_zero, R_zero]
    rename_i h1 h2
    have ha0 : 0 < a := Nat.pos_of_ne_zero fun e => h1 (by rw [e, dlen_zero]; rfl)
    have hb0 : 0 < b := Nat.pos_of_ne_zero fun e => h2 (by rw [e, dlen_zero]; rfl)
    have ba0 := bitlen_pos ha0
    obtain ⟨t, ht⟩ : ∃ t, t = bitlen a + bitlen b := ⟨_, rfl⟩
    have hdiv : bitlen t / 2 ≤ 3 := by
      have : bitlen t ≤ 7 := bitlen_le_of (show t < 2 ^ 7 by omega)
      omega
    obtain ⟨p, hpd⟩ : ∃ p, p = 2 ^ (bitlen t / 2) := ⟨_, rfl⟩
    have hp0 : 0 < p := by rw [hpd]; exact Nat.two_pow_pos _
    have hp8 : p ≤ 2 ^ 3 := by rw [hpd]; exact Nat.pow_le_pow_right (by decide) hdiv
    obtain ⟨n, hnd⟩ : ∃ n, n = cdiv t p * p := ⟨_, rfl⟩
    have hn1 : t ≤ n := by rw [hnd]; exact le_cdiv hp0
    have hn2 : n < t + p := by rw [hnd]; exact cdiv_lt hp0
    have hti : (bitlen a : Int) + (bitlen b : Int) = (t : Nat) := by rw [ht]; push_cast; rfl
    wtm_at "m.one"
    refine WS_cons ?_
    refine x_assign rfl (by wtm_at "m.st") (x_val (X := .int (n : Nat)) ?_ ?_)
    · wtm_at "m.run"
      all_goals rw [intBits_nat, ← ht]
      · show bitlen t / 2 ≤ 1000000; omega
      · exact Nat.two_pow_pos _
      · rw [← hpd]; omega
      · exact ⟨by rw [← hpd, ← hnd], rfl⟩
    have ua := lt_bitlen (n := a)
    have ub := lt_bitlen (n := b)
    have hab : a * b < 2 ^ t := by rw [ht, Nat.pow_add]; exact Nat.mul_lt_mul'' ua ub
    have p1 : 2 ^ t ≤ 2 ^ n := Nat.pow_le_pow_right (by decide) hn1
    have p2 : 2 ^ bitlen a ≤ 2 ^ t := Nat.pow_le_pow_right (by decide) (by omega)
    have p3 : 2 ^ bitlen b ≤ 2 ^ t := Nat.pow_le_pow_right (by decide) (by omega)
    have hM : M n = 2 ^ n + 1 := rfl
    wtm_at "m.run"
    refine call_det (s_ring_deep S S2 hw hw' n (by omega) (by omega) hF hfm hm a b (by omega) (by omega)) (by dsimp only; omega) ?_
    wtm_at "m.run"
    rw [Nat.mod_eq_of_lt (by omega)]
section
omit S in
theorem p30 {w : Nat} (h : w ≤ 8) : 2 ^ w < 1073741824 := Nat.lt_of_le_of_lt (Nat.pow_le_pow_right (by decide) h) (by decide)
theorem s_law_row (hF : HF G Fs) {a w : Nat} (hw : 0 < w) (hw' : w ≤ 8) (ha : Sm a) : CallOK G 20 Fs (.ref 281) [.int a, .int w] (fun v => v = R w a) := by
  have h30 := p30 hw'
  have la := ha.len hw
  have h0 := Nat.two_pow_pos w
  refine' callDefR S (i := 41) (f := 281) (c := 280) (k := 19) (ps := ["number", "w"]) (by kernel_rfl) rfl (by kernel_rfl) (by exact fun _ _ _ => bind2 fun _ _ => rfl) rfl (zip_cons (zip_cons zip_nil)) ?h
  case h =>

    wtm_at "m.run"
    rename_i fa
    refine v_while (Y := Nat) (fun i => [("number", .int (a / 2 ^ (w * i) : Nat)), ("w", .int w), ("found", .own fa (nats (Dig w i a)))]) (fun i => i ≤ dlen w a) (fun i => dlen w a - i) ?_ ?_
    · refine .intro 0 (Nat.zero_le _) ?_
      wtm_at "m.sub"
      · rw [Nat.mul_zero, Nat.pow_zero, Nat.div_one]
    · intro i hi
      wtm_at "m.run"
      · rename_i hc
        have hlt : i < dlen w a := by
          refine Nat.lt_of_not_le fun hn => ?_
          have h1 : a < 2 ^ (w * i) := by rw [show i = dlen w a by omega]; exact lt_dlen hw
          rw [Nat.div_eq_of_lt h1] at hc
          exact absurd hc (by decide)
        refine loopPost_next (.intro (i + 1) ⟨hlt, by omega⟩ ?_)
        wtm_at "m.sub"
        · rw [Dig_succ, nats_append]; rfl
        · rw [bmul, ← Nat.div_div_eq_div_mul]
      · rename_i hc
        have hz : a / 2 ^ (w * i) = 0 := Nat.eq_zero_of_not_pos fun h => hc (by exact_mod_cast h)
        have h1 : a < 2 ^ (w * i) := by
          rcases (Nat.div_eq_zero_iff).mp hz with h | h
          · exact absurd h (Nat.pos_iff_ne_zero.mp (Nat.two_pow_pos _))
          · exact h
        have := dlen_le hw h1
        rw [show i = dlen w a by omega]; rfl
local macro_rules | `(tactic| wtm_at "m.sp") => `(tactic| refine' call_det (s_law_row ‹_› ‹_› ?_ ?_ ?_) ?hkk ?_)
omit S in
theorem mints_length {ns : List Int} : (mints ns).length = ns.length := by simp [mints]
local macro_rules | `(tactic| wtm_at "m.ar") => `(tactic| (simp only [mints_length] at *; omega))
noncomputable def dealL (ns : List Int) (p : Nat) (sd : Int) : List MV := [.list (mints ns), .int (p : Int), .int sd]
omit S in
theorem at3_0 {a b c : MV} : [a, b, c][(0 : Int).toNat]? = some a := rfl
omit S in
theorem at3_1 {a b c : MV} : [a, b, c][(1 : Int).toNat]? = some b := rfl
omit S in
theorem at3_2 {a b c : MV} : [a, b, c][(2 : Int).toNat]? = some c := rfl
omit S in
theorem st3_0 {a b c v : MV} : ([a, b, c].set (Int.toNat 1) v)[(0 : Int).toNat]? = some a := rfl
omit S in
theorem st3_1 {a b c v : MV} : ([a, b, c].set (Int.toNat 1) v)[(1 : Int).toNat]? = some v := rfl
omit S in
theorem st3_2 {a b c v : MV} : ([a, b, c].set (Int.toNat 2) v)[(2 : Int).toNat]? = some v := rfl
omit S in
theorem mints_getS {ns : List Int} {p b : Nat} (hb : b = 1) (h : p < ns.length) : (mints ns)[((p + 1 - b : Nat) : Int).toNat]? = some (.int (ns.getD p 0)) := by
  subst hb
  rw [Int.toNat_natCast, Nat.add_sub_cancel]
  simp [mints, h]
local macro_rules | `(tactic| wtm_at "m.el") => `(tactic| first | with_reducible exact st3_0 | with_reducible exact st3_1 | with_reducible exact st3_2 | (with_reducible exact mints_getS rfl (by simp only [mints_length] at *; omega)) | with_reducible exact at3_0 | with_reducible exact at3_1 | with_reducible exact at3_2)
theorem s_law_take (hF : HF G Fs) {ns : List Int} {p many : Nat} {sd : Int} (hn : ns.length ≤ 100) (hm : 0 < many) (hm' : many < 1000000) :
    CallIO G 20 Fs (.ref 267) (dealL ns p sd) [.int (many : Nat)] (fun v xs => ∃ p' sd' i, xs = dealL ns p' sd' ∧ v = .int (i : Nat) ∧ i < many) := by
  refine' callDefIO S (i := 39) (f := 267) (c := 266) (k := 19) (p0 := "deal") (ps := ["many"]) (by kernel_rfl) rfl (by kernel_rfl) (by exact fun _ _ _ => bind2 fun _ _ => rfl) rfl (zip_cons zip_nil) ?h
  case h =>
    intro fa
    unfold dealL
    wtm_at "m.run"
    · rename_i hc
      rw [mints_length] at hc
      refine ⟨_, _, _, rfl, rfl, ⟨by omega, by omega⟩, mints_getS rfl (by omega), ?_⟩
      wtm_at "m.run"
      have h0 : (0 : Int) < many := by omega
      refine retIO_ret get_0 ?_
      refine ⟨p + 1, sd, (ns.getD p 0 % (many : Int)).toNat, rfl, ?_, ?_⟩
      · rw [Int.toNat_of_nonneg (Int.emod_nonneg _ (by omega))]
      · have := Int.emod_lt_of_pos (ns.getD p 0) h0
        omega
    · have h0 : (0 : Int) < many := by omega
      refine retIO_ret get_0 ?_
      refine ⟨p, _, ((sd * 69621 + 7919) % 2147483647 / 32 % (many : Int)).toNat, rfl, ?_, ?_⟩
      · rw [Int.toNat_of_nonneg (Int.emod_nonneg _ (by omega))]
      · have := Int.emod_lt_of_pos ((sd * 69621 + 7919) % 2147483647 / 32) h0
        omega
local macro_rules | `(tactic| wtm_at "m.call") => `(tactic| ((with_reducible refine' x_callIO (x := Str.ofString "_law_take") ?hv ?hf ?hx ?hk ?hg ?hk2 rfl ?_); wtm_at "m.cio"))
theorem take_any (hF : HF G Fs) {ns : List Int} {p k' : Nat} {sd j : Int} {Q : MV → List MV → Prop} (hn : ns.length ≤ 100) (hm : 0 < j) (hm' : j < 1000000) (hk : 20 ≤ k')
    (h : ∀ p' sd' (i : Nat), (i : Int) < j → Q (.int (i : Nat)) (dealL ns p' sd')) : CallIOK G k' Fs (.ref 267) (dealL ns p sd) [.int j] Q := by
  obtain ⟨many, rfl⟩ := Int.eq_ofNat_of_zero_le (Int.le_of_lt hm)
  refine (s_law_take S hF hn (by omega) (by omega)).any hk ?_
  rintro v xs ⟨p', sd', i, rfl, rfl, hi⟩
  exact h p' sd' i (by omega)
local macro_rules | `(tactic| wtm_at "m.e") => `(tactic| ((with_reducible show CallIOK _ _ _ _ _ _ _); (refine take_any ‹_› ‹_› ‹_› ?_ ?_ ?_ ?_)))
theorem s_law_great (hF : HF G Fs) {ns : List Int} {p size : Nat} {sd : Int} (hn : ns.length ≤ 100) (hs : size ≤ 40) :
    CallIO G 24 Fs (.ref 274) (dealL ns p sd) [.int (size : Nat)] (fun v xs => ∃ p' sd' i, xs = dealL ns p' sd' ∧ v = .int (i : Nat) ∧ i < 2 ^ size) := by
  refine' callDefIO S (i := 40) (f := 274) (c := 273) (k := 23) (p0 := "deal") (ps := ["size"]) (by kernel_rfl) rfl (by kernel_rfl) (by exact fun _ _ _ => bind2 fun _ _ => rfl) rfl (zip_cons zip_nil) ?h
  case h =>
    have u0 : G.mg (Str.ofString "_law_take") = some (.ref 267) := mgAt S (i := 39) (c := 266) (by kernel_rfl)
    intro fa
    wtm_at "m.run"
    intro p sd kind hkind
    wtm_at "m.run"
    · have := Nat.two_pow_pos size
      obtain rfl | rfl : kind = 0 ∨ kind = 1 := by omega
      · refine ⟨_, _, _, rfl, rfl, ⟨by decide, by decide⟩, rfl, ?_⟩
        wtm_at "m.run"
        refine retIO_ret get_0 ?_
        exact ⟨p, sd, 2 ^ size - 1, rfl, by rw [Int.natCast_sub (by omega)]; rfl, by omega⟩
      · refine ⟨_, _, _, rfl, rfl, ⟨by decide, by decide⟩, rfl, ?_⟩
        wtm_at "m.run"
        refine retIO_ret get_0 ?_
        exact ⟨p, sd, 2 ^ size / 2, rfl, rfl, Nat.div_lt_self this (by decide)⟩
    · refine ForK.up0 (size / 16 + 1) (Y := Nat × Int × Nat) (fun _ y => [("deal", .own fa (dealL ns y.1 y.2.1)), ("size", .int size), ("found", .int (y.2.2 : Nat))]) (fun _ _ => True) ?_ ?_ ?_ ?_
      · exact Int.toNat_natCast _
      · refine .intro (p, sd, 0) trivial ?_
        wtm_at "m.sub"
      · intro i hi y _
        wtm_at "m.run"
        intro p' sd' i hi
        wtm_at "m.run"
        refine loopPost_next (.intro (p', sd', y.2.2 * 65536 + i) trivial ?_)
        wtm_at "m.sub"
      · intro y σ' _ hs
        refine seqP_sub hs ?_
        wtm_at "m.run"
        · exact Nat.two_pow_pos size
        refine retIO_ret get_0 ?_
        exact ⟨y.1, y.2.1, _, rfl, rfl, Nat.mod_lt _ (Nat.two_pow_pos size)⟩
theorem great_any (hF : HF G Fs) {ns : List Int} {p k' size : Nat} {sd j : Int} {Q : MV → List MV → Prop} (hn : ns.length ≤ 100) (hj : j = (size : Nat)) (hm' : size ≤ 40) (hk : 24 ≤ k')
    (h : ∀ p' sd' (i : Nat), i < 2 ^ size → Q (.int (i : Nat)) (dealL ns p' sd')) : CallIOK G k' Fs (.ref 274) (dealL ns p sd) [.int j] Q := by
  subst hj
  refine (s_law_great S hF hn hm').any hk ?_
  rintro v xs ⟨p', sd', i, rfl, rfl, hi⟩
  exact h p' sd' i hi
end
local macro_rules | `(tactic| wtm_at "m.sp") => `(tactic| refine' call_det (s_law_row ‹_› ‹_› ?_ ?_ ?_) ?hkk ?_)
section
noncomputable def CompN (G : GCtx) (C : SC) (names : List Str) (test : Expr) (scope : Scope) (items : List (List MV)) (σ₁ : Vars) (Q : Prop) : Prop :=
  ∃ σ₀, Caps σ₁ scope σ₀ ∧ items.length ≤ 1000000 ∧ (∀ x₁ ∈ items, WB G (compSC C scope) test (σ₀.setAll names x₁) (fun b σ'' => b = false ∧ σ'' = σ₀.setAll names x₁)) ∧ Q
omit S in
theorem CompN.K {C : SC} {σ : Vars} {names : List Str} {elt test : Expr} {scope : Scope} {items : List (List MV)} {Q : List MV → Prop} (h : CompN G C names test scope items σ (Q [])) : CompK G C names [test] elt scope items σ Q := by
  obtain ⟨σ₀, hc, hl, he, q⟩ := h
  refine ⟨σ₀, fun _ => false, fun _ => .none, hc, hl, fun x₁ hx => WTs_one ((he x₁ hx).mono fun v σ' ⟨a, b⟩ => ⟨b, a⟩), fun x₁ _ h => (nomatch h), ?_⟩
  rw [show items.filter (fun _ => false) = [] from List.filter_eq_nil_iff.mpr fun _ _ h => absurd h (by decide)]; exact q
omit S in
theorem x_comp0 {C : SC} {σ : Vars} {tgt : Expr} {names : List Str} {elt iter test : Expr} {scope : Scope} {pos : Pos} {Q : Addr → List MV → Vars → Prop} (hk : CompOk C names scope) (hp : plainE iter = true)
    (h : WIT G C tgt names iter σ (fun items σ₁ => CompN G C names test scope items σ₁ (∀ a, Q a [] σ₁))) : WF G C (.ListComp elt [⟨tgt, iter, [test], 0⟩] scope pos) σ Q :=
  WF_comp hk.nm hk.cell hk.kind hk.names hk.free (h.mono fun _ σ₂ q => CompN.K (Q := fun ys => ∀ a, Q a ys σ₂) q) (fun env x => folded_of hp)
local macro_rules | `(tactic| wtm_at "m.wb") => `(tactic| (with_reducible refine' WB_nelist (r := .List [] _) ?_ ?hk ?hm); (case hk => exact Nat.le_of_ble_eq_true rfl); (case hm => rfl))
theorem s_law_value (hF : HF G Fs) {n w : Nat} (hw : 0 < w) (hw' : w ≤ 8) (hn : Sm n) : CallOK G 20 Fs (.ref 286) [R w n, .int w] (fun v => v = .int n) := by
  have h30 := p30 hw'
  have ln := hn.len hw
  have h0 := Nat.two_pow_pos w
  refine' callDefR S (i := 42) (f := 286) (c := 285) (k := 19) (ps := ["row", "w"]) (by kernel_rfl) rfl (by kernel_rfl) (by exact fun _ _ _ => bind2 fun _ _ => rfl) rfl (zip_cons (zip_cons zip_nil)) ?h
  case h =>

    wtm_at "m.s"
    wtm_at "m.s"
    wtm_at "m.s"
    wtm_at "m.s"
    wtm_at "m.s"
    refine WE_of_WF (x_comp0 (names := ["limb"]) (CompOk.of rfl) rfl (x_wit ?_))
    wtm_at "m.s"
    refine ⟨_, rfl, [("w", .int w)], by wtm_at "m.caps", ?_, fun x₁ hx => ?_, ?_⟩
    · rw [List.length_map, nats_length, dg_length]; omega
    · obtain ⟨v, hv, rfl⟩ := List.mem_map.mp hx
      obtain ⟨d, hd, rfl⟩ := List.mem_map.mp hv
      obtain ⟨i, _, rfl⟩ := List.mem_map.mp hd
      have hlt : digit w n i < 2 ^ w := digit_lt
      show WB _ _ _ (Vars.set [("w", .int w)] "limb" (.int (digit w n i : Nat))) _
      wtm_at "m.s"
      refine WB_chain ?_ rfl rfl rfl
      wtm_at "m.run"
      refine ⟨fun h => absurd (Int.natCast_nonneg _) h, fun _ => ?_⟩
      wtm_at "m.run"
      refine ⟨fun _ => ⟨rfl, rfl⟩, fun h => ?_⟩
      exact absurd (by exact_mod_cast hlt : ((digit w n i : Nat) : Int) < ((2 ^ w : Nat) : Int)) h
    intro fa
    wtm_at "m.s"
    refine WA_nil ⟨by decide, fun _ => ⟨[], [], rfl, rfl, ?_⟩⟩
    show ifP _ _ false _
    wtm_at "m.run"
    refine ⟨(dg w n).map Int.ofNat, [], by rw [← nats_mints], rfl, ?_⟩
    have key : (!decide ((dg w n).map Int.ofNat = [])) = decide (0 < n) := by
      by_cases h : n = 0
      · subst h; rw [dg_zero]; rfl
      · have h1 : 0 < n := by omega
        have h2 : 0 < dlen w n := Nat.pos_of_ne_zero fun e => h (dlen_eq_zero.mp e)
        have h3 : (dg w n).map Int.ofNat ≠ [] := fun e => by
          have := congrArg List.length e
          rw [List.length_map, dg_length, List.length_nil] at this
          omega
        simp [h1, h3]
    rw [key]
    have fin : ∀ i d, (dg w n).reverse[i]? = some d → i < dlen w n ∧ n / 2 ^ (w * (dlen w n - i)) * 2 ^ w + d = n / 2 ^ (w * (dlen w n - (i + 1))) := fun i d h => by
      have hi : i < dlen w n := by have := (List.getElem?_eq_some_iff.mp h).1; rwa [List.length_reverse, dg_length] at this
      refine ⟨hi, ?_⟩
      rw [List.getElem?_reverse (by rw [dg_length]; exact hi), dg_length, dg_get (by omega)] at h
      cases h
      obtain ⟨k, hk⟩ : ∃ k, dlen w n - i = k + 1 := ⟨dlen w n - i - 1, by omega⟩
      rw [hk, show dlen w n - (i + 1) = k by omega, show dlen w n - 1 - i = k by omega, bmul, ← Nat.div_div_eq_div_mul, Nat.mul_comm]
      exact Nat.div_add_mod _ _
    by_cases hn0 : 0 < n
    · rw [decide_eq_true hn0]
      have h2 : 0 < dlen w n := Nat.pos_of_ne_zero fun e => by have := dlen_eq_zero.mp e; omega
      wtm_at "m.run"
      · rename_i hc
        rw [show (-1 + (dlen w n : Int)).toNat = dlen w n - 1 by omega] at hc
        exact absurd (by exact_mod_cast hc) (digit_top hw hn0)
      · rw [nats_reverse]
        refine ForK.nats (Y := Unit) (fun i _ => [("row", R w n), ("w", .int w), ("found", .int (n / 2 ^ (w * (dlen w n - i)) : Nat))]) (fun _ _ => True) ?_ ?_ ?_
        · refine .intro () trivial ?_
          wtm_at "m.sub"
          rw [Nat.sub_zero, Nat.div_eq_of_lt (lt_dlen hw)]; rfl
        · intro i d hd _ _
          obtain ⟨hi, he⟩ := fin i d hd
          wtm_at "m.run"
          refine loopPost_next (.intro () trivial ?_)
          wtm_at "m.sub"
          rw [he]
        · intro _ σ' _ hs
          refine seqP_sub hs ?_
          wtm_at "m.run"
          rw [List.length_reverse, dg_length, Nat.sub_self, Nat.mul_zero, Nat.pow_zero, Nat.div_one]
    · rw [decide_eq_false hn0]
      wtm_at "m.run"
      · rw [nats_reverse]
        refine ForK.nats (Y := Unit) (fun i _ => [("row", R w n), ("w", .int w), ("found", .int (n / 2 ^ (w * (dlen w n - i)) : Nat))]) (fun _ _ => True) ?_ ?_ ?_
        · refine .intro () trivial ?_
          wtm_at "m.sub"
          rw [Nat.sub_zero, Nat.div_eq_of_lt (lt_dlen hw)]; rfl
        · intro i d hd _ _
          obtain ⟨hi, he⟩ := fin i d hd
          wtm_at "m.run"
          refine loopPost_next (.intro () trivial ?_)
          wtm_at "m.sub"
          rw [he]
        · intro _ σ' _ hs
          refine seqP_sub hs ?_
          wtm_at "m.run"
          rw [List.length_reverse, dg_length, Nat.sub_self, Nat.mul_zero, Nat.pow_zero, Nat.div_one]
local macro_rules | `(tactic| wtm_at "m.sp") => `(tactic| refine' call_det (s_law_value ‹_› ‹_› ?_ ?_ ?_) ?hkk ?_)
local macro_rules | `(tactic| wtm_at "m.wp") => `(tactic| ((with_reducible refine' seqF_next ?hs ?_); (case hs => wtm_at "m.norm")))
local macro_rules | `(tactic| wtm_at "m.call") => `(tactic| ((with_reducible first | refine x_callB (x := Str.ofString "abs") (mgn_abs ‹_›) bi_abs ?hb ?hx ?hk rfl ?_ | refine x_callB (x := Str.ofString "int") (mgn_int ‹_›) bi_int ?hb ?hx ?hk rfl ?_); (case hb => exact trivial); (case hx => wtm_at "m.lk"); (case hk => wtm_at "m.okn")))
noncomputable def absI (i : Int) : Int := if i < 0 then -i else i
noncomputable def absM : List MV → MV
  | [.int i] => .int (absI i)
  | _ => .none
theorem s_law_deal (hF : HF G Fs) {ms : List Int} (hl : ms.length ≤ 100) :
    CallF G 20 Fs (.ref 260) [.list (mints ms)] (fun xs => ∃ ns sd, ns.length ≤ 100 ∧ xs = dealL ns 0 sd) := by
  refine' callDefF S (i := 38) (f := 260) (c := 259) (k := 19) (ps := ["script"]) (by kernel_rfl) rfl (by kernel_rfl) (by exact fun _ _ _ => bind1 fun _ => rfl) rfl (zip_cons zip_nil) ?h
  case h =>
    refine WSF_cons ?_
    refine x_assign_comp (names := ["number"]) (CompOk.of rfl) (by wtm_at "m.st") rfl rfl (x_wit ?_)
    wtm_at "m.run"
    · rw [mints_length]; omega
    refine ⟨[], absM, Caps.nil, ?_, fun x₁ hx => ?_, ?_⟩
    · rw [List.length_map, List.length_take, mints_length]; omega
    · obtain ⟨v, hv, rfl⟩ := List.mem_map.mp hx
      obtain ⟨d, hd, rfl⟩ := List.mem_map.mp (List.mem_of_mem_take hv)
      show WE _ _ _ (Vars.set [] "number" (.int d)) _
      wtm_at "m.run"
      refine CallB_int ?_
      wtm_at "m.run"
      refine CallB_abs ?_
      wtm_at "m.run"
      exact ⟨rfl, rfl⟩
    · intro fa
      have key : (((mints ms).take (Int.toNat 24)).map fun v => [v]).map absM = mints ((ms.take 24).map absI) := by
        simp only [mints, List.map_take, List.map_map]; rfl
      rw [key]
      obtain ⟨ns, hns⟩ : ∃ ns, ns = (ms.take 24).map absI := ⟨_, rfl⟩
      have hnl : ns.length ≤ 100 := by rw [hns, List.length_map, List.length_take]; omega
      rw [← hns]
      wtm_at "m.run"
      refine WSF_cons ?_
      wtm_at "m.run"
      refine WSF_cons ?_
      wtm_at "m.run"
      refine ForK.list (Y := Int) (fun _ sd => [("numbers", .list (mints ns)), ("seed", .int sd)]) (fun _ _ => True) ?_ ?_ ?_
      · refine .intro 12 trivial ?_
        wtm_at "m.sub"
      · intro i x₁ hx sd _
        obtain ⟨d, hd, rfl⟩ := List.mem_map.mp (List.mem_of_getElem? hx)
        wtm_at "m.run"
        refine loopPost_next (.intro ((sd * 69621 + d % 1000003 + 13) % 2147483647) trivial ?_)
        wtm_at "m.sub"
      · intro sd σ' _ hs
        refine seqF_sub hs ?_
        refine WSF_ret (WF_list ?_)
        wtm_at "m.run"
        exact ⟨ns, sd, hnl, rfl⟩
end
local macro_rules | `(tactic| wtm_at "m.sp") => `(tactic| refine' call_det (s_law_value ‹_› ‹_› ?_ ?_ ?_) ?hkk ?_)
section
local macro_rules | `(tactic| wtm_at "m.call") => `(tactic| ((with_reducible refine' x_callIO (x := Str.ofString "_law_take") ?hv ?hf ?hx ?hk ?hg ?hk2 rfl ?_); wtm_at "m.cio"))
local macro_rules | `(tactic| wtm_at "m.call") => `(tactic| ((with_reducible refine' x_callIO (x := Str.ofString "_law_great") ?hv ?hf ?hx ?hk ?hg ?hk2 rfl ?_); wtm_at "m.cio"))
local macro_rules | `(tactic| wtm_at "m.e") => `(tactic| ((with_reducible show CallIOK _ _ _ (.ref 267) _ _ _); (refine take_any ‹_› ‹_› ‹_› ?_ ?_ ?_ ?_)))
local macro_rules | `(tactic| wtm_at "m.e") => `(tactic| ((with_reducible show CallIOK _ _ _ (.ref 274) _ _ _); first | refine great_any (size := 40) ‹_› ‹_› ‹_› rfl ?_ ?_ ?_ | refine great_any ‹_› ‹_› ‹_› rfl ?_ ?_ ?_))
omit S in
noncomputable def lawSc (G : GCtx) : Scope := (fnW pw 43 292).scope
omit S in
noncomputable def lawBd (G : GCtx) : List Stmt := match (fnW pw 43 292).body with | .stmts b => b | _ => []
omit S in
theorem lawTo {P : Scope → List Stmt → Prop} {name : Str} {params : Arguments} {body : List Stmt} {scope : Scope} (e : fnW pw 43 292 = fnD name params body scope 292 .none .none .none) (h : P scope body) : P (lawSc G) (lawBd G) := by
  unfold lawSc lawBd
  rw [e]; exact h
omit S in
theorem lawFrom {P : Scope → List Stmt → Prop} {name : Str} {params : Arguments} {body : List Stmt} {scope : Scope} (h : P (lawSc G) (lawBd G)) (e : fnW pw 43 292 = fnD name params body scope 292 .none .none .none) : P scope body := by
  unfold lawSc lawBd at h
  rw [e] at h; exact h
omit S in
theorem and_true {C : SC} {σ : Vars} {x y : Expr} {pos : Pos} {Q : MV → Vars → Prop} (h : WE G C x σ (fun v σ₁ => v = .bool true ∧ WE G C y σ₁ Q)) : WE G C (.BoolOp .And [x, y] pos) σ Q :=
  WE_and2 (h.mono fun v σ' ⟨e, k⟩ => ⟨true, e, by rw [if_pos rfl]; exact k⟩)
omit S in
theorem neg_mod {b n : Nat} : -(b : Int) % ((2 ^ n + 1 : Nat) : Int) = ((b * 2 ^ n % M n : Nat) : Int) := by
  have h : ((b * 2 ^ n : Nat) : Int) = -(b : Int) + (b : Int) * ((2 ^ n + 1 : Nat) : Int) := by
    push_cast; rw [Int.mul_add, Int.mul_one]; omega
  show _ = ((b * 2 ^ n % (2 ^ n + 1) : Nat) : Int)
  rw [Int.natCast_emod, h, Int.add_mul_emod_self_right]
theorem law_ws (S2 : Setup2 G) (hF : HF G Fs) {ms : List Int} (hl : ms.length ≤ 100) :
    WS G ⟨640, lawSc G, true, Fs⟩ (lawBd G) [("script", .list (mints ms))] (retP fun v => v = .bool true) := by
  refine lawTo (P := fun sc b => WS G ⟨640, sc, true, Fs⟩ b _ _) rfl ?_
  have u0 : G.mg (Str.ofString "_law_deal") = some (.ref 260) := mgAt S (i := 38) (c := 259) (by kernel_rfl)
  have u1 : G.mg (Str.ofString "_law_great") = some (.ref 274) := mgAt S (i := 40) (c := 273) (by kernel_rfl)
  have u2 : G.mg (Str.ofString "ring_mul_pieces") = some (.ref 220) := mgAt S (i := 30) (c := 219) (by kernel_rfl)
  have u3 : G.mg (Str.ofString "mul_school") = some (.ref 248) := mgAt S (i := 35) (c := 247) (by kernel_rfl)
  have u4 : G.mg (Str.ofString "_law_take") = some (.ref 267) := mgAt S (i := 39) (c := 266) (by kernel_rfl)
  have u5 : G.mg (Str.ofString "_law_row") = some (.ref 281) := mgAt S (i := 41) (c := 280) (by kernel_rfl)
  have u6 : G.mg (Str.ofString "_law_value") = some (.ref 286) := mgAt S (i := 42) (c := 285) (by kernel_rfl)
  have u7 : G.mg (Str.ofString "sqr_rings") = some (.ref 206) := mgAt S (i := 28) (c := 205) (by kernel_rfl)
  have u8 : G.mg (Str.ofString "sqr_school") = some (.ref 255) := mgAt S (i := 36) (c := 254) (by kernel_rfl)
  have u9 : G.mg (Str.ofString "mul_rings") = some (.ref 201) := mgAt S (i := 27) (c := 200) (by kernel_rfl)
  have u10 : G.mg (Str.ofString "mul_rings_deep") = some (.ref 234) := mgAt S (i := 32) (c := 233) (by kernel_rfl)
  wtm_at "m.s"
  refine x_assignF rfl (by wtm_at "m.st") (x_callF (by with_reducible assumption) (fnAt S hF (by kernel_rfl)) (by wtm_at "m.lk") (by wtm_at "m.okn") rfl ?_)
  wtm_at "m.run"
  refine (s_law_deal S hF hl).any (by dsimp only; omega) ?_
  rintro xs ⟨ns, sd, hns, rfl⟩
  intro fa
  wtm_at "m.run"
  intro p sd way hway
  wtm_at "m.run"
  intro p sd w0 hw0
  wtm_at "m.run"
  intro p sd m0 hm0
  refine ⟨_, _, .int ((2 ^ (m0 + 1) : Nat) : Int), rfl, rfl, ⟨by omega, by omega⟩, ?_, ?_⟩
  · rw [Int.toNat_natCast]
    match m0, hm0 with
    | 0, _ => rfl
    | 1, _ => rfl
    | 2, _ => rfl
    | n + 3, h => exact absurd h (by omega)
  obtain ⟨w, hwd⟩ : ∃ w, w = 3 + w0 := ⟨_, rfl⟩
  obtain ⟨l, hld⟩ : ∃ l, l = m0 + 1 := ⟨_, rfl⟩
  have hw : 0 < w := by omega
  have hw' : w ≤ 8 := by omega
  have hw60 : w ≤ 60 := by omega
  have hl1 : 1 ≤ l := by omega
  have hl3 : l ≤ 3 := by omega
  obtain ⟨L, hL⟩ : ∃ L, L = 2 ^ l := ⟨_, rfl⟩
  have hL0 : 0 < L := hL ▸ Nat.two_pow_pos l
  have hL8 : L ≤ 8 := hL ▸ Nat.pow_le_pow_right (n := 2) (by decide) hl3
  have h40 : 0 < 40 / L := Nat.div_pos (by omega) hL0
  have h40' : 40 / L ≤ 40 := Nat.div_le_self _ _
  have hms : ∀ x y, x < 2 ^ 400 → y < 2 ^ 400 → CallOK G 26 Fs (.ref 248) [R w x, R w y, .int w] (fun v => v = R w (x * y)) := fun x y hx hy =>
    (s_mul_school S hF hw hw60 (Sm.of hx (by decide)) (Sm.of hy (by decide))).mono (by decide) (FMap.le.refl _) fun _ e => e
  have hss : ∀ x, x < 2 ^ 400 → CallOK G 26 Fs (.ref 255) [R w x, .int w] (fun v => v = R w (x * x)) := fun x hx =>
    (s_sqr_school S hF hw hw60 (Sm.of hx (by decide))).mono (by decide) (FMap.le.refl _) fun _ e => e
  have hLi : ((L : Nat) : Int) = ((2 ^ l : Nat) : Int) := by rw [hL]
  have fms : FnF Fs 248 := fnAt S hF (by kernel_rfl)
  have fss : FnF Fs 255 := fnAt S hF (by kernel_rfl)
  refine seqP_sub (σ₀ := [("deal", .own fa (dealL ns p sd)), ("way", .int way), ("w", .int (w : Nat)), ("many", .int (L : Nat))]) (by wtm_at "m.sub"; (case se => rw [hL, hld]); (case se => rw [hwd])) ?_
  clear hwd hld hm0 hw0
  wtm_at "m.run"
  · rename_i hway3
    intro p sd a ha
    wtm_at "m.run"
    intro p sd b0 hb0
    wtm_at "m.run"
    intro p sd b hb
    have hb40 : b < 2 ^ 40 := Nat.lt_of_lt_of_le hb (Nat.pow_le_pow_right (by decide) (by show 1 + b0 ≤ 40; omega))
    have sa : Sm a := Sm.of ha (by decide)
    have sb : Sm b := Sm.of hb40 (by decide)
    have ha45 : a < 2 ^ 45 := Nat.lt_trans ha (by decide)
    have hb45 : b < 2 ^ 45 := Nat.lt_trans hb40 (by decide)
    have pab : ∀ {x y : Nat}, x < 2 ^ 40 → y < 2 ^ 40 → Sm (x * y) := fun {x y} hx hy => by
      have : x * y < 2 ^ 40 * 2 ^ 40 := Nat.mul_lt_mul'' hx hy
      rw [← Nat.pow_add] at this
      exact Sm.of this (by decide)
    wtm_at "m.s"
    wtm_at "m.one"
    refine v_if_join (Y := Nat) (fun y => [("told", R w y), ("due", .int y), ("one", R w a), ("w", .int w), ("many", .int L)]) Sm ?_ ?_
    · wtm_at "m.run"
      · refine call_det (s_sqr_rings S hF hLi fss (Nat.le_refl 26) hss hw hw60 hl3 ha45) (by dsimp only; omega) ?_
        wtm_at "m.run"
        exact joinP_next (.intro (a * a) (pab ha ha) (by wtm_at "m.sub"))
      · intro p sd e he
        wtm_at "m.run"
        refine call_det (s_mul_rings_deep S hF S2 fms hms hw hw60 ha hb40) (by dsimp only; omega) ?_
        wtm_at "m.run"
        exact joinP_next (.intro (a * b) (pab ha hb40) (by wtm_at "m.sub"))
      · refine call_det (s_mul_rings S hF hLi fms (Nat.le_refl 26) hms hw hw60 hl3 ha45 hb45) (by dsimp only; omega) ?_
        wtm_at "m.run"
        exact joinP_next (.intro (a * b) (pab ha hb40) (by wtm_at "m.sub"))
    · intro y hy
      wtm_at "m.run"
      refine and_true (x_cmpE rfl rfl ?_)
      wtm_at "m.run"
      refine ⟨congrArg MV.bool (decide_eq_true (by show (y : Int) = y; rfl)), ?_⟩
      refine WE_eqlist ?_ (Nat.le_of_ble_eq_true rfl) rfl
      wtm_at "m.run"
      have hz := s_mul_rings S hF (b := 0) hLi fms (Nat.le_refl 26) hms hw hw60 hl3 ha45 (by decide)
      rw [Nat.mul_zero, R_zero] at hz
      refine call_det hz (by dsimp only; omega) ?_
      wtm_at "m.run"
      refine ⟨[], [], rfl, rfl, ?_⟩
      wtm_at "m.run"
      rfl
  · rename_i hway3
    intro p sd n0 hn0
    have hn0' : n0 < 40 / L := Int.ofNat_lt.mp hn0
    obtain ⟨n, hnd⟩ : ∃ n, n = L * (1 + n0) := ⟨_, rfl⟩
    have hn1 : 0 < n := by rw [hnd]; exact Nat.mul_pos hL0 (by omega)
    have hn40 : n ≤ 40 := by
      have h1 : L * (1 + n0) ≤ L * (40 / L) := Nat.mul_le_mul_left _ (show 1 + n0 ≤ 40 / L by omega)
      have h2 : L * (40 / L) ≤ 40 := Nat.mul_div_le 40 L
      omega
    have hdn : 2 ^ l ∣ n := ⟨1 + n0, by rw [← hL, hnd]⟩
    wtm_at "m.gx"
    · wtm_at "m.side"
    refine WS.less (σ₀ := [("deal", .own fa (dealL ns p sd)), ("w", .int (w : Nat)), ("many", .int (L : Nat)), ("n", .int (n : Nat))]) ?_ (by wtm_at "m.sub"; (case se => rw [hnd]))
    refine v_cons (x_assign rfl (by wtm_at "m.st") (WE.mono (Q := fun v σ' => ∃ p sd a, a < M n ∧ v = .int (a : Nat) ∧ σ' = ([("deal", .own fa (dealL ns p sd)), ("w", .int (w : Nat)), ("many", .int (L : Nat)), ("n", .int (n : Nat))] : Vars)) ?_ ?_))
    · wtm_at "m.run"
      intro p sd i hi
      wtm_at "m.run"
      · exact ⟨p, sd, 2 ^ n, Nat.lt_succ_self _, rfl, rfl⟩
      · intro p sd a ha
        exact ⟨p, sd, a, Nat.lt_succ_of_lt ha, rfl, rfl⟩
    · rintro v σ' ⟨p, sd, a, ha, rfl, rfl⟩
      wtm_at "m.run"
      intro p sd b hb
      have hb' : b < M n := Nat.lt_succ_of_lt hb
      have h2n : 2 ^ n < M n := Nat.lt_succ_self _
      have sa : Sm a := Sm.ofM (by omega) ha
      have sb : Sm b := Sm.ofM (by omega) hb'
      have s2 : Sm (2 ^ n) := Sm.ofM (by omega) h2n
      have st : ∀ z, Sm (z % M n) := fun z => Sm.ofM (by omega) (Nat.mod_lt _ M_pos)
      have hmp : ∀ x y, x < M (cdiv (2 * (n / 2 ^ l) + (l + 1) + 1) (2 ^ l) * 2 ^ l) → y < M (cdiv (2 * (n / 2 ^ l) + (l + 1) + 1) (2 ^ l) * 2 ^ l) → CallOK G 26 Fs (.ref 248) [R w x, R w y, .int w] (fun v => ∃ z, v = R w z ∧ Sm z ∧ z % M (cdiv (2 * (n / 2 ^ l) + (l + 1) + 1) (2 ^ l) * 2 ^ l) = x * y % M (cdiv (2 * (n / 2 ^ l) + (l + 1) + 1) (2 ^ l) * 2 ^ l)) := by
        intro x y
        have hnl : n / 2 ^ l ≤ n := Nat.div_le_self _ _
        have hcl := cdiv_lt (a := 2 * (n / 2 ^ l) + (l + 1) + 1) (Nat.two_pow_pos l)
        rw [← hL] at hcl hnl ⊢
        obtain ⟨m, hm⟩ : ∃ m, m = cdiv (2 * (n / L) + (l + 1) + 1) L * L := ⟨_, rfl⟩
        rw [← hm] at hcl ⊢
        have hM : M m ≤ 2 ^ 400 := M_le (by omega)
        intro hx hy
        refine (hms x y (by omega) (by omega)).mono (Nat.le_refl _) (FMap.le.refl _) fun v e => ⟨x * y, e, ?_, rfl⟩
        have : x * y < 2 ^ 400 * 2 ^ 400 := Nat.mul_lt_mul'' (by omega) (by omega)
        rw [← Nat.pow_add] at this
        exact Sm.of this (by decide)
      wtm_at "m.run"
      refine call_det (s_ring_mul_pieces S hF rfl hLi fms (Nat.le_refl 26) hmp hw hw60 hn1 (by omega) hl3 hdn ha hb') (by dsimp only; omega) ?_
      wtm_at "m.run"
      refine call_det (s_ring_mul_pieces S hF rfl hLi fms (Nat.le_refl 26) hmp hw hw60 hn1 (by omega) hl3 hdn hb' h2n) (by dsimp only; omega) ?_
      wtm_at "m.run"
      refine WE_eqlist ?_ (Nat.le_of_ble_eq_true rfl) rfl
      wtm_at "m.run"
      · exact st _
      · exact st _
      · refine Or.inl ?_
        have h41 : M n ≤ 2 ^ 41 := M_le (by omega)
        rw [Int.natAbs_natCast]
        exact Nat.lt_of_lt_of_le ha (Nat.le_trans h41 (by decide))
      · refine ⟨[((a * b % M n : Nat) : Int), ((b * 2 ^ n % M n : Nat) : Int)], [((a * b % (2 ^ n + 1) : Nat) : Int), -(b : Int) % ((2 ^ n + 1 : Nat) : Int)], rfl, rfl, ?_⟩
        wtm_at "m.run"
        refine congrArg MV.bool (decide_eq_true ?_)
        rw [neg_mod]
end
end
end Mine
end
section
open PySem PySem.W PySem.Calls PyProof.Rows
namespace Mine
set_option maxRecDepth 100000
theorem ints_rep {F : FMap} : ∀ {ns : List Int} {vs : List Value}, IntsAre vs ns → VReps F (mints ns) vs
  | _, _, .nil => VReps.nil
  | _, _, .cons n t r => VReps.cons ⟨t, rfl⟩ (ints_rep r)
noncomputable def lawG (prog : Program) (w : World) (H0 : Heap) (mg mb : Str → Option Value) : GCtx := ⟨prog, w, H0, mg, mb, 240, 236, ⟨186, 4, 187, 57⟩, Str.ofString "ring_deep.<locals>." ++ Str.ofString "within"⟩
theorem law_scope {G : GCtx} : (lawSc G).kind = .function ∧ ((lawSc G).names.all fun y => y.2 != .cell) = true ∧ (lawSc G).names.lookup (Str.ofString "script") = some .local :=
  lawTo (G := G) (P := fun sc _ => sc.kind = .function ∧ (sc.names.all fun y => y.2 != .cell) = true ∧ sc.names.lookup (Str.ofString "script") = some .local) rfl ⟨rfl, rfl, by decide +kernel⟩
theorem law_run {prog : Program} {w : World} {H0 : Heap} {mg mb m : Str → Option Value} {p : Program} {loose : List Str} {mean : ExcName → Option Value} {env : Env} {s : Shared} {wa : Addr} {vs : List Value} {ms : List Int} {A : Around}
    (X : Says pw H0) (T : Top p loose mean mg mb H0) (hcode : CodeHd H0 240 236) (hP : H0.get? 236 = none) (hL : H0.IsList wa vs.toArray) (hI : IntsAre vs ms) (hlen : ms.length ≤ 100)
    (Fm : Fr H0 env.locals s.heap m) (hm : m (Str.ofString "script") = some (.ref wa)) (hN : s.heap.get? 236 = some (tabObj #[])) (hne : env.locals ≠ 236)
    (he : env.scope = lawSc (lawG prog w H0 mg mb)) (hg : env.globals = mainGlobals) (hb : env.builtins = builtinsNs) (hc : env.cells = []) (room : Room A 640) :
    wpAny (model prog w) A (execs (lawBd (lawG prog w H0 mg mb)) env) (fun f s' => f = .ret (.bool true) ∧ (∃ h tk, s' = { s with heap := h, toks := tk }) ∧ (∀ b o, H0.get? b = some o → s'.heap.get? b = some o) ∧ ∃ ps, s'.heap.get? 236 = some (tabObj ps)) (fun _ _ => False) s := by
  have ok : GOK (lawG prog w H0 mg mb) := ⟨T.g, T.b, T.nolimit, T.builtins, hP⟩
  have S : Setup (lawG prog w H0 mg mb) := ⟨ok, X⟩
  have S2 : Setup2 (lawG prog w H0 mg mb) := ⟨⟨hcode, T.bmain⟩, rfl, rfl, rfl⟩
  obtain ⟨k1, k2, k3⟩ := law_scope (G := lawG prog w H0 mg mb)
  have hz : H0.get? env.locals = none := by
    cases e : H0.get? env.locals with
    | none => rfl
    | some o => exact absurd (Heap.lt_size e) (Nat.not_lt.mpr Fm.above)
  have hF : HF (lawG prog w H0 mg mb) H0.get? := fun _ _ e => e
  have hw := law_ws S S2 hF hlen
  have p : Pre (lawG prog w H0 mg mb) ⟨640, lawSc (lawG prog w H0 mg mb), true, H0.get?⟩ env A (fun a => H0.get? a = none ∧ a ≠ 236) [(Str.ofString "script", .list (mints ms))] [] H0.get? s := by
    refine ⟨he, room, FMap.le.refl _, fun a e => ⟨?_, fun q => ?_⟩, ⟨⟨ok, fun _ _ e => e, Fm.keep, hP, #[], hN, .inl rfl⟩, fun q => q.2 rfl, by rw [he]; exact k1, hg, hb, ⟨hz, hne⟩, hz, fun n kn => ?_, fun n c l => ?_, fun n n' c l => ?_, ?_, fun x y a xs ys e => ?_, fun x a xs e t ht => (nomatch ht), fun t ht => (nomatch ht), List.nodup_nil⟩⟩
    · cases q : H0.get? a with
      | none => rfl
      | some o => rw [Fm.keep a o q] at e; cases e
    · rw [q, hN] at e; cases e
    · have kn' : (lawSc (lawG prog w H0 mg mb)).names.lookup n = some .cell := by rw [← he]; exact kn
      have := List.all_eq_true.mp k2 _ (mem_of_lookup kn')
      exact absurd this (by simp)
    · rw [hc] at l; cases l
    · rw [hc] at l; cases l
    · refine ⟨m, Fm.ns, fun x mv e => ?_⟩
      simp only [Vars.get] at e
      split at e
      · rename_i q; subst q; cases e
        refine ⟨.ref wa, .inl ⟨?_, hm⟩, ?_⟩
        · show env.scope.names.lookup _ = _; rw [he]; exact k3
        · obtain ⟨o, ho, hcl, n, hd⟩ := hL
          show VRep _ _ _
          rw [VRep]
          exact ⟨wa, o, vs.toArray, n, rfl, ho, hcl, hd, by simpa using ints_rep hI⟩
      · cases e
    · simp only [Vars.get] at e
      split at e
      · cases e
      · cases e
  refine hw.thn p (fun f s' mf σ' F' af r q => ?_)
  have hf : f = .ret (.bool true) := by
    cases mf with
    | ret v =>
      have q' : v = .bool true := q
      subst q'
      obtain ⟨u, e, r⟩ := r
      rw [VRep] at r
      rw [e, r]
    | next => exact nomatch (show MV.none = MV.bool true from q)
    | brk => exact nomatch (show MV.none = MV.bool true from q)
    | cont => exact nomatch (show MV.none = MV.bool true from q)
  obtain ⟨ps, e, _⟩ := af.pre.rep.base.tab
  exact ⟨hf, af.rest, fun b o e => af.pre.rep.base.keep b o e, ps, e⟩
theorem law_join {prog : Program} {w : World} {H0 : Heap} {mg mb m : Str → Option Value} {p : Program} {loose : List Str} {mean : ExcName → Option Value} {name : Str} {scope : Scope} {L a : Addr} {cd : Value} {s : Shared} {wa : Addr} {vs : List Value} {ms : List Int} {A : Around}
    {fname : Str} {params : Arguments} {body : List Stmt}
    (X : Says pw H0) (T : Top p loose mean mg mb H0) (hcode : CodeHd H0 240 236) (hP : H0.get? 236 = none) (hL : H0.IsList wa vs.toArray) (hI : IntsAre vs ms) (hlen : ms.length ≤ 100)
    (Fm : Fr H0 L s.heap m) (hm : m (Str.ofString "script") = some (.ref wa)) (hN : s.heap.get? 236 = some (tabObj #[])) (hne : L ≠ 236) (room : Room A 640)
    (e : fnW pw 43 292 = fnD fname params body scope 292 .none .none .none) :
    wpAny (model prog w) A (execs body (envOf name scope L a cd)) (fun f s' => f = .ret (.bool true) ∧ (∃ h tk, s' = { s with heap := h, toks := tk }) ∧ (∀ b o, H0.get? b = some o → s'.heap.get? b = some o) ∧ ∃ ps, s'.heap.get? 236 = some (tabObj ps)) (fun _ _ => False) s :=
  lawFrom (G := lawG prog w H0 mg mb) (P := fun sc bd => ∀ env : Env, env.scope = sc → env.locals = L → env.globals = mainGlobals → env.builtins = builtinsNs → env.cells = [] →
    wpAny (model prog w) A (execs bd env) (fun f s' => f = .ret (.bool true) ∧ (∃ h tk, s' = { s with heap := h, toks := tk }) ∧ (∀ b o, H0.get? b = some o → s'.heap.get? b = some o) ∧ ∃ ps, s'.heap.get? 236 = some (tabObj ps)) (fun _ _ => False) s)
    (fun env h1 h2 h3 h4 h5 => law_run X T hcode hP hL hI hlen (by rw [h2]; exact Fm) hm hN (by rw [h2]; exact hne) h1 h3 h4 h5 room) e _ rfl rfl rfl rfl rfl
end Mine
end
open PySem PySem.W PySem.Calls PyProof.Rows
set_option maxRecDepth 100000 in
set_option maxHeartbeats 8000000 in
theorem PySem.Challenge.cw_nn0032_01_holds : PySem.Challenge.rw_nn0032_01.Holds := by
  refine Mine.hd0 fun said => ?_
  refine holds_open (q := Mine.qv) (loose := []) (Xt := fun s => xlAt Mine.qv [] s && recOk [] s) (XP := XL Mine.qv []) (Yf := (Mine.hook Mine.pw).obs) (Ya := (Mine.hook Mine.pw).val) (YP := (Mine.hook Mine.pw).says) (N := 3512) Mine.left (Hook.of (Mine.hook Mine.pw)) (Hook.keeps (Mine.hook Mine.pw)) (fun s e => xl_of s (Bool.and_eq_true_iff.mp e).1) XL.keeps (by rfl) (by rfl) (by rfl) (fun s e => recFacts_of (Bool.and_eq_true_iff.mp e).2) (by rfl) (by assumption) (by decide +kernel) ⟨rfl, rfl, rfl, rfl, rfl, by decide +kernel⟩ ?hw ?hc
  case hw => w_witness2
  case hc =>
    intro w s₀ s₁ mg mb G Y fa o pm cd doc dV kV ho hd hcd hD hmg hg args vals as hpre hlay hrd hwl hlo
    have Y' : Mine.Says2 Mine.pw s₁.heap := Y
    refine Ground.open G ?_
    intro T B D TE TW
    have hT9 : TabsAt [(240, 236)] s₁.heap := Y'.code
    clear hmg B D TE TW
    wrow_args hpre hlay hrd hwl hlo
    first | refine callC_kw (enter_call ?_) | refine enter_call ?_
    w_top on
    kn_posts
    w_call any ho hd hcd hD T F
    clear hd
    have C' := ghost_code hT9
    have X' := Y'.says.keeps fun b o e hn => ghost_get hT9 e hn
    have T' := ghost_top hT9 T
    have N' := ghost_news hT9 F (by assumption)
    have F' := ghost_fr hT9 F
    have L' := ghost_list hT9 (by assumption)
    have N2 : News (ghostOf s₁.heap [(240, 236)]) s₁.heap.objs.size _ [(236, tabObj #[])] := N'
    refine wpAny_mono (Mine.law_join X' T' C'.1 (N2.fresh (List.mem_singleton.mpr rfl)) L' (by assumption) (by omega) F' rfl (N2.get (List.mem_singleton.mpr rfl)) (Nat.ne_of_gt (Heap.lt_size Y'.tb)) ⟨rfl, by show 1 + claimMargin + 1 + 640 < 1000; decide, by show 4 + 3 + 4 * 640 + 16 < 9900; decide⟩ rfl) ?hgQ fun _ _ x => x.elim
    rintro f s' ⟨rfl, ⟨h, tk, rfl⟩, keep, ps, eP⟩
    refine ⟨⟨.inl ⟨.bool true, .bool true, [], rfl, fun _ => rfl, .bool true, ?hgpost, fun _ => ⟨List.nodup_nil, fun _ h => nomatch h⟩⟩, keep, rfl, by assumption⟩, ⟨ps, eP⟩, trivial⟩
    first | with_unfolding_all rfl | decide +kernel | (simp [PySem.Challenge.rw_nn0032_01, OpenLaw.row, OpenRow.row]; done)
