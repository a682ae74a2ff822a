import PyProof.Rows.All
import Wide.All
import OpenK.AllK
import Wide.FinOn
import Lean
import PySem.Challenge.RW_xm0031_01
set_option Elab.async false
set_option compiler.extract_closed false
-- H1
section
open PySem PySem.W PyProof.Rows
set_option linter.unusedVariables false
set_option maxRecDepth 100000
set_option maxHeartbeats 8000000
namespace Mine
theorem three {A B C P : Prop} (_ : A) (_ : B) (_ : C) (main : P) : P := main
/-- the library's quick twin of the look at the law -/
theorem ws : PySem.Challenge.rw_xm0031_01.wellSaid = true := (congrFun PySem.W.Fast.te9446332074065402090 _).trans (by kernel_rfl)
/-- k_head lays the definitions hd.heap_1 and hd.view_1; nothing else of this is used -/
theorem hd (no : False) : PySem.Challenge.rw_xm0031_01.Holds := by
  w_on
  refine holds_law no.elim fun said => ?_
  refine' three ?hl ?hw ?hc ?main
  case main => k_head
  all_goals first | exact no.elim | exact no
/-- the run of the top, by the quick twins of the functions that run it -/
theorem left : LeftO PySem.Challenge.rw_xm0031_01.row.prog hd.view_1 [PySem.Str.ofString "BasicError"] (fun s => xlAt hd.view_1 [] s && recOk (RowW.records PySem.Challenge.rw_xm0031_01.row.toRowW) s)
    (Hook.obs (kmHook hd.heap_1 [2, 3, 15, 18, 23, 24, 25, 27, 28, 30, 31, 32, 33, 34, 35, 38, 40, 41, 43, 44, 45, 47, 48, 50, 51, 52, 54, 55, 57, 58,
    59, 61, 62, 64, 65, 66, 69, 70, 71, 74, 75, 76, 79, 80, 81, 83, 84, 86, 87, 88, 90, 91, 93, 94, 95, 97, 98, 100,
    101, 102, 104, 105, 107, 108, 109, 111, 112, 114, 115, 116, 118, 119, 121, 122, 123, 125, 126, 128, 129, 130, 132,
    133, 135, 136, 137, 139, 140, 142, 143, 144, 147, 148, 149, 152, 153, 154, 157, 158, 159, 161, 162, 164, 165, 166,
    168, 169, 171, 172, 173, 176, 177, 178, 180, 181, 183, 184, 185, 187, 188, 190, 191, 192, 194, 195, 197, 198, 199,
    201, 202, 204, 205, 206, 209, 210] (fun _ => by kernel_rfl) [193])) (Hook.val (kmHook hd.heap_1 [2, 3, 15, 18, 23, 24, 25, 27, 28, 30, 31, 32, 33, 34, 35, 38, 40, 41, 43, 44, 45, 47, 48, 50, 51, 52, 54, 55, 57, 58,
    59, 61, 62, 64, 65, 66, 69, 70, 71, 74, 75, 76, 79, 80, 81, 83, 84, 86, 87, 88, 90, 91, 93, 94, 95, 97, 98, 100,
    101, 102, 104, 105, 107, 108, 109, 111, 112, 114, 115, 116, 118, 119, 121, 122, 123, 125, 126, 128, 129, 130, 132,
    133, 135, 136, 137, 139, 140, 142, 143, 144, 147, 148, 149, 152, 153, 154, 157, 158, 159, 161, 162, 164, 165, 166,
    168, 169, 171, 172, 173, 176, 177, 178, 180, 181, 183, 184, 185, 187, 188, 190, 191, 192, 194, 195, 197, 198, 199,
    201, 202, 204, 205, 206, 209, 210] (fun _ => by kernel_rfl) [193])) 2324 := by
  intro w
  unfold openEnds fencedOpening topFrom
  rw [PySem.W.Fast.te10274390034422433532, PySem.W.Fast.te1435165496053646825, PySem.W.Fast.te14289696077712309145, PySem.W.Fast.te14082659384304107361, PySem.W.Fast.te8920871248978507458, PySem.W.Fast.te5923862056798008813, PySem.W.Fast.te4187177175401517315, PySem.W.Fast.te14364793385576792824]
  kernel_rfl
end Mine
end
-- B0
section
open PySem PySem.W PyProof.Rows PySem.Calls
set_option linter.unusedVariables false
set_option maxRecDepth 100000
namespace Mine
noncomputable abbrev Led := List (Addr × Obj)
noncomputable abbrev tupOf (vs : Array Value) (n : Nat) : Obj := { cls := .type "tuple", data := .seq vs n }
theorem room0 {dp D lim : Nat} (h : dp + D < lim) : dp < lim := Nat.lt_of_le_of_lt (Nat.le_add_right _ _) h
theorem room1 {dp D k lim : Nat} (h : dp + D < lim) (hk : Nat.ble (1 + k) D = true) : dp + 1 + k < lim := Nat.lt_of_le_of_lt (Nat.add_assoc dp 1 k ▸ Nat.add_le_add_left (Nat.le_of_ble_eq_true hk) _) h
theorem room3 {dp D k lim : Nat} (h : dp + D < lim) (hk : Nat.ble (3 + k) D = true) : dp + 3 + k < lim := Nat.lt_of_le_of_lt (Nat.add_assoc dp 3 k ▸ Nat.add_le_add_left (Nat.le_of_ble_eq_true hk) _) h
theorem subL_of {l all : Led} (h : ∀ p ∈ l, p ∈ all) : SubL l all := by
  induction l with
  | nil => trivial
  | cons p r ih => exact ⟨h p (.head _), ih fun q hq => h q (.tail _ hq)⟩
theorem subL_refl {l : Led} : SubL l l := subL_of fun _ h => h
theorem subL_keep {a : Addr × Obj} {l all : Led} (h : SubL l all) : SubL (a :: l) (a :: all) := ⟨.head _, subL_of fun p hp => .tail _ (h.mem p hp)⟩
theorem subL_skip {a : Addr × Obj} {l all : Led} (h : SubL l all) : SubL l (a :: all) := subL_of fun p hp => .tail _ (h.mem p hp)
theorem offI_list {I x : Addr} {a b : Int} {vs : Array Value} {n : Nat} {l : Led} (t : OffI I (itR a b) l) : OffI I (itR a b) ((x, listOf vs n) :: l) := ⟨Or.inr (fun h => absurd (Value.type.inj h) (by decide)), t⟩
theorem offI_tup {I x : Addr} {a b : Int} {vs : Array Value} {n : Nat} {l : Led} (t : OffI I (itR a b) l) : OffI I (itR a b) ((x, tupOf vs n) :: l) := ⟨Or.inr (fun h => absurd (Value.type.inj h) (by decide)), t⟩
theorem sub_nil {all : Led} : ∀ p ∈ ([] : Led), p ∈ all := fun _ h => nomatch h
theorem sub_cons {a : Addr × Obj} {l all : Led} (h1 : a ∈ all) (h2 : ∀ p ∈ l, p ∈ all) : ∀ p ∈ a :: l, p ∈ all := fun p hp => by
  rcases List.mem_cons.mp hp with rfl | hp
  · exact h1
  · exact h2 p hp
theorem sub_refl {l : Led} : ∀ p ∈ l, p ∈ l := fun _ h => h
theorem sub_skip {a : Addr × Obj} {l all : Led} (h : ∀ p ∈ l, p ∈ all) : ∀ p ∈ l, p ∈ a :: all := fun p hp => .tail _ (h p hp)
theorem sub_keep {a : Addr × Obj} {l all : Led} (h : ∀ p ∈ l, p ∈ all) : ∀ p ∈ a :: l, p ∈ a :: all := sub_cons (.head _) (sub_skip h)
/-- a member by its place, eight at a step -/
theorem mem_1 {α : Type} {x a : α} {l : List α} : x ∈ a :: x :: l := by simp
theorem mem_2 {α : Type} {x a b : α} {l : List α} : x ∈ a :: b :: x :: l := by simp
theorem mem_3 {α : Type} {x a b c : α} {l : List α} : x ∈ a :: b :: c :: x :: l := by simp
theorem mem_4 {α : Type} {x a b c d : α} {l : List α} : x ∈ a :: b :: c :: d :: x :: l := by simp
theorem mem_5 {α : Type} {x a b c d e : α} {l : List α} : x ∈ a :: b :: c :: d :: e :: x :: l := by simp
theorem mem_6 {α : Type} {x a b c d e f : α} {l : List α} : x ∈ a :: b :: c :: d :: e :: f :: x :: l := by simp
theorem mem_7 {α : Type} {x a b c d e f g : α} {l : List α} : x ∈ a :: b :: c :: d :: e :: f :: g :: x :: l := by simp
theorem mem_8 {α : Type} {x a b c d e f g i : α} {l : List α} (h : x ∈ l) : x ∈ a :: b :: c :: d :: e :: f :: g :: i :: l := by simp [h]
/-- what the ledger does not name stands in the ground -/
noncomputable def Hide (h : Heap) (led : Led) (g : Heap) : Prop := ∀ b o, h.get? b = some o → (∀ p ∈ led, p.1 ≠ b) → g.get? b = some o
/-- what the ledger does not name is kept, and the new ledger names none of it -/
noncomputable def Kept (h : Heap) (led : Led) (h' : Heap) (led' : Led) : Prop := ∀ b o, h.get? b = some o → (∀ p ∈ led, p.1 ≠ b) → h'.get? b = some o ∧ ∀ p ∈ led', p.1 ≠ b
theorem kept_of {h g h' : Heap} {led led' : Led} {L' : Addr} {m' : Str → Option Value} (H : Hide h led g) (F : Fr g L' h' m') (N : News g L' h' led') : Kept h led h' led' := by
  intro b o hb hn
  have hg := H b o hb hn
  refine ⟨F.keep b o hg, fun p hp e => ?_⟩
  have := (N p hp).2.2
  rw [e, hg] at this
  cases this
noncomputable def Ctr (w : World) (D : Nat) (f : Addr) (vs : List Value) (led : Led) (R : Value → Led → Prop) : Prop :=
  ∀ (p : Program) (loose : List Str) (mean : ExcName → Option Value) (mg mb : Str → Option Value) (dp un : Nat) (gd : Option (List Code)) (cn : Str) (nms : List (Str × NameKind)) (ig ic : Bool) (mo : List (Str × Const)) (a : Addr) (ccd : Value) (cl : List (Str × Addr)) (outer : List Env) (A₀ : Around) (base h₀ : Heap) (L : Addr) (m : Str → Option Value) (s : Shared) (Q E : Value → Shared → Prop),
    Below A₀ base outer h₀ → Fr h₀ L s.heap m → (hd.heap_1 w.params).In h₀ → News h₀ L s.heap led → Top p loose mean mg mb h₀ → dp + D < recursionLimit → un + 8 * D < cLine → CodeHd base 197 193 →
    (∀ v h' tk' led', Fr h₀ L h' m → News h₀ L h' led' → Kept s.heap led h' led' → R v led' → Q v { s with heap := h', toks := tk' }) →
    wpAny (model PySem.Challenge.rw_xm0031_01.row.prog w) (ktrTop dp un gd cn { kind := .function, names := nms, isGenerator := ig, isCoroutine := ic, more := mo } L a ccd cl outer) (call (.ref f) vs) Q E s
/-- a call that changes nothing: it adds to the ledger -/
noncomputable abbrev CtrR (w : World) (D : Nat) (f : Addr) (vs : List Value) (led : Led) (R : Value → Led → Prop) : Prop :=
  Ctr w D f vs led (fun v led' => ∃ add, led' = add ++ led ∧ (∀ p ∈ add, ∀ q ∈ led, p.1 ≠ q.1) ∧ R v add)
theorem Ctr.useR {w : World} {D : Nat} {f : Addr} {vs : List Value} {led all : Led} {R : Value → Led → Prop} (C : CtrR w D f vs led R)
    {p : Program} {loose : List Str} {mean : ExcName → Option Value} {mg mb : Str → Option Value} {dp un : Nat} {gd : Option (List Code)} {cn : Str} {nms : List (Str × NameKind)} {ig ic : Bool} {mo : List (Str × Const)} {a : Addr} {ccd : Value} {cl : List (Str × Addr)} {outer : List Env} {A₀ : Around} {base h₀ : Heap} {L : Addr} {m : Str → Option Value} {s : Shared} {Q E : Value → Shared → Prop}
    (B : Below A₀ base outer h₀) (F : Fr h₀ L s.heap m) (X : (hd.heap_1 w.params).In h₀) (N : News h₀ L s.heap all) (hs : ∀ p ∈ led, p ∈ all) (T : Top p loose mean mg mb h₀) (hd : dp + D < recursionLimit) (hu : un + 8 * D < cLine) (hC : CodeHd base 197 193)
    (ret : ∀ v h' tk' add, Fr h₀ L h' m → News h₀ L h' (add ++ all) → (∀ p ∈ add, ∀ q ∈ all, p.1 ≠ q.1) → R v add → Q v { s with heap := h', toks := tk' }) :
    wpAny (model PySem.Challenge.rw_xm0031_01.row.prog w) (ktrTop dp un gd cn { kind := .function, names := nms, isGenerator := ig, isCoroutine := ic, more := mo } L a ccd cl outer) (call (.ref f) vs) Q E s := by
  refine C _ _ _ _ _ _ _ _ _ _ _ _ _ _ _ _ _ _ _ _ _ _ _ _ _ B F X (fun p hp => N p (hs p hp)) T hd hu hC ?_
  rintro v h' tk' _ F' N' K' ⟨add, rfl, hap, hR⟩
  have side : ∀ q ∈ all, (q ∈ led) ∨ (∀ p ∈ led, p.1 ≠ q.1) := by
    intro q hq
    by_cases hx : ∃ p ∈ led, p.1 = q.1
    · obtain ⟨p, hp, e⟩ := hx
      have a1 := (N p (hs p hp)).1
      rw [e, (N q hq).1] at a1
      exact .inl ((Prod.ext e (Option.some.inj a1).symm : p = q) ▸ hp)
    · exact .inr fun p hp e => hx ⟨p, hp, e⟩
  refine ret v h' tk' add F' (fun q hq => ?_) (fun p hp q hq => ?_) hR
  · rcases List.mem_append.mp hq with hq | hq
    · exact N' q (List.mem_append.mpr (.inl hq))
    · rcases side q hq with hl | hn
      · exact N' q (List.mem_append.mpr (.inr hl))
      · exact ⟨(K' q.1 q.2 (N q hq).1 hn).1, (N q hq).2⟩
  · rcases side q hq with hl | hn
    · exact hap p hp q hl
    · exact (K' q.1 q.2 (N q hq).1 hn).2 p (List.mem_append.mpr (.inl hp))
section
variable {prog : Program} {w : World} {A₀ A : Around} {s : Shared} {K : Frag} {L : Addr} {h₀ base : Heap} {m mg mb : Str → Option Value} {news : Led} {p : Program} {loose : List Str} {mean : ExcName → Option Value}
theorem hide_all {h : Heap} {led : Led} : Hide h led (hideAll h (led.map (·.1))) := fun b o hb hn => hideAll_get _ hb fun q => by
  obtain ⟨x, hx, e⟩ := List.mem_map.mp q
  exact hn x hx e
theorem def_in {env : Env} {outer : List Env} {R : Result → Shared → Prop} {name qual : Str} {params : Arguments} {body : List Stmt} {scope : Scope} {dV kV doc pm cdv ct oc : Value} {an od : Option Addr} {osl : Array (Option Value)} {f : Addr} {args : Args} {binds : List (Str × Value)}
    (B : Below A₀ base outer h₀) (F : Fr h₀ L s.heap m) (X₀ : K.In h₀) (N : News h₀ L s.heap news) (T : Top p loose mean mg mb h₀) (hA : A.frames = some (env :: outer)) (hf : env.frame = some L) (hke : env.scope.kind = .function)
    (ho : K.lookup f = some ⟨oc, od, .func (fnOf name qual params body scope dV kV doc pm an cdv ct), osl⟩) (hcd : codeIn K cdv qual = true) (hroom : A.depth < recursionLimit)
    (hbind : BindsTo s (fnOf name qual params body scope dV kV doc pm an cdv ct) args binds) (hloc : ∀ y ∈ binds, scope.names.lookup y.1 = some .local)
    (h : ∀ g L' h₁, Hide s.heap news g → Fr h₀ L g m → Fr g L' h₁ (fun y => binds.reverse.lookup y) → News g L' h₁ news → Below A base (env :: outer) g → K.In g → Top p loose mean mg mb g →
      wpAny (model prog w) (A.deeper (envOf qual scope L' f cdv)) (execs body (envOf qual scope L' f cdv))
        (fun fl s' => LeaveK h₀ L m g R (match fl with | .ret v => v | _ => .none) s')
        (fun e s' => wpAny (model prog w) (A.deeper (envOf qual scope L' f cdv)) (leaving (envOf qual scope L' f cdv) e) (fun _ s'' => R (.error e) s'') (fun e' s'' => R (.error e') s'') s')
        { s with heap := h₁, toks := s.toks + binds.length })
    (hco : scope.isCoroutine = false) (hgen : scope.isGenerator = false) (hk : scope.kind = .function)
    (hcell : ∀ x ∈ scope.names, x.2 ≠ .cell) : codeAny (model prog w) A (.call (.ref f) args) R s := by
  obtain ⟨FG, BG, st, lv⟩ := groundX (R := R) B F N hA hf hke
  refine codeAny_call_def (fd := fnOf name qual params body scope dV kV doc pm an cdv ct) (body := body) (binds := binds) hroom ((X₀.keeps F.keep) _ _ ho) rfl (T.nolimit.keeps F.keep) (codeRec_of (X₀.keeps F.keep) hcd) rfl hbind hcell hloc (fun h₁ hns hk₁ => ?_) hco hgen hk
  exact wpAny_mono (h _ s.heap.objs.size h₁ hide_all FG ⟨hns, fun b o e => hk₁ b o (of_hideAll _ e), Nat.le_of_eq (hideAll_size _ _)⟩
    (fun p hp => ⟨hk₁ _ _ (N p hp).1, Nat.ne_of_lt (Heap.lt_size (N p hp).1), hideAll_none _ (List.mem_map_of_mem hp)⟩) BG (X₀.keeps st) (T.keeps st)) (fun fl s' hl => lv _ _ hl) fun _ _ y => y
theorem def_inC {env : Env} {outer : List Env} {R : Result → Shared → Prop} {name qual : Str} {params : Arguments} {body : List Stmt} {scope : Scope} {dV kV doc pm cdv ct oc : Value} {an od : Option Addr} {osl : Array (Option Value)} {f : Addr} {args : Args} {binds : List (Str × Value)}
    (B : Below A₀ base outer h₀) (F : Fr h₀ L s.heap m) (X₀ : K.In h₀) (N : News h₀ L s.heap news) (T : Top p loose mean mg mb h₀) (hA : A.frames = some (env :: outer)) (hf : env.frame = some L) (hke : env.scope.kind = .function)
    (ho : K.lookup f = some ⟨oc, od, .func (fnOf name qual params body scope dV kV doc pm an cdv ct), osl⟩) (hcd : codeIn K cdv qual = true) (hroom : A.depth < recursionLimit)
    (hbind : BindsTo s (fnOf name qual params body scope dV kV doc pm an cdv ct) args binds) (hkind : (binds.all fun y => scope.names.lookup y.1 == some .local || scope.names.lookup y.1 == some .cell) = true)
    (hnd : ((cellsFrom 0 scope.names []).map (·.1)).Nodup)
    (h : ∀ g L' h₁ tk cells, Hide s.heap news g → Fr h₀ L g m → Fr g L' h₁ (bindL (envOfC qual scope L' f cdv).kindOf binds fun _ => none) → News g L' h₁ (cells ++ news) →
      CellsAre (bindC (envOfC qual scope L' f cdv).kindOf binds fun _ => none) (cellsFrom (L' + 1) scope.names []) cells → Below A base (env :: outer) g → K.In g → Top p loose mean mg mb g → (∀ p ∈ news, p.1 < L') →
      wpAny (model prog w) (A.deeper (envOfC qual scope L' f cdv)) (execs body (envOfC qual scope L' f cdv))
        (fun fl s' => LeaveK h₀ L m g R (match fl with | .ret v => v | _ => .none) s')
        (fun e s' => wpAny (model prog w) (A.deeper (envOfC qual scope L' f cdv)) (leaving (envOfC qual scope L' f cdv) e) (fun _ s'' => R (.error e) s'') (fun e' s'' => R (.error e') s'') s')
        { s with heap := h₁, toks := tk })
    (hco : scope.isCoroutine = false) (hgen : scope.isGenerator = false) (hk : scope.kind = .function) : codeAny (model prog w) A (.call (.ref f) args) R s := by
  obtain ⟨FG, BG, st, lv⟩ := groundX (R := R) B F N hA hf hke
  refine codeAny_call_function hroom ((X₀.keeps F.keep) _ _ ho) rfl hco hgen rfl (codeRec_of (X₀.keeps F.keep) hcd) (hbind _ _ _ _ ?_)
  refine wpAny_newFunctionEnv_cells hk (kindsX hkind _) fun env' he s' x => ?_
  subst he
  refine ⟨(T.nolimit.keeps F.keep).keeps x.toInCall.keep, codeAny_func ?_⟩
  obtain ⟨h₁, tk, rfl, _⟩ := x.done
  have hk₁ := x.toInCall.keep
  obtain ⟨cells, NC, Y⟩ := Cl.news (h₀ := s.heap) (Nat.le_refl _) fun n c hm => ⟨x.cell n c (lookup_of_mem_nodup (cellsFrom_names scope.names 0 (s.heap.objs.size + 1) [] [] rfl ▸ hnd) hm), x.above n c hm⟩
  refine wpAny_mono (h _ s.heap.objs.size h₁ tk cells hide_all FG ⟨x.toInCall.ns, fun b o e => hk₁ b o (of_hideAll _ e), Nat.le_of_eq (hideAll_size _ _)⟩ (fun p hp => ?_) Y BG (X₀.keeps st) (T.keeps st) (fun p hp => Heap.lt_size (N p hp).1)) (fun fl s' hl => lv _ _ hl) fun _ _ y => y
  rcases List.mem_append.mp hp with hp | hp
  · refine ⟨(NC p hp).1, (NC p hp).2.1, ?_⟩
    cases q : (hideAll s.heap (news.map (·.1))).get? p.1 with
    | none => rfl
    | some o => have := of_hideAll _ q; rw [(NC p hp).2.2] at this; cases this
  · exact ⟨hk₁ _ _ (N p hp).1, Nat.ne_of_lt (Heap.lt_size (N p hp).1), hideAll_none _ (List.mem_map_of_mem hp)⟩
end
/-- a part of the ledger suffices -/
theorem news_sub {h₀ h : Heap} {L : Addr} {news news' : Led} (N : News h₀ L h news) (hs : ∀ p ∈ news', p ∈ news) : News h₀ L h news' := fun p hp => N p (hs p hp)
theorem kept_sub {h h' : Heap} {led led' led'' : Led} (H : Kept h led h' led') (hs : ∀ p ∈ led'', p ∈ led') : Kept h led h' led'' := fun b o hb hn => ⟨(H b o hb hn).1, fun p hp => (H b o hb hn).2 p (hs p hp)⟩
theorem off1_ne {D a : Addr} {o : Obj} {l : Led} (h : LCg.Off1 D l) (hm : (a, o) ∈ l) : @Ne Nat a D := by
  induction l with
  | nil => cases hm
  | cons x r ih =>
    rcases List.mem_cons.mp hm with e | hm
    · subst e; exact h.1
    · exact ih h.2 hm
theorem off1_mem {D : Addr} : ∀ {l : Led}, LCg.Off1 D l → ∀ p ∈ l, p.1 ≠ D
  | [], _, _, h => nomatch h
  | _ :: _, x, p, h => by
    rcases List.mem_cons.mp h with rfl | h
    · exact x.1
    · exact off1_mem x.2 p h
theorem off1_all {D : Addr} : ∀ {l : Led}, (∀ p ∈ l, p.1 ≠ D) → LCg.Off1 D l
  | [], _ => trivial
  | _ :: _, h => ⟨h _ (.head _), off1_all fun p hp => h p (.tail _ hp)⟩
theorem off1_sub {D : Addr} {l l' : Led} (h : LCg.Off1 D l) (hs : ∀ p ∈ l', p ∈ l) : LCg.Off1 D l' := off1_all fun p hp => off1_mem h p (hs p hp)
theorem allLt_ne {D a : Addr} {o : Obj} {l : Led} (h : AllLt D l) (hm : (a, o) ∈ l) : @Ne Nat a D := by
  induction l with
  | nil => cases hm
  | cons x r ih =>
    rcases List.mem_cons.mp hm with e | hm
    · subst e; exact Nat.ne_of_lt h.1
    · exact ih h.2 hm
theorem allLt_lt {D a : Addr} {o : Obj} {l : Led} (h : AllLt D l) (hm : (a, o) ∈ l) : @LT.lt Nat _ a D := by
  induction l with
  | nil => cases hm
  | cons x r ih =>
    rcases List.mem_cons.mp hm with e | hm
    · subst e; exact h.1
    · exact ih h.2 hm
theorem allLt_ne1 {D a : Addr} {o : Obj} {l : Led} (h : AllLt D l) (hm : (a, o) ∈ l) : @Ne Nat a (D + 1) := Nat.ne_of_lt (Nat.lt_succ_of_lt (allLt_lt h hm))
theorem allLt_ne2 {D a : Addr} {o : Obj} {l : Led} (h : AllLt D l) (hm : (a, o) ∈ l) : @Ne Nat a (D + 1 + 1) := Nat.ne_of_lt (Nat.lt_succ_of_lt (Nat.lt_succ_of_lt (allLt_lt h hm)))
theorem allLt_ne3 {D a : Addr} {o : Obj} {l : Led} (h : AllLt D l) (hm : (a, o) ∈ l) : @Ne Nat a (D + 1 + 1 + 1) := Nat.ne_of_lt (Nat.lt_succ_of_lt (Nat.lt_succ_of_lt (Nat.lt_succ_of_lt (allLt_lt h hm))))
theorem allLt_ne4 {D a : Addr} {o : Obj} {l : Led} (h : AllLt D l) (hm : (a, o) ∈ l) : @Ne Nat a (D + 1 + 1 + 1 + 1) := Nat.ne_of_lt (Nat.lt_of_lt_of_le (allLt_lt h hm) (Nat.le_add_right D 4))
theorem off1_of {D : Addr} {o : Obj} {all : Led} (h : ∀ p ∈ [(D, o)], ∀ q ∈ all, p.1 ≠ q.1) : LCg.Off1 D all := by
  have : ∀ q ∈ all, q.1 ≠ D := fun q hq e => h _ (.head _) q hq e.symm
  clear h
  induction all with
  | nil => trivial
  | cons q r ih => exact ⟨this q (.head _), ih fun x hx => this x (.tail _ hx)⟩
theorem apart1 {D : Addr} {o : Obj} {all : Led} (h : LCg.Off1 D all) : ∀ p ∈ [(D, o)], ∀ q ∈ all, p.1 ≠ q.1 := by
  intro p hp q hq
  rw [List.mem_singleton.mp hp]
  induction all with
  | nil => cases hq
  | cons x r ih =>
    rcases List.mem_cons.mp hq with rfl | hq
    · exact fun e => h.1 e.symm
    · exact ih h.2 hq
theorem apart_cons {D : Addr} {o : Obj} {add all : Led} (h : LCg.Off1 D all) (k : ∀ p ∈ add, ∀ q ∈ all, p.1 ≠ q.1) : ∀ p ∈ (D, o) :: add, ∀ q ∈ all, p.1 ≠ q.1 := by
  intro p hp
  rcases List.mem_cons.mp hp with rfl | hp
  · exact apart1 (o := o) h _ (.head _)
  · exact k p hp
theorem apart0 {all : Led} : ∀ p ∈ ([] : Led), ∀ q ∈ all, p.1 ≠ q.1 := fun _ h => nomatch h
theorem apart_head {D : Addr} {o : Obj} {add all : Led} (h : ∀ p ∈ (D, o) :: add, ∀ q ∈ all, p.1 ≠ q.1) : LCg.Off1 D all := off1_of (o := o) fun p hp => h p (by rw [List.mem_singleton.mp hp]; exact .head _)
theorem apart_tail {x : Addr × Obj} {add all : Led} (h : ∀ p ∈ x :: add, ∀ q ∈ all, p.1 ≠ q.1) : ∀ p ∈ add, ∀ q ∈ all, p.1 ≠ q.1 := fun q hq => h q (.tail _ hq)
theorem ite_yes {c : Prop} [Decidable c] {P Q : Prop} (h : c) (p : P) : if c then P else Q := by rw [if_pos h]; exact p
theorem ite_no {c : Prop} [Decidable c] {P Q : Prop} (h : ¬ c) (q : Q) : if c then P else Q := by rw [if_neg h]; exact q
noncomputable def Stop (P : Prop) : Prop := P
theorem stop {P : Prop} (h : Stop P) : P := h
theorem unstop {P : Prop} (h : P) : Stop P := h
noncomputable abbrev RInt (X : Int) (v : Value) (add : Led) : Prop := ∃ t, v = .int X t ∧ add = []
noncomputable abbrev RTup (X Y : Int) (v : Value) (add : Led) : Prop := ∃ D n t1 t2, v = .ref D ∧ add = [(D, tupOf #[.int X t1, .int Y t2] n)]
noncomputable abbrev RGrid (a b c d : Int) (v : Value) (add : Led) : Prop :=
  ∃ g r0 r1 n0 n1 n2 t0 t1 t2 t3, v = .ref g ∧ add = [(g, listOf #[.ref r0, .ref r1] n0), (r0, listOf #[.int a t0, .int b t1] n1), (r1, listOf #[.int c t2, .int d t3] n2)] ∧ (@Ne Nat g r0) ∧ (@Ne Nat g r1) ∧ (@Ne Nat r0 r1)
noncomputable abbrev RetR (s : Shared) (h₀ : Heap) (L : Addr) (m : Str → Option Value) (led : Led) (R : Value → Led → Prop) (Q : Value → Shared → Prop) : Prop :=
  ∀ v h' tk' led', Fr h₀ L h' m → News h₀ L h' led' → Kept s.heap led h' led' → (∃ add, led' = add ++ led ∧ (∀ p ∈ add, ∀ q ∈ led, p.1 ≠ q.1) ∧ R v add) → Q v { s with heap := h', toks := tk' }
section
variable {s : Shared} {h₀ h' : Heap} {L : Addr} {m : Str → Option Value} {led fin : Led} {Q : Value → Shared → Prop} {tk' : Nat}
theorem ret_int {X X' : Int} {t : Tok} (hret : RetR s h₀ L m led (RInt X) Q) (F : Fr h₀ L h' m) (N : News h₀ L h' fin) (K : Kept s.heap led h' fin) (hs : ∀ p ∈ led, p ∈ fin) (hX : X' = X) : Q (.int X' t) { s with heap := h', toks := tk' } := by
  subst hX
  exact hret _ _ _ led F (news_sub N hs) (kept_sub K hs) ⟨[], rfl, apart0, t, rfl, rfl⟩
theorem ret_tup {X X' Y Y' : Int} {D : Addr} {t1 t2 : Tok} {n : Nat} (hret : RetR s h₀ L m led (RTup X Y) Q) (F : Fr h₀ L h' m) (N : News h₀ L h' fin) (K : Kept s.heap led h' fin) (hs : ∀ p ∈ led, p ∈ fin)
    (hm : (D, tupOf #[.int X' t1, .int Y' t2] n) ∈ fin) (hX : X' = X) (hY : Y' = Y) (off : LCg.Off1 D led) : Q (.ref D) { s with heap := h', toks := tk' } := by
  subst hX; subst hY
  have hs' : ∀ p ∈ (D, tupOf #[.int X' t1, .int Y' t2] n) :: led, p ∈ fin := fun p hp => by
    rcases List.mem_cons.mp hp with rfl | hp
    · exact hm
    · exact hs p hp
  exact hret _ _ _ ([(D, tupOf #[.int X' t1, .int Y' t2] n)] ++ led) F (news_sub N hs') (kept_sub K hs') ⟨_, rfl, apart1 off, D, n, t1, t2, rfl, rfl⟩
theorem ret_grid {a b c d a' b' c' d' : Int} {g r0 r1 : Addr} {t0 t1 t2 t3 : Tok} {n0 n1 n2 : Nat} (hret : RetR s h₀ L m led (RGrid a b c d) Q) (F : Fr h₀ L h' m) (N : News h₀ L h' fin) (K : Kept s.heap led h' fin) (hs : ∀ p ∈ led, p ∈ fin)
    (hg : (g, listOf #[.ref r0, .ref r1] n0) ∈ fin) (h0 : (r0, listOf #[.int a' t0, .int b' t1] n1) ∈ fin) (h1 : (r1, listOf #[.int c' t2, .int d' t3] n2) ∈ fin) (ea : a' = a) (eb : b' = b) (ec : c' = c) (ed : d' = d)
    (og : LCg.Off1 g led) (o0 : LCg.Off1 r0 led) (o1 : LCg.Off1 r1 led) (e0 : @Ne Nat g r0) (e1 : @Ne Nat g r1) (e2 : @Ne Nat r0 r1) : Q (.ref g) { s with heap := h', toks := tk' } := by
  subst ea; subst eb; subst ec; subst ed
  have hs' : ∀ p ∈ [(g, listOf #[.ref r0, .ref r1] n0), (r0, listOf #[.int a' t0, .int b' t1] n1), (r1, listOf #[.int c' t2, .int d' t3] n2)] ++ led, p ∈ fin := fun p hp => by
    simp only [List.cons_append, List.nil_append, List.mem_cons] at hp
    rcases hp with rfl | rfl | rfl | hp
    · exact hg
    · exact h0
    · exact h1
    · exact hs p hp
  exact hret _ _ _ _ F (news_sub N hs') (kept_sub K hs') ⟨_, rfl, apart_cons og (apart_cons o0 (apart1 o1)), g, r0, r1, n0, n1, n2, t0, t1, t2, t3, rfl, rfl, e0, e1, e2⟩
theorem ret_add {R : Value → Led → Prop} {v : Value} (hret : RetR s h₀ L m led R Q) (F : Fr h₀ L h' m) (N : News h₀ L h' fin) (K : Kept s.heap led h' fin) (add : Led) (hs : ∀ p ∈ add ++ led, p ∈ fin) (ap : ∀ p ∈ add, ∀ q ∈ led, p.1 ≠ q.1) (hR : R v add) : Q v { s with heap := h', toks := tk' } :=
  hret _ _ _ _ F (news_sub N hs) (kept_sub K hs) ⟨add, rfl, ap, hR⟩
end
theorem Ctr.useInt {w : World} {D : Nat} {f : Addr} {vs : List Value} {led all : Led} {Z : Int} (C : CtrR w D f vs led (RInt Z))
    {p : Program} {loose : List Str} {mean : ExcName → Option Value} {mg mb : Str → Option Value} {dp un : Nat} {gd : Option (List Code)} {cn : Str} {nms : List (Str × NameKind)} {ig ic : Bool} {mo : List (Str × Const)} {a : Addr} {ccd : Value} {cl : List (Str × Addr)} {outer : List Env} {A₀ : Around} {base h₀ : Heap} {L : Addr} {m : Str → Option Value} {s : Shared} {Q E : Value → Shared → Prop}
    (B : Below A₀ base outer h₀) (F : Fr h₀ L s.heap m) (X : (hd.heap_1 w.params).In h₀) (N : News h₀ L s.heap all) (hs : ∀ p ∈ led, p ∈ all) (T : Top p loose mean mg mb h₀) (hd : dp + D < recursionLimit) (hu : un + 8 * D < cLine) (hC : CodeHd base 197 193)
    (ret : ∀ t h' tk', Fr h₀ L h' m → News h₀ L h' all → Q (.int Z t) { s with heap := h', toks := tk' }) :
    wpAny (model PySem.Challenge.rw_xm0031_01.row.prog w) (ktrTop dp un gd cn { kind := .function, names := nms, isGenerator := ig, isCoroutine := ic, more := mo } L a ccd cl outer) (call (.ref f) vs) Q E s :=
  Ctr.useR C B F X N hs T hd hu hC (by
    rintro v h' tk' add F' N' P' ⟨t, rfl, rfl⟩
    exact ret t h' tk' F' N')
theorem Ctr.useTup {w : World} {D : Nat} {f : Addr} {vs : List Value} {led all : Led} {Z Y : Int} (C : CtrR w D f vs led (RTup Z Y))
    {p : Program} {loose : List Str} {mean : ExcName → Option Value} {mg mb : Str → Option Value} {dp un : Nat} {gd : Option (List Code)} {cn : Str} {nms : List (Str × NameKind)} {ig ic : Bool} {mo : List (Str × Const)} {a : Addr} {ccd : Value} {cl : List (Str × Addr)} {outer : List Env} {A₀ : Around} {base h₀ : Heap} {L : Addr} {m : Str → Option Value} {s : Shared} {Q E : Value → Shared → Prop}
    (B : Below A₀ base outer h₀) (F : Fr h₀ L s.heap m) (X : (hd.heap_1 w.params).In h₀) (N : News h₀ L s.heap all) (hs : ∀ p ∈ led, p ∈ all) (T : Top p loose mean mg mb h₀) (hd : dp + D < recursionLimit) (hu : un + 8 * D < cLine) (hC : CodeHd base 197 193)
    (ret : ∀ D n t1 t2 h' tk', Fr h₀ L h' m → News h₀ L h' ((D, tupOf #[.int Z t1, .int Y t2] n) :: all) → LCg.Off1 D all → Q (.ref D) { s with heap := h', toks := tk' }) :
    wpAny (model PySem.Challenge.rw_xm0031_01.row.prog w) (ktrTop dp un gd cn { kind := .function, names := nms, isGenerator := ig, isCoroutine := ic, more := mo } L a ccd cl outer) (call (.ref f) vs) Q E s :=
  Ctr.useR C B F X N hs T hd hu hC (by
    rintro v h' tk' add F' N' P' ⟨D, n, t1, t2, rfl, rfl⟩
    exact ret D n t1 t2 h' tk' F' N' (off1_of P'))
theorem Ctr.useGrid {w : World} {D : Nat} {f : Addr} {vs : List Value} {led all : Led} {z1 z2 z3 z4 : Int} (C : CtrR w D f vs led (RGrid z1 z2 z3 z4))
    {p : Program} {loose : List Str} {mean : ExcName → Option Value} {mg mb : Str → Option Value} {dp un : Nat} {gd : Option (List Code)} {cn : Str} {nms : List (Str × NameKind)} {ig ic : Bool} {mo : List (Str × Const)} {a : Addr} {ccd : Value} {cl : List (Str × Addr)} {outer : List Env} {A₀ : Around} {base h₀ : Heap} {L : Addr} {m : Str → Option Value} {s : Shared} {Q E : Value → Shared → Prop}
    (B : Below A₀ base outer h₀) (F : Fr h₀ L s.heap m) (X : (hd.heap_1 w.params).In h₀) (N : News h₀ L s.heap all) (hs : ∀ p ∈ led, p ∈ all) (T : Top p loose mean mg mb h₀) (hd : dp + D < recursionLimit) (hu : un + 8 * D < cLine) (hC : CodeHd base 197 193)
    (ret : ∀ g r0 r1 n0 n1 n2 t0 t1 t2 t3 h' tk', Fr h₀ L h' m → News h₀ L h' ((g, listOf #[.ref r0, .ref r1] n0) :: (r0, listOf #[.int z1 t0, .int z2 t1] n1) :: (r1, listOf #[.int z3 t2, .int z4 t3] n2) :: all) → LCg.Off1 g all → LCg.Off1 r0 all → LCg.Off1 r1 all → @Ne Nat g r0 → @Ne Nat g r1 → @Ne Nat r0 r1 → Q (.ref g) { s with heap := h', toks := tk' }) :
    wpAny (model PySem.Challenge.rw_xm0031_01.row.prog w) (ktrTop dp un gd cn { kind := .function, names := nms, isGenerator := ig, isCoroutine := ic, more := mo } L a ccd cl outer) (call (.ref f) vs) Q E s :=
  Ctr.useR C B F X N hs T hd hu hC (by
    rintro v h' tk' add F' N' P' ⟨g, r0, r1, n0, n1, n2, t0, t1, t2, t3, rfl, rfl, e0, e1, e2⟩
    exact ret g r0 r1 n0 n1 n2 t0 t1 t2 t3 h' tk' F' N' (apart_head P') (apart_head (apart_tail P')) (apart_head (apart_tail (apart_tail P'))) e0 e1 e2)
end Mine
end
open PySem PySem.W PyProof.Rows
set_option linter.unusedVariables false
set_option maxRecDepth 100000
set_option maxHeartbeats 8000000
namespace Mine
section
local macro_rules | `(tactic| k_room) => `(tactic| first | exact room1 (by assumption) rfl | exact room0 (by assumption) | ktr_room)
local macro_rules | `(tactic| k_units) => `(tactic| first | exact room3 (by assumption) rfl | exact room0 (by assumption) | ktr_units)
local macro_rules | `(tactic| walk_at "eval Call") => `(tactic| (k_here; (with_reducible show wpAny _ _ (eval (Expr.Call (Expr.Name _ _) _ [] _) _) _ _ _); k_dflt (refine Call_ ?_)))
local macro_rules | `(tactic| k_lt $h:ident) => `(tactic| replace $h := allLt_of $h)
local macro_rules | `(tactic| k_ne) => `(tactic| (refine neN ?_; (try dsimp only); first | with_reducible assumption | (refine Ne.symm ?_; with_reducible assumption) | exact off1_ne (by with_reducible assumption) (by k_mem) | exact Ne.symm (off1_ne (by with_reducible assumption) (by k_mem)) | exact allLt_ne (by with_reducible assumption) (by k_mem) | exact Ne.symm (allLt_ne (by with_reducible assumption) (by k_mem)) | exact allLt_ne1 (by with_reducible assumption) (by k_mem) | exact allLt_ne2 (by with_reducible assumption) (by k_mem) | exact allLt_ne3 (by with_reducible assumption) (by k_mem) | exact allLt_ne4 (by with_reducible assumption) (by k_mem) | exact Nat.ne_of_lt (by assumption) | exact Nat.ne_of_gt (by assumption) | ((repeat cases ‹_ ∧ _›); first | assumption | exact Ne.symm (by assumption) | exact Nat.ne_of_lt (by assumption) | exact Nat.ne_of_gt (by assumption) | omega)))
local macro_rules | `(tactic| k_subL) => `(tactic| first | exact subL_refl | (refine subL_keep ?_; k_subL) | (refine subL_skip ?_; k_subL) | fail)
local macro_rules | `(tactic| krn_off) => `(tactic| first | (refine offI_list ?_; krn_off) | (refine offI_tup ?_; krn_off) | fail)
local macro_rules | `(tactic| lcg_sub) => `(tactic| first | exact sub_nil | exact sub_refl | (refine sub_cons ?_ ?_; k_mem; lcg_sub) | fail)
local macro_rules | `(tactic| walk_at "ctr dec") => `(tactic| ((simp only [bne_iff_ne, ne_eq, beq_iff_eq, decide_eq_true_eq, Bool.and_eq_true, Bool.or_eq_true, Bool.not_eq_true', decide_eq_false_iff_not]); omega))
local macro_rules | `(tactic| walk_at "ite") => `(tactic| (k_here; k_dflt (first | (refine ite_yes (by walk_at "ctr dec") ?_) | (refine ite_no (by walk_at "ctr dec") ?_))))
local macro_rules | `(tactic| walk_at "RangeRest") => `(tactic| (with_unfolding_all first
  | (refine RangeRest.succ (fun t' h' tk' F' N' => ?_); (first | change Fr _ _ _ (fun y => if y = _ then some (Value.int 0 _) else _) at F' | change Fr _ _ _ (fun y => if y = _ then some (Value.int 1 _) else _) at F' | skip)) | (refine RangeRest.zero (fun h' tk' F' N' => ?_))))
local macro_rules | `(tactic| walk_at "exec Assign cons ListComp") => `(tactic| walk_at "exec Assign")
local macro_rules | `(tactic| walk_at "ctr item") => `(tactic| (k_here; k_dflt (first | refine kim_list (by k_asm) (by k_mem) rfl rfl (by decide) (by decide) (by rfl) ?_ | refine kim_tup (by k_asm) (by k_mem) rfl rfl (by decide) (by decide) (by rfl) (by rfl) ?_ | refine item_litK (News.isList (by k_asm) (by k_mem)) (by decide) (by decide) (by rfl) ?_)))
local macro_rules | `(tactic| walk_at "subscriptTail Name Name ref int") => `(tactic| walk_at "ctr item")
local macro_rules | `(tactic| walk_at "subscriptTail Name Constant ref int") => `(tactic| walk_at "ctr item")
local macro_rules | `(tactic| walk_at "subscriptTail Subscript Name Name Name ref int") => `(tactic| walk_at "ctr item")
local macro_rules | `(tactic| walk_at "subscriptTail Subscript Name Name Constant ref int") => `(tactic| walk_at "ctr item")
local macro_rules | `(tactic| walk_at "subscriptTail Subscript Subscript Name Constant ref int") => `(tactic| walk_at "ctr item")
local macro_rules | `(tactic| walk_at "subscriptTail Subscript Subscript Name Name ref int") => `(tactic| walk_at "ctr item")
local macro_rules | `(tactic| walk_at "subscriptTail Call Name cons nil Constant ref int") => `(tactic| walk_at "ctr item")
local macro_rules | `(tactic| walk_at "ctr off") => `(tactic| first | assumption | exact off1_sub (by assumption) (by lcg_sub) | exact True.intro | (refine And.intro (by k_ne) ?_; walk_at "ctr off"))
local macro_rules | `(tactic| walk_at "ctr side") => `(tactic| (
  (case k1 => first | k_asm | fail "use: below"); (case k2 => first | k_asm | fail "use: the frame"); (case k3 => first | k_asm | fail "use: the part"); (case k4 => first | k_asm | fail "use: the ledger"); (case kS => first | lcg_sub | fail "use: what is handed in"); (case k5 => first | k_asm | fail "use: the top"); (case kd => first | k_room | fail "use: room"); (case ku => first | k_units | fail "use: units"); (case kC => first | assumption | fail "use: the table")))
local macro_rules | `(tactic| walk_at "ctr got1") => `(tactic| (intro D9 n9 t9 u9 h9 tk9 F9 N9 P9; (try dsimp only); (try k_fold)))
local macro_rules | `(tactic| walk_at "ctr got0") => `(tactic| (intro t9 h9 tk9 F9 N9; (try dsimp only); (try k_fold)))
local macro_rules | `(tactic| walk_at "call ref") => `(tactic| (k_here; (with_reducible show wpAny _ _ (call (Value.ref _) _) _ _ _); refine stop ?_))
theorem walk_off_B1 : True := by
  w_top off
  trivial
-- B1
section
open PySem PySem.W PyProof.Rows
set_option linter.unusedVariables false
set_option maxRecDepth 100000
set_option maxHeartbeats 8000000
theorem gcd_start (x y : Int) : 0 ≤ (if x < 0 then -x else x) ∧ 0 ≤ (if y < 0 then -y else y) ∧ Int.gcd (if x < 0 then -x else x) (if y < 0 then -y else y) = Int.gcd x y := by
  have e : ∀ z : Int, (if z < 0 then -z else z) = (z.natAbs : Int) := fun z => by split <;> omega
  rw [e, e]
  refine ⟨by omega, by omega, ?_⟩
  simp [Int.gcd]
theorem gcd_turn {u v : Int} {G : Nat} (h : 0 ≤ u ∧ 0 ≤ v ∧ Int.gcd u v = G) (hv : 0 < v) : 0 ≤ v ∧ 0 ≤ Int.fmod u v ∧ Int.gcd v (Int.fmod u v) = G := by
  obtain ⟨h1, h2, h3⟩ := h
  refine ⟨h2, Int.fmod_nonneg h1 h2, ?_⟩
  rw [Int.fmod_eq_emod_of_nonneg _ h2, ← h3]
  simp only [Int.gcd, Int.natAbs_emod_of_nonneg h1]
  rw [Nat.gcd_comm u.natAbs, Nat.gcd_rec v.natAbs u.natAbs, Nat.gcd_comm]
theorem fmod_less {u v : Int} (hv : 0 < v) : (Int.fmod u v).toNat < v.toNat := by
  have := Int.fmod_lt_of_pos u hv
  omega
theorem gcd_end {u v : Int} {G : Nat} (h : 0 ≤ u ∧ 0 ≤ v ∧ Int.gcd u v = G) (hv : ¬ 0 < v) : u = (G : Int) := by
  obtain ⟨h1, h2, h3⟩ := h
  have : v = 0 := by omega
  subst this
  simp [Int.gcd] at h3
  omega
theorem ctr_common_divisor (w : World) (x y : Int) (ta tb : Tok) : CtrR w 4 94 [.int x ta, .int y tb] [] (RInt (Int.gcd x y)) := by
  unfold CtrR Ctr; k_fill
  intro p loose mean mg mb dp un gd cn nms9 ig9 ic9 mo9 a9 ccd cl outer A₀ base h₀ L m s Q E B F X N T hdp hun hC hret
  refine wpAny_call ?_
  (k_dflt (first | (refine' def_in ?k1 ?k2 ?k3 ?k4 ?k5 ?kA ?kF ?kK ?k6 ?k7 ?k8 ?k9 ?kB ?_ ?c2 ?c3 ?c4 ?c5; (case kA => exact rfl); (case kF => exact rfl); (case kK => exact rfl); (case k1 => k_asm); (case k2 => k_asm); (case k3 => k_asm); (case k4 => k_asm); (case k5 => k_asm); (case k6 => k_is); (case k7 => k_is); (case k8 => k_room); (case k9 => exact BindsTo.of_eq rfl); (case c5 => decide); (case kB => exact locs rfl); (case c2 => exact rfl); (case c3 => exact rfl); (case c4 => exact rfl); k_whole; intro g' L' h' H' FG' F' N' B' X' T'; (try dsimp only); (try k_lift B'); (try k_fold)) | (refine' def_inC ?k1 ?k2 ?k3 ?k4 ?k5 ?kA ?kF ?kK ?k6 ?k7 ?k8 ?k9 ?kB ?kD ?_ ?c2 ?c3 ?c4; (case kA => exact rfl); (case kF => exact rfl); (case kK => exact rfl); (case k1 => k_asm); (case k2 => k_asm); (case k3 => k_asm); (case k4 => k_asm); (case k5 => k_asm); (case k6 => k_is); (case k7 => k_is); (case k8 => k_room); (case k9 => exact BindsTo.of_eq rfl); (case kB => exact rfl); (case kD => decide +kernel); (case c2 => exact rfl); (case c3 => exact rfl); (case c4 => exact rfl); k_whole; intro g' L' h' tk' cells' H' FG' F' N' Y' B' X' T' l1; (try (replace l1 := allLt_of l1)); k_cells Y'; (try simp only [List.cons_append, List.nil_append] at N'); (try dsimp only); (try k_lift B'); (try k_fold))))
  k_with "exec While Compare cons nil" => k_while (fun (_ : List Int) (u v : Int) => 0 ≤ u ∧ 0 ≤ v ∧ Int.gcd u v = Int.gcd x y) (fun (_ : List Int) (u v : Int) => v.toNat) "one" "other"
  k_with "state" => first | exact gcd_start _ _ | exact gcd_turn ⟨by assumption, by assumption, by assumption⟩ (by assumption)
  k_with "measure" => exact fmod_less (by assumption)
  k_steps
  k_with_none
  exact ret_int hret (by k_asm) (by k_asm) (by (exact kept_of (by assumption) (by assumption) (by assumption))) (by lcg_sub) (gcd_end ⟨by assumption, by assumption, by assumption⟩ (by assumption))
theorem gcd_pos_int {x y : Int} (hy : 0 < y) : (0 : Int) < (Int.gcd x y : Int) := by
  have : 0 < Int.gcd x y := Int.gcd_pos_iff.mpr (Or.inr (by omega))
  omega
theorem gcd_le_int {x y : Int} (hy : 0 < y) : (Int.gcd x y : Int) ≤ y := by
  have h : Int.gcd x y ∣ y.natAbs := Nat.gcd_dvd_right _ _
  have := Nat.le_of_dvd (by omega) h
  omega
noncomputable def frA (x y : Int) : Int := Int.fdiv x (Int.gcd x y)
noncomputable def frB (x y : Int) : Int := Int.fdiv y (Int.gcd x y)
theorem prod_pos {b d : Int} (hb : 0 < b) (hd : 0 < d) : 0 < b * d := Int.mul_pos hb hd
theorem prod_le {b d : Int} (hb : 0 < b) (hb' : b ≤ 1000) (hd : 0 < d) (hd' : d ≤ 1000) : b * d ≤ 1000000 := by
  have := Int.mul_le_mul hb' hd' (by omega) (by omega)
  omega
theorem ctr_fraction (w : World) (x y : Int) (ta tb : Tok) (hy : 0 < y) (hz : y ≤ 1000000) : CtrR w 6 101 [.int x ta, .int y tb] [] (RTup (frA x y) (frB x y)) := by
  unfold CtrR Ctr; k_fill
  intro p loose mean mg mb dp un gd cn nms9 ig9 ic9 mo9 a9 ccd cl outer A₀ base h₀ L m s Q E B F X N T hdp hun hC hret
  refine wpAny_call ?_
  (k_dflt (first | (refine' def_in ?k1 ?k2 ?k3 ?k4 ?k5 ?kA ?kF ?kK ?k6 ?k7 ?k8 ?k9 ?kB ?_ ?c2 ?c3 ?c4 ?c5; (case kA => exact rfl); (case kF => exact rfl); (case kK => exact rfl); (case k1 => k_asm); (case k2 => k_asm); (case k3 => k_asm); (case k4 => k_asm); (case k5 => k_asm); (case k6 => k_is); (case k7 => k_is); (case k8 => k_room); (case k9 => exact BindsTo.of_eq rfl); (case c5 => decide); (case kB => exact locs rfl); (case c2 => exact rfl); (case c3 => exact rfl); (case c4 => exact rfl); k_whole; intro g' L' h' H' FG' F' N' B' X' T'; (try dsimp only); (try k_lift B'); (try k_fold)) | (refine' def_inC ?k1 ?k2 ?k3 ?k4 ?k5 ?kA ?kF ?kK ?k6 ?k7 ?k8 ?k9 ?kB ?kD ?_ ?c2 ?c3 ?c4; (case kA => exact rfl); (case kF => exact rfl); (case kK => exact rfl); (case k1 => k_asm); (case k2 => k_asm); (case k3 => k_asm); (case k4 => k_asm); (case k5 => k_asm); (case k6 => k_is); (case k7 => k_is); (case k8 => k_room); (case k9 => exact BindsTo.of_eq rfl); (case kB => exact rfl); (case kD => decide +kernel); (case c2 => exact rfl); (case c3 => exact rfl); (case c4 => exact rfl); k_whole; intro g' L' h' tk' cells' H' FG' F' N' Y' B' X' T' l1; (try (replace l1 := allLt_of l1)); k_cells Y'; (try simp only [List.cons_append, List.nil_append] at N'); (try dsimp only); (try k_lift B'); (try k_fold))))
  have hg9 := gcd_pos_int (x := x) hy
  have hb9 := gcd_le_int (x := x) hy
  (k_steps; (repeat' ((refine unstop ?_; (first | ((with_reducible show wpAny _ _ (call (Value.ref 94) _) _ _ _); (refine' Ctr.useInt (ctr_common_divisor _ _ _ _ _) ?k1 ?k2 ?k3 ?k4 ?kS ?k5 ?kd ?ku ?kC ?_; (( (case k1 => first | k_asm | fail "use: below"); (case k2 => first | k_asm | fail "use: the frame"); (case k3 => first | k_asm | fail "use: the part"); (case k4 => first | k_asm | fail "use: the ledger"); (case kS => first | lcg_sub | fail "use: what is handed in"); (case k5 => first | k_asm | fail "use: the top"); (case kd => first | k_room | fail "use: room"); (case ku => first | k_units | fail "use: units"); (case kC => first | assumption | fail "use: the table"))); ((intro t9 h9 tk9 F9 N9; (try dsimp only); (try k_fold))))))); k_steps)))
  exact ret_tup hret (by k_asm) (by k_asm) (by (exact kept_of (by assumption) (by assumption) (by assumption))) (by lcg_sub) (by k_mem) rfl rfl (by walk_at "ctr off")
theorem ctr_fraction_times (w : World) (x y : Addr) (a b c d : Int) (ta tb tc td : Tok) (n1 n2 : Nat)
    (ha : -1000 ≤ a) (ha' : a ≤ 1000) (hb : 0 < b) (hb' : b ≤ 1000) (hc : -1000 ≤ c) (hc' : c ≤ 1000) (hd : 0 < d) (hd' : d ≤ 1000) :
    CtrR w 8 115 [.ref x, .ref y] [(x, tupOf #[.int a ta, .int b tb] n1), (y, tupOf #[.int c tc, .int d td] n2)] (RTup (frA (a * c) (b * d)) (frB (a * c) (b * d))) := by
  unfold CtrR Ctr; k_fill
  intro p loose mean mg mb dp un gd cn nms9 ig9 ic9 mo9 a9 ccd cl outer A₀ base h₀ L m s Q E B F X N T hdp hun hC hret
  refine wpAny_call ?_
  (k_dflt (first | (refine' def_in ?k1 ?k2 ?k3 ?k4 ?k5 ?kA ?kF ?kK ?k6 ?k7 ?k8 ?k9 ?kB ?_ ?c2 ?c3 ?c4 ?c5; (case kA => exact rfl); (case kF => exact rfl); (case kK => exact rfl); (case k1 => k_asm); (case k2 => k_asm); (case k3 => k_asm); (case k4 => k_asm); (case k5 => k_asm); (case k6 => k_is); (case k7 => k_is); (case k8 => k_room); (case k9 => exact BindsTo.of_eq rfl); (case c5 => decide); (case kB => exact locs rfl); (case c2 => exact rfl); (case c3 => exact rfl); (case c4 => exact rfl); k_whole; intro g' L' h' H' FG' F' N' B' X' T'; (try dsimp only); (try k_lift B'); (try k_fold)) | (refine' def_inC ?k1 ?k2 ?k3 ?k4 ?k5 ?kA ?kF ?kK ?k6 ?k7 ?k8 ?k9 ?kB ?kD ?_ ?c2 ?c3 ?c4; (case kA => exact rfl); (case kF => exact rfl); (case kK => exact rfl); (case k1 => k_asm); (case k2 => k_asm); (case k3 => k_asm); (case k4 => k_asm); (case k5 => k_asm); (case k6 => k_is); (case k7 => k_is); (case k8 => k_room); (case k9 => exact BindsTo.of_eq rfl); (case kB => exact rfl); (case kD => decide +kernel); (case c2 => exact rfl); (case c3 => exact rfl); (case c4 => exact rfl); k_whole; intro g' L' h' tk' cells' H' FG' F' N' Y' B' X' T' l1; (try (replace l1 := allLt_of l1)); k_cells Y'; (try simp only [List.cons_append, List.nil_append] at N'); (try dsimp only); (try k_lift B'); (try k_fold))))
  have hp9 := prod_pos hb hd
  have hq9 := prod_le hb hb' hd hd'
  (k_steps; (repeat' ((refine unstop ?_; (first | ((with_reducible show wpAny _ _ (call (Value.ref 101) _) _ _ _); (refine' Ctr.useTup (ctr_fraction _ _ _ _ _ ?hy ?hz) ?k1 ?k2 ?k3 ?k4 ?kS ?k5 ?kd ?ku ?kC ?_; (( (case k1 => first | k_asm | fail "use: below"); (case k2 => first | k_asm | fail "use: the frame"); (case k3 => first | k_asm | fail "use: the part"); (case k4 => first | k_asm | fail "use: the ledger"); (case kS => first | lcg_sub | fail "use: what is handed in"); (case k5 => first | k_asm | fail "use: the top"); (case kd => first | k_room | fail "use: room"); (case ku => first | k_units | fail "use: units"); (case kC => first | assumption | fail "use: the table"))); (case hy => first | assumption | omega | fail "use: hy"); (case hz => first | assumption | omega | fail "use: hz"); ((intro D9 n9 t9 u9 h9 tk9 F9 N9 P9; (try dsimp only); (try k_fold))))) | ((with_reducible show wpAny _ _ (call (Value.ref 94) _) _ _ _); (refine' Ctr.useInt (ctr_common_divisor _ _ _ _ _) ?k1 ?k2 ?k3 ?k4 ?kS ?k5 ?kd ?ku ?kC ?_; (( (case k1 => first | k_asm | fail "use: below"); (case k2 => first | k_asm | fail "use: the frame"); (case k3 => first | k_asm | fail "use: the part"); (case k4 => first | k_asm | fail "use: the ledger"); (case kS => first | lcg_sub | fail "use: what is handed in"); (case k5 => first | k_asm | fail "use: the top"); (case kd => first | k_room | fail "use: room"); (case ku => first | k_units | fail "use: units"); (case kC => first | assumption | fail "use: the table"))); ((intro t9 h9 tk9 F9 N9; (try dsimp only); (try k_fold))))))); k_steps)))
  exact ret_tup hret (by k_asm) (by k_asm) (by (exact kept_of (by assumption) (by assumption) (by assumption))) (by lcg_sub) (by k_mem) rfl rfl (by walk_at "ctr off")
theorem ctr_fraction_less (w : World) (x y : Addr) (a b c d : Int) (ta tb tc td : Tok) (n1 n2 : Nat)
    (ha : -1000 ≤ a) (ha' : a ≤ 1000) (hb : 0 < b) (hb' : b ≤ 1000) (hc : -1000 ≤ c) (hc' : c ≤ 1000) (hd : 0 < d) (hd' : d ≤ 1000) :
    CtrR w 8 122 [.ref x, .ref y] [(x, tupOf #[.int a ta, .int b tb] n1), (y, tupOf #[.int c tc, .int d td] n2)] (RTup (frA (a * d - c * b) (b * d)) (frB (a * d - c * b) (b * d))) := by
  unfold CtrR Ctr; k_fill
  intro p loose mean mg mb dp un gd cn nms9 ig9 ic9 mo9 a9 ccd cl outer A₀ base h₀ L m s Q E B F X N T hdp hun hC hret
  refine wpAny_call ?_
  (k_dflt (first | (refine' def_in ?k1 ?k2 ?k3 ?k4 ?k5 ?kA ?kF ?kK ?k6 ?k7 ?k8 ?k9 ?kB ?_ ?c2 ?c3 ?c4 ?c5; (case kA => exact rfl); (case kF => exact rfl); (case kK => exact rfl); (case k1 => k_asm); (case k2 => k_asm); (case k3 => k_asm); (case k4 => k_asm); (case k5 => k_asm); (case k6 => k_is); (case k7 => k_is); (case k8 => k_room); (case k9 => exact BindsTo.of_eq rfl); (case c5 => decide); (case kB => exact locs rfl); (case c2 => exact rfl); (case c3 => exact rfl); (case c4 => exact rfl); k_whole; intro g' L' h' H' FG' F' N' B' X' T'; (try dsimp only); (try k_lift B'); (try k_fold)) | (refine' def_inC ?k1 ?k2 ?k3 ?k4 ?k5 ?kA ?kF ?kK ?k6 ?k7 ?k8 ?k9 ?kB ?kD ?_ ?c2 ?c3 ?c4; (case kA => exact rfl); (case kF => exact rfl); (case kK => exact rfl); (case k1 => k_asm); (case k2 => k_asm); (case k3 => k_asm); (case k4 => k_asm); (case k5 => k_asm); (case k6 => k_is); (case k7 => k_is); (case k8 => k_room); (case k9 => exact BindsTo.of_eq rfl); (case kB => exact rfl); (case kD => decide +kernel); (case c2 => exact rfl); (case c3 => exact rfl); (case c4 => exact rfl); k_whole; intro g' L' h' tk' cells' H' FG' F' N' Y' B' X' T' l1; (try (replace l1 := allLt_of l1)); k_cells Y'; (try simp only [List.cons_append, List.nil_append] at N'); (try dsimp only); (try k_lift B'); (try k_fold))))
  have hp9 := prod_pos hb hd
  have hq9 := prod_le hb hb' hd hd'
  (k_steps; (repeat' ((refine unstop ?_; (first | ((with_reducible show wpAny _ _ (call (Value.ref 101) _) _ _ _); (refine' Ctr.useTup (ctr_fraction _ _ _ _ _ ?hy ?hz) ?k1 ?k2 ?k3 ?k4 ?kS ?k5 ?kd ?ku ?kC ?_; (( (case k1 => first | k_asm | fail "use: below"); (case k2 => first | k_asm | fail "use: the frame"); (case k3 => first | k_asm | fail "use: the part"); (case k4 => first | k_asm | fail "use: the ledger"); (case kS => first | lcg_sub | fail "use: what is handed in"); (case k5 => first | k_asm | fail "use: the top"); (case kd => first | k_room | fail "use: room"); (case ku => first | k_units | fail "use: units"); (case kC => first | assumption | fail "use: the table"))); (case hy => first | assumption | omega | fail "use: hy"); (case hz => first | assumption | omega | fail "use: hz"); ((intro D9 n9 t9 u9 h9 tk9 F9 N9 P9; (try dsimp only); (try k_fold))))) | ((with_reducible show wpAny _ _ (call (Value.ref 94) _) _ _ _); (refine' Ctr.useInt (ctr_common_divisor _ _ _ _ _) ?k1 ?k2 ?k3 ?k4 ?kS ?k5 ?kd ?ku ?kC ?_; (( (case k1 => first | k_asm | fail "use: below"); (case k2 => first | k_asm | fail "use: the frame"); (case k3 => first | k_asm | fail "use: the part"); (case k4 => first | k_asm | fail "use: the ledger"); (case kS => first | lcg_sub | fail "use: what is handed in"); (case k5 => first | k_asm | fail "use: the top"); (case kd => first | k_room | fail "use: room"); (case ku => first | k_units | fail "use: units"); (case kC => first | assumption | fail "use: the table"))); ((intro t9 h9 tk9 F9 N9; (try dsimp only); (try k_fold))))))); k_steps)))
  exact ret_tup hret (by k_asm) (by k_asm) (by (exact kept_of (by assumption) (by assumption) (by assumption))) (by lcg_sub) (by k_mem) rfl rfl (by walk_at "ctr off")
theorem ctr_fraction_by (w : World) (x y : Addr) (a b c d : Int) (ta tb tc td : Tok) (n1 n2 : Nat)
    (ha : -1000 ≤ a) (ha' : a ≤ 1000) (hb : 0 < b) (hb' : b ≤ 1000) (hc : -1000 ≤ c) (hc' : c ≤ 1000) (hd : 0 < d) (hd' : d ≤ 1000) (hc0 : 0 < c) :
    CtrR w 8 129 [.ref x, .ref y] [(x, tupOf #[.int a ta, .int b tb] n1), (y, tupOf #[.int c tc, .int d td] n2)] (RTup (frA (a * d) (b * c)) (frB (a * d) (b * c))) := by
  unfold CtrR Ctr; k_fill
  intro p loose mean mg mb dp un gd cn nms9 ig9 ic9 mo9 a9 ccd cl outer A₀ base h₀ L m s Q E B F X N T hdp hun hC hret
  refine wpAny_call ?_
  (k_dflt (first | (refine' def_in ?k1 ?k2 ?k3 ?k4 ?k5 ?kA ?kF ?kK ?k6 ?k7 ?k8 ?k9 ?kB ?_ ?c2 ?c3 ?c4 ?c5; (case kA => exact rfl); (case kF => exact rfl); (case kK => exact rfl); (case k1 => k_asm); (case k2 => k_asm); (case k3 => k_asm); (case k4 => k_asm); (case k5 => k_asm); (case k6 => k_is); (case k7 => k_is); (case k8 => k_room); (case k9 => exact BindsTo.of_eq rfl); (case c5 => decide); (case kB => exact locs rfl); (case c2 => exact rfl); (case c3 => exact rfl); (case c4 => exact rfl); k_whole; intro g' L' h' H' FG' F' N' B' X' T'; (try dsimp only); (try k_lift B'); (try k_fold)) | (refine' def_inC ?k1 ?k2 ?k3 ?k4 ?k5 ?kA ?kF ?kK ?k6 ?k7 ?k8 ?k9 ?kB ?kD ?_ ?c2 ?c3 ?c4; (case kA => exact rfl); (case kF => exact rfl); (case kK => exact rfl); (case k1 => k_asm); (case k2 => k_asm); (case k3 => k_asm); (case k4 => k_asm); (case k5 => k_asm); (case k6 => k_is); (case k7 => k_is); (case k8 => k_room); (case k9 => exact BindsTo.of_eq rfl); (case kB => exact rfl); (case kD => decide +kernel); (case c2 => exact rfl); (case c3 => exact rfl); (case c4 => exact rfl); k_whole; intro g' L' h' tk' cells' H' FG' F' N' Y' B' X' T' l1; (try (replace l1 := allLt_of l1)); k_cells Y'; (try simp only [List.cons_append, List.nil_append] at N'); (try dsimp only); (try k_lift B'); (try k_fold))))
  have hp9 := prod_pos hb hc0
  have hq9 := prod_le hb hb' hc0 hc'
  (k_steps; (repeat' ((refine unstop ?_; (first | ((with_reducible show wpAny _ _ (call (Value.ref 101) _) _ _ _); (refine' Ctr.useTup (ctr_fraction _ _ _ _ _ ?hy ?hz) ?k1 ?k2 ?k3 ?k4 ?kS ?k5 ?kd ?ku ?kC ?_; (( (case k1 => first | k_asm | fail "use: below"); (case k2 => first | k_asm | fail "use: the frame"); (case k3 => first | k_asm | fail "use: the part"); (case k4 => first | k_asm | fail "use: the ledger"); (case kS => first | lcg_sub | fail "use: what is handed in"); (case k5 => first | k_asm | fail "use: the top"); (case kd => first | k_room | fail "use: room"); (case ku => first | k_units | fail "use: units"); (case kC => first | assumption | fail "use: the table"))); (case hy => first | assumption | omega | fail "use: hy"); (case hz => first | assumption | omega | fail "use: hz"); ((intro D9 n9 t9 u9 h9 tk9 F9 N9 P9; (try dsimp only); (try k_fold))))) | ((with_reducible show wpAny _ _ (call (Value.ref 94) _) _ _ _); (refine' Ctr.useInt (ctr_common_divisor _ _ _ _ _) ?k1 ?k2 ?k3 ?k4 ?kS ?k5 ?kd ?ku ?kC ?_; (( (case k1 => first | k_asm | fail "use: below"); (case k2 => first | k_asm | fail "use: the frame"); (case k3 => first | k_asm | fail "use: the part"); (case k4 => first | k_asm | fail "use: the ledger"); (case kS => first | lcg_sub | fail "use: what is handed in"); (case k5 => first | k_asm | fail "use: the top"); (case kd => first | k_room | fail "use: room"); (case ku => first | k_units | fail "use: units"); (case kC => first | assumption | fail "use: the table"))); ((intro t9 h9 tk9 F9 N9; (try dsimp only); (try k_fold))))))); k_steps)))
  exact ret_tup hret (by k_asm) (by k_asm) (by (exact kept_of (by assumption) (by assumption) (by assumption))) (by lcg_sub) (by k_mem) rfl rfl (by walk_at "ctr off")
end
-- C0
section
open PySem PySem.W PyProof.Rows PySem.Calls PySem.Spec
set_option linter.unusedVariables false
set_option maxRecDepth 100000
noncomputable abbrev cellNone : Obj := { cls := .type "cell", data := .cell none }
noncomputable abbrev dict0 : Obj := { cls := .type "dict", data := .dict #[] }
section
variable {prog : Program} {w : World} {A : Around} {E : Value → Shared → Prop} {s : Shared} {h₀ : Heap} {L : Addr} {m : Str → Option Value} {env : Env}
noncomputable def CellEnd (h₀ : Heap) (L : Addr) (m : Str → Option Value) (s₁ : Shared) (I : Addr) (oI : Obj) (C : Addr) (oC : Obj) (K : Addr) (oK : Obj) (D : Addr) (oD : Obj) (rest : Value → Led → Prop) (y : Value) (s₂ : Shared) : Prop :=
  ∃ h' tk news', s₂ = { s₁ with heap := h', toks := tk } ∧ Fr h₀ L h' m ∧ News h₀ L h' ((I, oI) :: (C, oC) :: (K, oK) :: (D, oD) :: news') ∧ LCg.Off3 I C D news' ∧ LCg.Off1 K news' ∧ rest y news'
noncomputable def CellRest (prog : Program) (w : World) (A : Around) (h₀ : Heap) (L : Addr) (m : Str → Option Value) (env : Env) (elt : Expr) (x : Str) (scope : Scope) (cl : List (Str × Addr)) (s : Shared) (P : Nat → Value → Prop) (Fin : List Value → Led → Prop) : Nat → Nat → List Value → Led → Prop
  | 0, _, ys, news => Fin ys news
  | k + 1, i, ys, news => ∀ v I oI C oC K oK D h tk (E' : Value → Shared → Prop), P i v → oK.data = .cell (some v) → Fr h₀ L h m → News h₀ L h ((I, oI) :: (C, oC) :: (K, oK) :: (D, LCg.lst ys) :: news) → LCg.Off3 I C D news → LCg.Off1 K news →
      ((@Ne Nat I C) ∧ (@Ne Nat I K) ∧ (@Ne Nat I D) ∧ (@Ne Nat C K) ∧ (@Ne Nat C D) ∧ (@Ne Nat K D)) →
      wpAny (model prog w) A (eval elt (compEnvC scope ((x, K) :: cl) C env)) (CellEnd h₀ L m { s with heap := h, toks := tk } I oI C oC K oK D (LCg.lst ys) (fun y news' => CellRest prog w A h₀ L m env elt x scope cl s P Fin k (i + 1) (ys ++ [y]) news')) E' { s with heap := h, toks := tk }
noncomputable def CellSrc (prog : Program) (w : World) (A : Around) (h₀ : Heap) (L : Addr) (m : Str → Option Value) (env : Env) (elt : Expr) (x : Str) (scope : Scope) (cl : List (Str × Addr)) (Q : Value → Shared → Prop) (xv : Value) (s₁ : Shared) : Prop :=
  ∃ r a b t u v n news, xv = .ref r ∧ A.handled = none ∧ Fr h₀ L s₁.heap m ∧ News h₀ L s₁.heap news ∧ IsRange s₁.heap r a b 1 t u v ∧ Builtin.Range.small a b 1 = true ∧ Builtin.Range.rangeSize a b 1 = ((n : Nat) : Int) ∧ n ≤ sizeLine ∧
      ∀ s₂ : Shared, (∃ h, s₂ = { s₁ with heap := h }) → CellRest prog w A h₀ L m env elt x scope cl s₂ (fun i v => ∃ t, v = .int (a + (i : Int)) t) (LCg.FinE h₀ L m s₂ Q) n 0 [] news
theorem cell_src {elt : Expr} {x : Str} {scope : Scope} {cl : List (Str × Addr)} {Q : Value → Shared → Prop} {r : Addr} {a b : Int} {t u v : Tok} {n : Nat} {news : Led} {s₁ : Shared}
    (hh : A.handled = none) (F : Fr h₀ L s₁.heap m) (N : News h₀ L s₁.heap news) (hr : IsRange s₁.heap r a b 1 t u v) (hsm : Builtin.Range.small a b 1 = true) (hn : Builtin.Range.rangeSize a b 1 = ((n : Nat) : Int)) (hsz : n ≤ sizeLine)
    (h : ∀ g, CellRest prog w A h₀ L m env elt x scope cl { s₁ with heap := g } (fun i v => ∃ t, v = .int (a + (i : Int)) t) (LCg.FinE h₀ L m { s₁ with heap := g } Q) n 0 [] news) : CellSrc prog w A h₀ L m env elt x scope cl Q (.ref r) s₁ :=
  ⟨r, a, b, t, u, v, n, news, rfl, hh, F, N, hr, hsm, hn, hsz, fun s₂ ⟨g, e⟩ => e ▸ h g⟩
theorem cell_end {I C K D : Addr} {oI oC oK oD : Obj} {rest : Value → Led → Prop} {y : Value} {s₁ : Shared} {h' : Heap} {tk : Nat} {all : Led} (F : Fr h₀ L h' m) (N : News h₀ L h' all) (news' : Led)
    (hs : ∀ p ∈ (I, oI) :: (C, oC) :: (K, oK) :: (D, oD) :: news', p ∈ all) (o3 : LCg.Off3 I C D news') (o1 : LCg.Off1 K news') (hr : rest y news') : CellEnd h₀ L m s₁ I oI C oC K oK D oD rest y { s₁ with heap := h', toks := tk } :=
  ⟨h', tk, news', rfl, F, fun p hp => N p (hs p hp), o3, o1, hr⟩
theorem cell_end1 {I C K D : Addr} {oI oC oK oD : Obj} {rest : Value → Led → Prop} {y : Value} {s₁ : Shared} {h' : Heap} {tk : Nat} {q : Addr × Obj} {news : Led} (F : Fr h₀ L h' m) (N : News h₀ L h' (q :: (I, oI) :: (C, oC) :: (K, oK) :: (D, oD) :: news))
    (o3 : LCg.Off3 I C D (q :: news)) (o1 : LCg.Off1 K (q :: news)) (hr : rest y (q :: news)) : CellEnd h₀ L m s₁ I oI C oC K oK D oD rest y { s₁ with heap := h', toks := tk } := by
  refine ⟨h', tk, q :: news, rfl, F, fun p hp => N p ?_, o3, o1, hr⟩
  simp only [List.mem_cons] at hp ⊢
  rcases hp with h | h | h | h | h | h <;> simp [h]
theorem ints2 {ys : List Value} {ns : List Int} {a b : Int} (h : IntsAre ys ns) (e : ns = [a, b]) : ∃ ta tb, ys = [.int a ta, .int b tb] := by
  subst e
  obtain ⟨t0, h0⟩ := h.get 0 a rfl
  obtain ⟨t1, h1⟩ := h.get 1 b rfl
  refine ⟨t0, t1, List.ext_getElem? fun i => ?_⟩
  rcases i with _ | _ | i
  · exact h0
  · exact h1
  · exact (List.getElem?_eq_none (by rw [h.length]; exact Nat.le_add_left 2 i)).trans rfl
noncomputable def CellOne (h₀ : Heap) (L : Addr) (m : Str → Option Value) (s₁ : Shared) (led : Led) (Z : Obj → Prop) (y : Value) (s₂ : Shared) : Prop :=
  ∃ D o h' tk, y = .ref D ∧ s₂ = { s₁ with heap := h', toks := tk } ∧ Fr h₀ L h' m ∧ News h₀ L h' ((D, o) :: led) ∧ LCg.Off1 D led ∧ Z o
theorem cell_one {s₁ : Shared} {led : Led} {Z : Obj → Prop} {D : Addr} {o : Obj} {h' : Heap} {tk : Nat} (F : Fr h₀ L h' m) (N : News h₀ L h' ((D, o) :: led)) (off : LCg.Off1 D led) (z : Z o) : CellOne h₀ L m s₁ led Z (.ref D) { s₁ with heap := h', toks := tk } :=
  ⟨D, o, h', tk, rfl, rfl, F, N, off, z⟩
theorem cell_rest2 {elt : Expr} {x : Str} {scope : Scope} {cl : List (Str × Addr)} {Q : Value → Shared → Prop} {news : Led} {Z0 Z1 : Obj → Prop}
    (t0 : ∀ t I oI C oC K oK D h tk (E' : Value → Shared → Prop), oK.data = .cell (some (.int 0 t)) → Fr h₀ L h m → News h₀ L h ((I, oI) :: (C, oC) :: (K, oK) :: (D, LCg.lst []) :: news) → LCg.Off3 I C D news → LCg.Off1 K news → ((@Ne Nat I C) ∧ (@Ne Nat I K) ∧ (@Ne Nat I D) ∧ (@Ne Nat C K) ∧ (@Ne Nat C D) ∧ (@Ne Nat K D)) →
      wpAny (model prog w) A (eval elt (compEnvC scope ((x, K) :: cl) C env)) (CellOne h₀ L m { s with heap := h, toks := tk } ((I, oI) :: (C, oC) :: (K, oK) :: (D, LCg.lst []) :: news) Z0) E' { s with heap := h, toks := tk })
    (t1 : ∀ q oq t I oI C oC K oK D h tk (E' : Value → Shared → Prop), Z0 oq → oK.data = .cell (some (.int 1 t)) → Fr h₀ L h m → News h₀ L h ((I, oI) :: (C, oC) :: (K, oK) :: (D, LCg.lst [.ref q]) :: (q, oq) :: news) → LCg.Off3 I C D ((q, oq) :: news) → LCg.Off1 K ((q, oq) :: news) → LCg.Off1 q news → ((@Ne Nat I C) ∧ (@Ne Nat I K) ∧ (@Ne Nat I D) ∧ (@Ne Nat C K) ∧ (@Ne Nat C D) ∧ (@Ne Nat K D)) →
      wpAny (model prog w) A (eval elt (compEnvC scope ((x, K) :: cl) C env)) (CellOne h₀ L m { s with heap := h, toks := tk } ((I, oI) :: (C, oC) :: (K, oK) :: (D, LCg.lst [.ref q]) :: (q, oq) :: news) Z1) E' { s with heap := h, toks := tk })
    (fin : ∀ q oq r or D h tk, Z0 oq → Z1 or → Fr h₀ L h m → News h₀ L h ((D, LCg.lst [.ref q, .ref r]) :: (r, or) :: (q, oq) :: news) → LCg.Off1 D ((r, or) :: (q, oq) :: news) → LCg.Off1 r ((q, oq) :: news) → LCg.Off1 q news → Q (.ref D) { s with heap := h, toks := tk }) :
    CellRest prog w A h₀ L m env elt x scope cl s (fun i v => ∃ t, v = .int (0 + (i : Int)) t) (LCg.FinE h₀ L m s Q) 2 0 [] news := by
  intro v I oI C oC K oK D h tk E' hv hK F N o3 o1 ne
  obtain ⟨t, rfl⟩ := hv
  refine wpAny_mono (t0 t I oI C oC K oK D h tk E' hK F N o3 o1 ne) (fun y s₂ hy => ?_) fun _ _ e => e
  obtain ⟨q, oq, h', tk', rfl, rfl, F', N', oq1, z0⟩ := hy
  have oqn : LCg.Off1 q news := off1_sub oq1 fun p hp => .tail _ (.tail _ (.tail _ (.tail _ hp)))
  have m1 := off1_mem oq1
  refine cell_end1 F' N' ⟨⟨(m1 _ (.head _)).symm, (m1 _ (.tail _ (.head _))).symm, (m1 _ (.tail _ (.tail _ (.tail _ (.head _))))).symm⟩, o3⟩ ⟨(m1 _ (.tail _ (.tail _ (.head _)))).symm, o1⟩ ?_
  intro v I oI C oC K oK D h tk E' hv hK F N o3 o1 ne
  obtain ⟨t, rfl⟩ := hv
  refine wpAny_mono (t1 q oq t I oI C oC K oK D h tk E' z0 hK F N o3 o1 oqn ne) (fun y s₂ hy => ?_) fun _ _ e => e
  obtain ⟨r, or, h', tk', rfl, rfl, F', N', or1, z1⟩ := hy
  have m1 := off1_mem or1
  refine cell_end1 F' N' ⟨⟨(m1 _ (.head _)).symm, (m1 _ (.tail _ (.head _))).symm, (m1 _ (.tail _ (.tail _ (.tail _ (.head _))))).symm⟩, o3⟩ ⟨(m1 _ (.tail _ (.tail _ (.head _)))).symm, o1⟩ ?_
  intro D h tk F N oD
  exact fin q oq r or D h tk z0 z1 F N oD (off1_sub or1 fun p hp => .tail _ (.tail _ (.tail _ (.tail _ hp)))) oqn
noncomputable def IntOne (h₀ : Heap) (L : Addr) (m : Str → Option Value) (s₁ : Shared) (led : Led) (a : Int) (y : Value) (s₂ : Shared) : Prop :=
  ∃ t h' tk, y = .int a t ∧ s₂ = { s₁ with heap := h', toks := tk } ∧ Fr h₀ L h' m ∧ News h₀ L h' led
theorem int_one {s₁ : Shared} {led : Led} {a : Int} {t : Tok} {h' : Heap} {tk : Nat} (F : Fr h₀ L h' m) (N : News h₀ L h' led) : IntOne h₀ L m s₁ led a (.int a t) { s₁ with heap := h', toks := tk } := ⟨t, h', tk, rfl, rfl, F, N⟩
theorem plain_rest2 {elt : Expr} {x : Str} {scope : Scope} {cl : List (Str × Addr)} {Q : Value → Shared → Prop} {news : Led} {a0 a1 : Int}
    (t0 : ∀ t I oI C oC D m₂ h tk (E' : Value → Shared → Prop), LCg.NsObj oC m₂ → m₂ x = some (.int 0 t) → Fr h₀ L h m → News h₀ L h ((I, oI) :: (C, oC) :: (D, LCg.lst []) :: news) →
      wpAny (model prog w) A (eval elt (compEnvC scope cl C env)) (IntOne h₀ L m { s with heap := h, toks := tk } ((I, oI) :: (C, oC) :: (D, LCg.lst []) :: news) a0) E' { s with heap := h, toks := tk })
    (t1 : ∀ u t I oI C oC D m₂ h tk (E' : Value → Shared → Prop), LCg.NsObj oC m₂ → m₂ x = some (.int 1 t) → Fr h₀ L h m → News h₀ L h ((I, oI) :: (C, oC) :: (D, LCg.lst [.int a0 u]) :: news) →
      wpAny (model prog w) A (eval elt (compEnvC scope cl C env)) (IntOne h₀ L m { s with heap := h, toks := tk } ((I, oI) :: (C, oC) :: (D, LCg.lst [.int a0 u]) :: news) a1) E' { s with heap := h, toks := tk })
    (fin : ∀ u t D h tk, Fr h₀ L h m → News h₀ L h ((D, LCg.lst [.int a0 u, .int a1 t]) :: news) → LCg.Off1 D news → Q (.ref D) { s with heap := h, toks := tk }) :
    LCg.CompRest prog w A h₀ L m env elt x scope cl s (fun _ => True) (fun i v => ∃ t, v = .int (0 + (i : Int)) t) (LCg.FinE h₀ L m s Q) 2 0 [] news := by
  intro v I oI C oC D m₂ h tk E' hv hC hx F N o3 ne
  obtain ⟨t, rfl⟩ := hv
  refine wpAny_mono (t0 t I oI C oC D m₂ h tk E' hC hx F N) (fun y s₂ hy => ?_) fun _ _ e => e
  obtain ⟨u, h', tk', rfl, rfl, F', N'⟩ := hy
  refine LCg.CompEnd.intro F' N' news (fun p hp => hp) o3 trivial ?_
  intro v I oI C oC D m₂ h tk E' hv hC hx F N o3 ne
  obtain ⟨t, rfl⟩ := hv
  refine wpAny_mono (t1 u t I oI C oC D m₂ h tk E' hC hx F N) (fun y s₂ hy => ?_) fun _ _ e => e
  obtain ⟨u', h', tk', rfl, rfl, F', N'⟩ := hy
  refine LCg.CompEnd.intro F' N' news (fun p hp => hp) o3 trivial ?_
  intro D h tk F N oD
  exact fin u u' D h tk F N oD
noncomputable def AddOne (h₀ : Heap) (L : Addr) (m : Str → Option Value) (s₁ : Shared) (led : Led) (Z : Value → Led → Prop) (y : Value) (s₂ : Shared) : Prop :=
  ∃ add h' tk, s₂ = { s₁ with heap := h', toks := tk } ∧ Fr h₀ L h' m ∧ News h₀ L h' (add ++ led) ∧ (∀ p ∈ add, ∀ q ∈ led, p.1 ≠ q.1) ∧ Z y add
theorem add_one {s₁ : Shared} {led all : Led} {Z : Value → Led → Prop} {y : Value} {h' : Heap} {tk : Nat} (add : Led) (F : Fr h₀ L h' m) (N : News h₀ L h' all) (hs : ∀ p ∈ add ++ led, p ∈ all) (ap : ∀ p ∈ add, ∀ q ∈ led, p.1 ≠ q.1) (z : Z y add) : AddOne h₀ L m s₁ led Z y { s₁ with heap := h', toks := tk } :=
  ⟨add, h', tk, rfl, F, fun p hp => N p (hs p hp), ap, z⟩
theorem add_one1g {s₁ : Shared} {led : Led} {Z : Value → Led → Prop} {D : Addr} {o : Obj} {g : Addr × Obj} {h' : Heap} {tk : Nat} (F : Fr h₀ L h' m) (N : News h₀ L h' ((D, o) :: g :: led)) (off : LCg.Off1 D (g :: led)) (z : Z (.ref D) [(D, o)]) : AddOne h₀ L m s₁ led Z (.ref D) { s₁ with heap := h', toks := tk } :=
  add_one _ F N (fun p hp => by
    rcases List.mem_append.mp hp with hp | hp
    · rw [List.mem_singleton.mp hp]; exact .head _
    · exact .tail _ (.tail _ hp)) (apart1 off.2) z
theorem add_one1 {s₁ : Shared} {led : Led} {Z : Value → Led → Prop} {D : Addr} {o : Obj} {h' : Heap} {tk : Nat} (F : Fr h₀ L h' m) (N : News h₀ L h' ((D, o) :: led)) (off : LCg.Off1 D led) (z : Z (.ref D) [(D, o)]) : AddOne h₀ L m s₁ led Z (.ref D) { s₁ with heap := h', toks := tk } :=
  add_one _ F N (fun p hp => hp) (apart1 off) z
theorem off3_app {I C D : Addr} {oI oC oD : Obj} {add news : Led} (ap : ∀ p ∈ add, ∀ q ∈ (I, oI) :: (C, oC) :: (D, oD) :: news, p.1 ≠ q.1) (o3 : LCg.Off3 I C D news) : LCg.Off3 I C D (add ++ news) :=
  LCg.Off3.of fun p hp => by
    rcases List.mem_append.mp hp with hp | hp
    · exact ⟨ap p hp _ (.head _), ap p hp _ (.tail _ (.head _)), ap p hp _ (.tail _ (.tail _ (.head _)))⟩
    · exact o3.mem p hp
theorem apart_two {D : Addr} {o : Obj} {add0 add1 news : Led} (oD : LCg.Off1 D (add1 ++ (add0 ++ news))) (a1 : ∀ p ∈ add1, ∀ q ∈ add0 ++ news, p.1 ≠ q.1) (a0 : ∀ p ∈ add0, ∀ q ∈ news, p.1 ≠ q.1) : ∀ p ∈ (D, o) :: (add1 ++ add0), ∀ q ∈ news, p.1 ≠ q.1 := by
  intro p hp q hq
  rcases List.mem_cons.mp hp with rfl | hp
  · exact (off1_mem oD q (List.mem_append.mpr (.inr (List.mem_append.mpr (.inr hq))))).symm
  · rcases List.mem_append.mp hp with hp | hp
    · exact a1 p hp q (List.mem_append.mpr (.inr hq))
    · exact a0 p hp q hq
theorem sub_two {p0 : Addr × Obj} {add0 add1 news : Led} : ∀ p ∈ (p0 :: (add1 ++ add0)) ++ news, p ∈ p0 :: (add1 ++ (add0 ++ news)) := fun p hp => by simpa [List.append_assoc] using hp
theorem sub_twoG {p0 : Addr × Obj} {add0 add1 led news : Led} (hn : ∀ q ∈ led, q ∈ news) : ∀ p ∈ (p0 :: (add1 ++ add0)) ++ led, p ∈ p0 :: (add1 ++ (add0 ++ news)) := fun p hp => by
  simp only [List.cons_append, List.mem_cons, List.mem_append] at hp ⊢
  rcases hp with h | (h | h) | h
  · exact .inl h
  · exact .inr (.inl h)
  · exact .inr (.inr (.inl h))
  · exact .inr (.inr (.inr (hn p h)))
theorem add_two {s₁ : Shared} {led add0 add1 : Led} {Z : Value → Led → Prop} {D : Addr} {o : Obj} {h' : Heap} {tk : Nat} (F : Fr h₀ L h' m) (N : News h₀ L h' ((D, o) :: (add1 ++ (add0 ++ led)))) (oD : LCg.Off1 D (add1 ++ (add0 ++ led))) (a1 : ∀ p ∈ add1, ∀ q ∈ add0 ++ led, p.1 ≠ q.1) (a0 : ∀ p ∈ add0, ∀ q ∈ led, p.1 ≠ q.1)
    (z : Z (.ref D) ((D, o) :: (add1 ++ add0))) : AddOne h₀ L m s₁ led Z (.ref D) { s₁ with heap := h', toks := tk } := add_one _ F N sub_two (apart_two oD a1 a0) z
theorem rest_two {elt : Expr} {x : Str} {scope : Scope} {cl : List (Str × Addr)} {S : Led → Prop} {P : Nat → Value → Prop} {Fin : List Value → Led → Prop} {news : Led} {V0 V1 : Value → Prop} {Z0 Z1 : Value → Led → Prop}
    (hS : S news) (hSm : ∀ add l, S l → S (add ++ l)) (hP0 : ∀ v, P 0 v → V0 v) (hP1 : ∀ v, P 1 v → V1 v)
    (t0 : ∀ v I oI C oC D m₂ h tk (E' : Value → Shared → Prop), V0 v → LCg.NsObj oC m₂ → m₂ x = some v → Fr h₀ L h m → News h₀ L h ((I, oI) :: (C, oC) :: (D, LCg.lst []) :: news) → LCg.Off3 I C D news → ((@Ne Nat I C) ∧ (@Ne Nat I D) ∧ (@Ne Nat C D)) →
      wpAny (model prog w) A (eval elt (compEnvC scope cl C env)) (AddOne h₀ L m { s with heap := h, toks := tk } ((I, oI) :: (C, oC) :: (D, LCg.lst []) :: news) Z0) E' { s with heap := h, toks := tk })
    (t1 : ∀ y add v I oI C oC D m₂ h tk (E' : Value → Shared → Prop), Z0 y add → (∀ p ∈ add, ∀ q ∈ news, p.1 ≠ q.1) → V1 v → LCg.NsObj oC m₂ → m₂ x = some v → Fr h₀ L h m → News h₀ L h ((I, oI) :: (C, oC) :: (D, LCg.lst [y]) :: (add ++ news)) → LCg.Off3 I C D (add ++ news) → ((@Ne Nat I C) ∧ (@Ne Nat I D) ∧ (@Ne Nat C D)) →
      wpAny (model prog w) A (eval elt (compEnvC scope cl C env)) (AddOne h₀ L m { s with heap := h, toks := tk } ((I, oI) :: (C, oC) :: (D, LCg.lst [y]) :: (add ++ news)) Z1) E' { s with heap := h, toks := tk })
    (fin : ∀ y0 add0 y1 add1, Z0 y0 add0 → Z1 y1 add1 → (∀ p ∈ add0, ∀ q ∈ news, p.1 ≠ q.1) → (∀ p ∈ add1, ∀ q ∈ add0 ++ news, p.1 ≠ q.1) → Fin [y0, y1] (add1 ++ (add0 ++ news))) :
    LCg.CompRest prog w A h₀ L m env elt x scope cl s S P Fin 2 0 [] news := by
  intro v I oI C oC D m₂ h tk E' hv hC hx F N o3 ne
  refine wpAny_mono (t0 v I oI C oC D m₂ h tk E' (hP0 v hv) hC hx F N o3 ne) (fun y s₂ hy => ?_) fun _ _ e => e
  obtain ⟨add0, h', tk', rfl, F', N', ap0, z0⟩ := hy
  have ap0' : ∀ p ∈ add0, ∀ q ∈ news, p.1 ≠ q.1 := fun p hp q hq => ap0 p hp q (.tail _ (.tail _ (.tail _ hq)))
  refine LCg.CompEnd.intro F' N' (add0 ++ news) (fun p hp => ?_) (off3_app ap0 o3) (hSm _ _ hS) ?_
  · simp only [List.mem_cons, List.mem_append] at hp ⊢
    rcases hp with h | h | h | h | h <;> simp [h]
  intro v I oI C oC D m₂ h tk E' hv hC hx F N o3 ne
  refine wpAny_mono (t1 y add0 v I oI C oC D m₂ h tk E' z0 ap0' (hP1 v hv) hC hx F N o3 ne) (fun y' s₂ hy => ?_) fun _ _ e => e
  obtain ⟨add1, h', tk', rfl, F', N', ap1, z1⟩ := hy
  refine LCg.CompEnd.intro F' N' (add1 ++ (add0 ++ news)) (fun p hp => ?_) (off3_app ap1 o3) (hSm _ _ (hSm _ _ hS)) ?_
  · simp only [List.mem_cons, List.mem_append] at hp ⊢
    rcases hp with h | h | h | h | h | h <;> simp [h]
  exact fin y add0 y' add1 z0 z1 ap0' fun p hp q hq => ap1 p hp q (.tail _ (.tail _ (.tail _ hq)))
theorem srcAt_mono {ax : Addr} {its : Array Value} (add l : Led) (h : LCg.SrcAt h₀ ax its l) : LCg.SrcAt h₀ ax its (add ++ l) := by
  rcases h with h | ⟨o, hm, r⟩
  · exact .inl h
  · exact .inr ⟨o, List.mem_append.mpr (.inr hm), r⟩
theorem wpAny_newEnv_cell {M : Model} {scope : Scope} {globals : Addr} {cl : List (Str × Addr)} {qual : Str} {x : Str} {Q : Env → Shared → Prop}
    (hcl : ∀ n, cellsFrom n scope.names cl = (x, n) :: cl) (hpush : ∀ h, pushCells h scope.names = h.push cellNone)
    (hQ : Q { scope := scope, locals := s.heap.objs.size, globals := globals, cells := (x, s.heap.objs.size + 1) :: cl, qual := qual, func := none, code := env.code, frame := env.frame, builtins := env.builtins } { s with heap := (s.heap.push dict0).push cellNone }) :
    wpAny M A (newFunctionEnv scope globals cl [] qual none .none (some env)) Q E s := by
  simp only [newFunctionEnv, Option.isSome_some, if_true]
  refine wpAny_bind (wpAny_alloc ?_)
  refine wpAny_bind (wpAny_layCells _ (fun name kind cells => by cases hkc : kind == NameKind.cell <;> simp [hkc]) _ _ _ _ ?_)
  rw [hcl, hpush]
  refine wpAny_bind ?_
  rw [List.forIn_nil]
  refine wpAny_pure (wpAny_pure ?_)
  rw [show ({ s with heap := s.heap.push dict0 } : Shared).heap.objs.size = s.heap.objs.size + 1 from Heap.size_push ..]
  exact hQ
theorem comp_cell {elt iter : Expr} {x : Str} {px : Pos} {scope : Scope} {cl : List (Str × Addr)} {pos : Pos} {Q : Value → Shared → Prop} (F₀ : Fr h₀ L s.heap m)
    (hclos : closureFor scope env = pure cl) (hcl : ∀ n, cellsFrom n scope.names cl = (x, n) :: cl) (hpush : ∀ h, pushCells h scope.names = h.push cellNone) (hkind : scope.kind = .function)
    (hnames : ∀ y ∈ scope.names, y.2 = .local → scope.names.lookup y.1 = some .local) (hx : (relabel scope env).names.lookup x = some .cell)
    (h : wpAny (model prog w) A (eval iter env) (CellSrc prog w A h₀ L m env elt x scope cl Q) E s)
    (hs : ∀ x, foldedSetIterable iter env x = pure x := by intro _; rfl) :
    wpAny (model prog w) A (eval (.ListComp elt [⟨.Name x px, iter, [], 0⟩] scope pos) env) Q E s := by
  rw [eval_ListComp]
  refine wpAny_comprehension_free (use := none) rfl hs hclos hkind hnames (wpAny_mono h (fun xv s₁ h₁ => ?_) fun _ _ e => e)
  obtain ⟨r, a, b, t, u, v, n, news, rfl, hh, F, N, hr, hsm, hn, hsz, R⟩ := h₁
  refine wpAny_pyIter_range hr hsm ?_
  generalize hS2 : ({ s₁ with heap := s₁.heap.push _ } : Shared) = s₂
  have R := R s₂ (by rw [← hS2]; exact ⟨_, rfl⟩)
  have hit : IsRangeIter s₂.heap s₁.heap.objs.size a n 1 := by rw [← hS2, ← hn]; exact Heap.get?_push_size _ rfl
  have F2 : Fr h₀ L s₂.heap m := by rw [← hS2]; exact F.push _
  have N2 : News h₀ L s₂.heap news := by rw [← hS2]; exact N.grown fun _ _ e => Heap.get?_push_of_some _ e
  have hz : s₂.heap.objs.size = s₁.heap.objs.size + 1 := by rw [← hS2]; exact Heap.size_push ..
  have offI : ∀ p ∈ news, p.1 ≠ s₁.heap.objs.size := fun p hp => Nat.ne_of_lt (Heap.lt_size (N p hp).1)
  have hLI : L ≠ s₁.heap.objs.size := Nat.ne_of_lt F.ns.lt
  have hI₀ : h₀.get? s₁.heap.objs.size = none := next_is_new F
  clear hS2
  generalize s₁.heap.objs.size = I at *
  refine wpAny_newObj_type (wpAny_newEnv_cell hcl hpush ?_)
  dsimp only
  have hC0 : (s₂.heap.push { cls := .type "list", dict := none, data := .seq ([] : List Value).toArray }).objs.size = s₂.heap.objs.size + 1 := Heap.size_push ..
  rw [hC0]
  generalize hH : (((s₂.heap.push { cls := .type "list", dict := none, data := .seq ([] : List Value).toArray }).push dict0).push cellNone) = h₁
  have old : ∀ b o, s₂.heap.get? b = some o → h₁.get? b = some o := fun b o e => by
    rw [← hH]
    exact Heap.get?_push_of_some _ (Heap.get?_push_of_some _ (Heap.get?_push_of_some _ e))
  generalize hDd : s₂.heap.objs.size = D at *
  have zD : h₁.get? D = some (LCg.lst []) := by
    rw [← hH, ← hDd]
    exact Heap.get?_push_of_some _ (Heap.get?_push_of_some _ (Heap.get?_push_size _ rfl))
  have zC : h₁.get? (D + 1) = some dict0 := by
    rw [← hH, ← hC0]
    exact Heap.get?_push_of_some _ (Heap.get?_push_size _ rfl)
  have zK : h₁.get? (D + 1 + 1) = some cellNone := by
    rw [← hH]
    have : ((s₂.heap.push { cls := .type "list", dict := none, data := .seq ([] : List Value).toArray }).push dict0).objs.size = D + 1 + 1 := by rw [Heap.size_push, hC0]
    rw [← this]
    exact Heap.get?_push_size _ rfl
  have fresh₀ : ∀ c, D ≤ c → h₀.get? c = none := fun c hc => by
    cases e : h₀.get? c with
    | none => rfl
    | some o' =>
      have := Heap.lt_size (F2.keep c o' e)
      rw [hDd] at this
      exact absurd this (Nat.not_lt.mpr hc)
  have hLD : L < D := hDd ▸ F2.ns.lt
  have hID : I < D := by rw [hz]; exact Nat.lt_succ_self _
  have nD : ∀ p ∈ news, p.1 < D := fun p hp => hDd ▸ Heap.lt_size (N2 p hp).1
  clear hH
  have hC₀ : h₀.get? (D + 1) = none := fresh₀ _ (Nat.le_succ _)
  have hK₀ : h₀.get? (D + 1 + 1) = none := fresh₀ _ (Nat.le_succ_of_le (Nat.le_succ _))
  have hD₀ : h₀.get? D = none := fresh₀ _ (Nat.le_refl _)
  have loop : ∀ s₃ : Shared, (∃ tk, s₃ = { s₂ with heap := h₁, toks := tk }) → codeAny (model prog w) A (.compLoop (.ListComp elt [⟨.Name x px, iter, [], 0⟩] scope pos) 0 (.ref I) (.ref D) (compEnvC scope ((x, D + 1 + 1) :: cl) (D + 1) env))
      (compPost (model prog w) A E none Q (.ref D) (D + 1)) s₃ := by
    rintro s₃ ⟨tk₃, rfl⟩
    refine codeAny_compLoop_tests
      (fun k s' => ∃ h' tk i ys news' cv, s' = { s₂ with heap := h', toks := tk } ∧ i ≤ n ∧ k = n + 1 - i ∧ ys.length = i ∧ IsRangeIter h' I (a + (i : Nat) * 1) ((n : Int) - (i : Nat)) 1 ∧ Fr h₀ L h' m ∧ h'.Ns (D + 1) (fun _ => none) ∧ h'.IsCell (D + 1 + 1) cv ∧
        News h₀ L h' ((D, LCg.lst ys) :: news') ∧ LCg.Off3 I (D + 1) D news' ∧ LCg.Off1 (D + 1 + 1) news' ∧ CellRest prog w A h₀ L m env elt x scope cl s₂ (fun i v => ∃ t, v = .int (a + (i : Int)) t) (LCg.FinE h₀ L m s₂ Q) (n - i) i ys news') ?_ (n + 1)
      ⟨h₁, _, 0, [], news, none, rfl, Nat.zero_le _, rfl, rfl, ?_, F2.keeps old, ?_, ⟨_, zK, rfl⟩, ?_, ?_, ?_, R⟩
    · have W : Walks prog w A I [I] [I] n (fun i v => i < n ∧ ∃ t, v = .int (a + i * 1) t) (fun i h => IsRangeIter h I (a + (i : Nat) * 1) ((n : Int) - (i : Nat)) 1) := (Walks.range hh I a 1 n).bound
      rintro k s' ⟨h', tk, i, ys, news', cv, rfl, hi, rfl, hyl, hst', F', hn', hcv, N', off', offK, R'⟩
      have hL2 : L ≠ D + 1 + 1 := Nat.ne_of_lt (Nat.lt_succ_of_lt (Nat.lt_succ_of_lt hLD))
      have ID : I ≠ D := Nat.ne_of_lt hID
      have IC : I ≠ D + 1 := Nat.ne_of_lt (Nat.lt_succ_of_lt hID)
      have IK : I ≠ D + 1 + 1 := Nat.ne_of_lt (Nat.lt_succ_of_lt (Nat.lt_succ_of_lt hID))
      have off3 := off'.mem
      have offk := off1_mem offK
      by_cases hlt : i < n
      · obtain ⟨j, hj⟩ : ∃ j, n - i = j + 1 := ⟨n - i - 1, (Nat.sub_add_cancel (Nat.sub_pos_of_lt hlt)).symm⟩
        rw [hj] at R'
        refine W.item i _ _ _ hlt hst' fun v h₂ tk₂ hPv hst₂ hk₂ => ?_
        obtain ⟨o₂, ho₂, hod₂⟩ := hcv
        have ho₂' : h₂.get? (D + 1 + 1) = some o₂ := hk₂ _ _ (by simpa using Ne.symm IK) ho₂
        refine wpAny_assign_Name (wpAny_storeName_cell (c := D + 1 + 1) (v₀ := cv) hkind (by show (relabel scope env).names.lookup x = some .cell; exact hx) (by simp [compEnvC]) ⟨o₂, ho₂', hod₂⟩ fun h₃ hc₃ hs₃ => ?_)
        refine wpAny_tests_nil ?_
        simp only [if_true]
        obtain ⟨oK, heK, hoK⟩ := hc₃
        have hst₃ : IsRangeIter h₃ I (a + ((i + 1 : Nat) : Int) * 1) ((n : Int) - ((i + 1 : Nat) : Int)) 1 := W.frame _ _ _ hst₂ fun b hb o e => by
          have q : b = I := List.mem_singleton.mp hb
          exact hs₃.extBut b o (by rw [q]; exact IK) e
        obtain ⟨oI, heI⟩ : ∃ o, h₃.get? I = some o := ⟨_, hst₃⟩
        have hn₂ : h₂.Ns (D + 1) (fun _ => none) := hn'.at' fun o e => hk₂ _ o (by simpa using Ne.symm IC) e
        have hn₃ : h₃.Ns (D + 1) (fun _ => none) := hn₂.sameBut hs₃ (Nat.ne_of_lt (Nat.lt_succ_self _))
        obtain ⟨oC, heC, hoC⟩ := LCg.ns_obj hn₃
        have F₃ : Fr h₀ L h₃ m := (LCg.fr_but F' hk₂ hLI hI₀).change hs₃ (Ne.symm hL2) hK₀
        have N₂ : News h₀ L h₂ ((D, LCg.lst ys) :: news') := LCg.news_but N' hk₂ fun p hp => by
          rcases List.mem_cons.mp hp with rfl | hp
          · exact Ne.symm ID
          · exact (off3 p hp).1
        have N₃ : News h₀ L h₃ ((I, oI) :: (D + 1, oC) :: (D + 1 + 1, oK) :: (D, LCg.lst ys) :: news') := fun p hp => by
          rcases List.mem_cons.mp hp with rfl | hp
          · exact ⟨heI, Ne.symm hLI, hI₀⟩
          · rcases List.mem_cons.mp hp with rfl | hp
            · exact ⟨heC, Ne.symm (Nat.ne_of_lt (Nat.lt_succ_of_lt hLD)), hC₀⟩
            · rcases List.mem_cons.mp hp with rfl | hp
              · exact ⟨heK, Ne.symm hL2, hK₀⟩
              · have z := N₂ p hp
                refine ⟨hs₃.extBut _ _ ?_ z.1, z.2⟩
                rcases List.mem_cons.mp hp with rfl | hp
                · exact Nat.ne_of_lt (Nat.lt_succ_of_lt (Nat.lt_succ_self _))
                · exact offk p hp
        refine wpAny_mono (R' v I oI (D + 1) oC (D + 1 + 1) oK D h₃ _ _ (by obtain ⟨_, t, e⟩ := hPv; exact ⟨t, by rw [e, Int.mul_one]⟩) hoK F₃ N₃ off' offK ⟨IC, IK, ID, Nat.ne_of_lt (Nat.lt_succ_self _), Ne.symm (Nat.ne_of_lt (Nat.lt_succ_self _)), Ne.symm (Nat.ne_of_lt (Nat.lt_succ_of_lt (Nat.lt_succ_self _)))⟩) (fun y s₄ h₄ => ?_) fun _ _ e => e
        obtain ⟨h₄, tk₄, news₄, rfl, F₄, N₄, off₄, offK₄, R₄⟩ := h₄
        have zI := (N₄ (I, oI) (.head _)).1
        have zC₄ := (N₄ (D + 1, oC) (.tail _ (.head _))).1
        have zK₄ := (N₄ (D + 1 + 1, oK) (.tail _ (.tail _ (.head _)))).1
        have zD₄ := (N₄ (D, LCg.lst ys) (.tail _ (.tail _ (.tail _ (.head _))))).1
        have N₄' : News h₀ L h₄ news₄ := fun p hp => N₄ p (.tail _ (.tail _ (.tail _ (.tail _ hp))))
        have hst₄ : IsRangeIter h₄ I (a + ((i + 1 : Nat) : Int) * 1) ((n : Int) - ((i + 1 : Nat) : Int)) 1 := by
          have e : h₃.get? I = some _ := hst₃
          rw [heI] at e
          show h₄.get? I = some _
          rw [zI]; exact e
        refine append_at (hsz := by show ys.toArray.size ≤ sizeLine; rw [List.size_toArray, hyl]; exact Nat.le_trans hi hsz) zD₄ fun h₅ hs₅ hD₅ => ?_
        have off4 := off₄.mem
        refine ⟨n + 1 - (i + 1), Nat.sub_lt_sub_left (Nat.lt_succ_of_lt hlt) (Nat.lt_succ_self i), h₅, tk₄, i + 1, ys ++ [y], news₄, _, rfl, hlt, rfl, by rw [List.length_append, List.length_singleton, hyl], W.frame _ _ _ hst₄ fun b hb o e => hs₅.extBut b o (by rw [List.mem_singleton.mp hb]; exact ID) e,
          F₄.change hs₅ (Ne.symm (Nat.ne_of_lt hLD)) hD₀, (hoC.ns zC₄).sameBut hs₅ (Ne.symm (Nat.ne_of_lt (Nat.lt_succ_self _))), ⟨oK, hs₅.extBut _ _ (Ne.symm (Nat.ne_of_lt (Nat.lt_succ_of_lt (Nat.lt_succ_self _)))) zK₄, hoK⟩, fun p hp => ?_, off₄, offK₄, ?_⟩
        · rcases List.mem_cons.mp hp with rfl | hp
          · exact ⟨hD₅.trans (congrArg some (LCg.lst_snoc ys y)), Ne.symm (Nat.ne_of_lt hLD), hD₀⟩
          · exact ⟨hs₅.extBut _ _ (off4 p hp).2.2 (N₄' p hp).1, (N₄' p hp).2⟩
        · rw [show n - (i + 1) = j from congrArg Nat.pred hj]
          exact R₄
      · obtain rfl : i = n := Nat.le_antisymm hi (Nat.not_lt.mp hlt)
        rw [Nat.sub_self] at R'
        refine W.done _ _ _ hst' fun h₂ tk₂ hk₂ => ?_
        have hn₂ : h₂.Ns (D + 1) (fun _ => none) := hn'.at' fun o e => hk₂ _ o (by simpa using Ne.symm IC) e
        have F₂ : Fr h₀ L h₂ m := LCg.fr_but F' hk₂ hLI hI₀
        have N₂ : News h₀ L h₂ ((D, LCg.lst ys) :: news') := LCg.news_but N' hk₂ fun p hp => by
          rcases List.mem_cons.mp hp with rfl | hp
          · exact Ne.symm ID
          · exact (off3 p hp).1
        refine ⟨_, hn₂, fun h'' hs'' => R' D h'' tk₂ (F₂.change hs'' (Ne.symm (Nat.ne_of_lt (Nat.lt_succ_of_lt hLD))) hC₀) (fun p hp => ?_) off'.one⟩
        refine ⟨hs''.extBut _ _ ?_ (N₂ p hp).1, (N₂ p hp).2⟩
        rcases List.mem_cons.mp hp with rfl | hp
        · exact Nat.ne_of_lt (Nat.lt_succ_self _)
        · exact (off3 p hp).2.1
    · have e : h₁.get? I = some _ := old I _ hit
      show h₁.get? I = some _
      simpa using e
    · obtain ⟨o, es, ep, e, hd, r⟩ : h₁.Ns (D + 1) (fun _ => none) := ⟨dict0, #[], _, zC, rfl, (by intro x hx; simp at hx), fun _ => rfl⟩
      exact ⟨o, es, ep, e, hd, r⟩
    · intro p hp
      rcases List.mem_cons.mp hp with rfl | hp
      · exact ⟨zD, Ne.symm (Nat.ne_of_lt hLD), hD₀⟩
      · exact ⟨old _ _ (N2 p hp).1, (N2 p hp).2⟩
    · exact LCg.Off3.of fun p hp => ⟨offI p hp, Nat.ne_of_lt (Nat.lt_succ_of_lt (nD p hp)), Nat.ne_of_lt (nD p hp)⟩
    · exact off1_all fun p hp => Nat.ne_of_lt (Nat.lt_succ_of_lt (Nat.lt_succ_of_lt (nD p hp)))
  have W : Walks prog w A I [I] [I] n (fun i v => i < n ∧ ∃ t, v = .int (a + i * 1) t) (fun i h => IsRangeIter h I (a + (i : Nat) * 1) ((n : Int) - (i : Nat)) 1) := (Walks.range hh I a 1 n).bound
  have hitI : IsRangeIter h₁ I (a + ((0 : Nat) : Int) * 1) ((n : Int) - ((0 : Nat) : Int)) 1 := by
    have e : h₁.get? I = some _ := old I _ hit
    show h₁.get? I = some _
    simpa using e
  exact codeAny_compStart_list (loop _ ⟨_, rfl⟩) (W.self 0 _ _ _ hitI (loop _ ⟨_, rfl⟩))
end
end
-- C1
section
open PySem PySem.W PyProof.Rows PySem.Calls PySem.Spec
set_option linter.unusedVariables false
set_option maxRecDepth 100000
section
variable {prog : Program} {w : World} {A : Around} {E : Value → Shared → Prop} {s : Shared} {h₀ : Heap} {L : Addr} {m : Str → Option Value} {env : Env}
noncomputable def EltZ (prog : Program) (w : World) (A : Around) (h₀ : Heap) (L : Addr) (m : Str → Option Value) (env : Env) (elt : Expr) (a b : Str) (scope : Scope) (cl : List (Str × Addr)) (s : Shared) (x y : Value) (news : Led) (Z : Value → Led → Prop) : Prop :=
  ∀ own C oC m₂ h tk (E' : Value → Shared → Prop), LCg.NsObj oC m₂ → m₂ a = some x → m₂ b = some y → Fr h₀ L h m → News h₀ L h ((C, oC) :: (news ++ own)) →
    wpAny (model prog w) A (eval elt (compEnvC scope cl C env)) (AddOne h₀ L m { s with heap := h, toks := tk } ((C, oC) :: (news ++ own)) Z) E' { s with heap := h, toks := tk }
noncomputable def ZipSrc (prog : Program) (w : World) (A : Around) (h₀ : Heap) (L : Addr) (m : Str → Option Value) (env : Env) (elt : Expr) (a b : Str) (scope : Scope) (cl : List (Str × Addr)) (Q : Value → Shared → Prop) (xv : Value) (s₁ : Shared) : Prop :=
  ∃ z TI TO i1 i2 l1 l2 x0 x1 y0 y1 news Z0 Z1, xv = .ref z ∧ A.handled = none ∧ Fr h₀ L s₁.heap m ∧ News h₀ L s₁.heap news ∧ ZipApart z TI TO i1 i2 l1 l2 ∧
    (IsZip s₁.heap z TI TO .none ∧ IsPair s₁.heap TI (.ref i1) (.ref i2) ∧ (∃ a b, IsPair s₁.heap TO a b) ∧ s₁.heap.IsListIter i1 l1 0 ∧ s₁.heap.IsListIter i2 l2 0) ∧
    (∃ o n, (l1, o) ∈ news ∧ o.cls = .type "list" ∧ o.data = .seq #[x0, x1] n) ∧ (∃ o n, (l2, o) ∈ news ∧ o.cls = .type "list" ∧ o.data = .seq #[y0, y1] n) ∧
    (∀ c ∈ [z, TI, TO, i1, i2], h₀.get? c = none ∧ c ≠ L ∧ ∀ p ∈ news, p.1 ≠ c) ∧
    EltZ prog w A h₀ L m env elt a b scope cl s₁ x0 y0 news Z0 ∧
    (∀ v0 add0, Z0 v0 add0 → (∀ p ∈ add0, ∀ q ∈ news, p.1 ≠ q.1) → EltZ prog w A h₀ L m env elt a b scope cl s₁ x1 y1 (add0 ++ news) Z1) ∧
    (∀ v0 add0 v1 add1, Z0 v0 add0 → Z1 v1 add1 → (∀ p ∈ add0, ∀ q ∈ news, p.1 ≠ q.1) → (∀ p ∈ add1, ∀ q ∈ add0 ++ news, p.1 ≠ q.1) → LCg.FinE h₀ L m s₁ Q [v0, v1] (add1 ++ (add0 ++ news)))
theorem all5 {α : Type} {P : α → Prop} {a b c d e : α} (h1 : P a) (h2 : P b) (h3 : P c) (h4 : P d) (h5 : P e) : ∀ x ∈ [a, b, c, d, e], P x := by
  intro x hx
  simp only [List.mem_cons, List.not_mem_nil, or_false] at hx
  rcases hx with rfl | rfl | rfl | rfl | rfl <;> assumption
theorem all6 {α : Type} {P : α → Prop} {a b c d e f : α} (h1 : P a) (h2 : P b) (h3 : P c) (h4 : P d) (h5 : P e) (h6 : P f) : ∀ x ∈ [a, b, c, d, e, f], P x := by
  intro x hx
  simp only [List.mem_cons, List.not_mem_nil, or_false] at hx
  rcases hx with rfl | rfl | rfl | rfl | rfl | rfl <;> assumption
theorem all7 {α : Type} {P : α → Prop} {a b c d e f g : α} (h1 : P a) (h2 : P b) (h3 : P c) (h4 : P d) (h5 : P e) (h6 : P f) (h7 : P g) : ∀ x ∈ [a, b, c, d, e, f, g], P x := by
  intro x hx
  simp only [List.mem_cons, List.not_mem_nil, or_false] at hx
  rcases hx with rfl | rfl | rfl | rfl | rfl | rfl | rfl <;> assumption
theorem not45 {z t u i j c : Nat} (h : c ∉ [z, t, u, i, j]) : c ∉ [z, u, i, j] := by
  simp only [List.mem_cons, List.not_mem_nil, or_false] at h ⊢
  omega
theorem not_of_lt {l : List Nat} {d c : Nat} (h : ∀ x ∈ l, x < d) (hc : d ≤ c) : c ∉ l := fun m => Nat.not_lt.mpr hc (h c m)
theorem sub57 {α : Type} {a b c d e f g x : α} (h : x ∈ [a, b, c, d, e]) : x ∈ [a, b, c, d, e, f, g] := by
  simp only [List.mem_cons, List.not_mem_nil, or_false] at h ⊢
  rcases h with h | h | h | h | h <;> simp [h]
theorem mem_r {α : Type} {x a : α} {b l : List α} (h : x ∈ l) : x ∈ a :: (b ++ l) := .tail _ (List.mem_append.mpr (.inr h))
theorem mem_l {α : Type} {x a : α} {b l : List α} (h : x ∈ b) : x ∈ a :: (b ++ l) := .tail _ (List.mem_append.mpr (.inl h))
theorem get_eq {h g : Heap} {a : Addr} {o q : Obj} (x : h.get? a = some o) (y : h.get? a = some q) (z : g.get? a = some q) : g.get? a = some o := z.trans (y.symm.trans x)
theorem comp_zip2 {elt iter : Expr} {a b : Str} {pa pb tp : Pos} {kk} {scope : Scope} {cl : List (Str × Addr)} {pos : Pos} {Q : Value → Shared → Prop} (F₀ : Fr h₀ L s.heap m)
    (hclos : closureFor scope env = pure cl) (hcell : ∀ y ∈ scope.names, y.2 ≠ .cell) (hkind : scope.kind = .function)
    (hnames : ∀ y ∈ scope.names, y.2 = .local → scope.names.lookup y.1 = some .local) (hxa : scope.names.lookup a = some .local) (hxb : scope.names.lookup b = some .local) (hab : ¬ a = b)
    (h : wpAny (model prog w) A (eval iter env) (ZipSrc prog w A h₀ L m env elt a b scope cl Q) E s)
    (hs : ∀ x, foldedSetIterable iter env x = pure x := by intro _; rfl) :
    wpAny (model prog w) A (eval (.ListComp elt [⟨.Tuple [.Name a pa, .Name b pb] kk tp, iter, [], 0⟩] scope pos) env) Q E s := by
  rw [eval_ListComp]
  refine wpAny_comprehension_free (use := none) rfl hs hclos hkind hnames (wpAny_mono h (fun xv s₁ h₁ => ?_) fun _ _ e => e)
  obtain ⟨z, TI, TO, i1, i2, l1, l2, x0, x1, y0, y1, news, Z0, Z1, rfl, hh, F, N, D', ⟨hz, hTI, hTO, hi1, hi2⟩, ⟨ol1, nl1, hl1, hc1, hd1⟩, ⟨ol2, nl2, hl2, hc2, hd2⟩, hown, e0, e1, fin⟩ := h₁
  refine wpAny_pyIter_zip hz ?_
  refine wpAny_newObj_type (wpAny_newFunctionEnv hcell (by intro y hy; simp at hy) (fun h₁ hns₁ hsb₁ => ?_) hkind)
  dsimp only at hns₁ hsb₁ ⊢
  generalize hH2 : s₁.heap.push { cls := .type "list", dict := none, data := .seq ([] : List Value).toArray } = H2 at hns₁ hsb₁ ⊢
  have hC : H2.objs.size = s₁.heap.objs.size + 1 := by rw [← hH2, Heap.size_push]
  generalize hCd : H2.objs.size = C at *
  generalize hDd : s₁.heap.objs.size = D at *
  have W := WalksT.zip2 (prog := prog) (w := w) hh z TI TO i1 i2 l1 l2 D' #[x0, x1] #[y0, y1]
  have old : ∀ b o, s₁.heap.get? b = some o → h₁.get? b = some o := fun b o e => hsb₁.extBut b o (by rw [hC, ← hDd]; exact Nat.ne_of_lt (Nat.lt_succ_of_lt (Heap.lt_size e))) (Heap.get?_push_of_some _ (hH2 ▸ Heap.get?_push_of_some _ e))
  have zD : h₁.get? D = some (LCg.lst []) := hsb₁.extBut _ _ (by rw [hC]; exact Nat.ne_of_lt (Nat.lt_succ_self _)) (Heap.get?_push_of_some _ (by rw [← hH2, ← hDd]; exact Heap.get?_push_size _ rfl))
  have ltD : ∀ b o, s₁.heap.get? b = some o → b < D := fun b o e => hDd ▸ Heap.lt_size e
  have fresh₀ : ∀ c, D ≤ c → h₀.get? c = none := fun c hc => by
    cases e : h₀.get? c with
    | none => rfl
    | some o' => exact absurd (ltD _ _ (F.keep c o' e)) (Nat.not_lt.mpr hc)
  have hLD : L < D := hDd ▸ F.ns.lt
  have hDC : D ≠ C := by rw [hC]; exact Nat.ne_of_lt (Nat.lt_succ_self _)
  have hLC : L ≠ C := by rw [hC]; exact Nat.ne_of_lt (Nat.lt_succ_of_lt hLD)
  have hLD' : L ≠ D := Nat.ne_of_lt hLD
  have hC₀ : h₀.get? C = none := fresh₀ _ (by rw [hC]; exact Nat.le_succ _)
  have hD₀ : h₀.get? D = none := fresh₀ _ (Nat.le_refl _)
  have in7 : ∀ c ∈ [z, TI, TO, i1, i2, l1, l2], c < D := all7 (ltD _ _ hz) (ltD _ _ hTI) (hTO.elim fun _ e => e.elim fun _ e => ltD _ _ e) (hi1.elim fun _ e => ltD _ _ e.1) (hi2.elim fun _ e => ltD _ _ e.1) (ltD _ _ (N _ hl1).1) (ltD _ _ (N _ hl2).1)
  have inold : ∀ c ∈ [z, TI, TO, i1, i2], c < D := fun c hc => in7 c (sub57 hc)
  have Cn : C ∉ [z, TI, TO, i1, i2] := not_of_lt inold (hC ▸ Nat.le_succ _)
  have Dn : D ∉ [z, TI, TO, i1, i2] := not_of_lt inold (Nat.le_refl _)
  have Ln : L ∉ [z, TI, TO, i1, i2] := fun hm => (hown _ hm).2.1 rfl
  have C7 : C ∉ [z, TI, TO, i1, i2, l1, l2] := not_of_lt in7 (hC ▸ Nat.le_succ _)
  have D7 : D ∉ [z, TI, TO, i1, i2, l1, l2] := not_of_lt in7 (Nat.le_refl _)
  -- the state between the turns
  let St : Nat → Heap → Prop := fun i h => IsZip h z TI TO .none ∧ IsPair h TI (.ref i1) (.ref i2) ∧ (∃ a b, IsPair h TO a b) ∧ h.IsListIter i1 l1 i ∧ h.IsListIter i2 l2 i ∧ h.IsList l1 #[x0, x1] ∧ h.IsList l2 #[y0, y1]
  let J : Nat → List Value → Led → Shared → Prop := fun i ys nw s' => ∃ h' tk m', s' = { s₁ with heap := h', toks := tk } ∧ St i h' ∧ Fr h₀ L h' m ∧ h'.Ns C m' ∧ News h₀ L h' ((D, LCg.lst ys) :: nw) ∧ (∀ p ∈ nw, (∀ c ∈ [z, TI, TO, i1, i2], p.1 ≠ c) ∧ p.1 ≠ C ∧ p.1 ≠ D) ∧ (∀ p ∈ news, p ∈ nw)
  let cenv := compEnvC scope cl C env
  let R : Result → Shared → Prop := compPost (model prog w) A E none Q (.ref D) C
  have turn : ∀ (i : Nat) (x y : Value) (ys : List Value) (nw : Led) (Z : Value → Led → Prop) (Next : Shared → Prop) (E1 E2 E3 E4 : Value → Shared → Prop) (s' : Shared), i < 2 → ys.length ≤ 2 → (#[x0, x1] : Array Value)[i]? = some x → (#[y0, y1] : Array Value)[i]? = some y → J i ys nw s' →
      EltZ prog w A h₀ L m env elt a b scope cl s₁ x y nw Z →
      (∀ v add s'', Z v add → (∀ p ∈ add, ∀ q ∈ nw, p.1 ≠ q.1) → J (i + 1) (ys ++ [v]) (add ++ nw) s'' → Next s'') →
      wpAny (model prog w) A (pyNext (.ref z)) (fun r s₁' => match r with
        | none => R (.ok .next) s₁'
        | some v => wpAny (model prog w) A (letOwnedTupleGo (.Tuple [.Name a pa, .Name b pb] kk tp) (.ref z) v) (fun _ s₀ => wpAny (model prog w) A (assign (.Tuple [.Name a pa, .Name b pb] kk tp) cenv v) (fun _ s₂ =>
            wpAny (model prog w) A (eval elt cenv) (fun x s₄ => wpAny (model prog w) A (call (.builtin "list.append") [.ref D, x]) (fun _ s₅ => Next s₅) E4 s₄) E3 s₂) E2 s₀) E1 s₁') E1 s' := by
    rintro i x y ys nw Z Next E1 E2 E3 E4 s' hi hyl hx hy ⟨h', tk, m', rfl, hst, F', hn', N', off, hsub⟩ he hnext
    refine W.item i _ _ _ (by simpa using hi) hst fun T vals h₂ tk₂ hPt hTge hT hMid hk₂ => ?_
    obtain ⟨x', y', hx', hy', rfl⟩ := hPt
    obtain rfl : x' = x := by rw [hx] at hx'; exact (Option.some.inj hx').symm
    obtain rfl : y' = y := by rw [hy] at hy'; exact (Option.some.inj hy').symm
    have hTwr := W.apart _ _ _ hMid
    refine W.go _ _ _ _ _ _ _ _ hMid fun h₃ hst₃ hk₃ => ?_
    have k23 : ∀ c o, c ∉ [z, TI, TO, i1, i2] → h'.get? c = some o → h₃.get? c = some o := fun c o hc e => hk₃ _ _ (not45 hc) (hk₂ _ _ (not45 hc) e)
    have hT₃ : h₃.IsTuple T #[x', y'] := by
      obtain ⟨o, e, r⟩ := hT
      exact ⟨o, hk₃ _ _ hTwr e, r⟩
    refine kcp_assign (env := cenv) hh hT₃ (lookup_relabel_local hxa) (lookup_relabel_local hxb) (by simp [cenv, compEnvC, relabel, hkind]) (hn'.at' fun o e => k23 _ o Cn e) fun h₄ tk₄ hn₄ hk₄ => ?_
    have hk₄' : ∀ c o, c ≠ C → h₃.get? c = some o → h₄.get? c = some o := hk₄
    have k24 : ∀ c o, c ∉ [z, TI, TO, i1, i2] → c ≠ C → h'.get? c = some o → h₄.get? c = some o := fun c o hc hne e => hk₄' _ _ hne (k23 _ _ hc e)
    obtain ⟨oC, heC, hoC⟩ := LCg.ns_obj (show h₄.Ns C _ from hn₄)
    have F₄ : Fr h₀ L h₄ m := ⟨F'.ns.at' fun o e => k24 _ o Ln hLC e, fun c o e => k24 c o (fun hm => by rw [(hown _ hm).1] at e; cases e) (fun q => by rw [q, hC₀] at e; cases e) (F'.keep c o e), F'.above⟩
    have N₄ : News h₀ L h₄ ((D, LCg.lst ys) :: nw) := fun p hp => by
      have hz' := N' p hp
      refine ⟨k24 _ _ ?_ ?_ hz'.1, hz'.2⟩
      · rcases List.mem_cons.mp hp with rfl | hp
        · exact Dn
        · exact fun hm => (off p hp).1 _ hm rfl
      · rcases List.mem_cons.mp hp with rfl | hp
        · exact hDC
        · exact (off p hp).2.1
    have st₄ : St (i + 1) h₄ := W.frame _ _ _ hst₃ fun c hc o e => hk₄' _ _ (fun q => C7 (q ▸ hc)) e
    obtain ⟨qz, qTI, ⟨ta, tb, qTO⟩, ⟨oi1, qi1, hi1'⟩, ⟨oi2, qi2, hi2'⟩, qrest⟩ := st₄
    obtain ⟨oz, qz'⟩ : ∃ o, h₄.get? z = some o := ⟨_, qz⟩
    obtain ⟨oTI, qTI'⟩ : ∃ o, h₄.get? TI = some o := ⟨_, qTI⟩
    obtain ⟨oTO, qTO'⟩ : ∃ o, h₄.get? TO = some o := ⟨_, qTO⟩
    have own : ∀ c ∈ [z, TI, TO, i1, i2], c ≠ L ∧ h₀.get? c = none := fun c hc => ⟨(hown c hc).2.1, (hown c hc).1⟩
    have N₅ : News h₀ L h₄ ((C, oC) :: (nw ++ [(z, oz), (TI, oTI), (TO, oTO), (i1, oi1), (i2, oi2), (D, LCg.lst ys)])) := fun p hp => by
      rcases List.mem_cons.mp hp with rfl | hp
      · exact ⟨heC, hLC.symm, hC₀⟩
      · rcases List.mem_append.mp hp with hp | hp
        · exact N₄ p (.tail _ hp)
        · exact all6 (P := fun p => h₄.get? p.1 = some p.2 ∧ p.1 ≠ L ∧ h₀.get? p.1 = none) ⟨qz', own _ (.head _)⟩ ⟨qTI', own _ mem_1⟩ ⟨qTO', own _ mem_2⟩ ⟨qi1, own _ mem_3⟩ ⟨qi2, own _ mem_4⟩ (N₄ _ (.head _)) p hp
    refine wpAny_mono (he _ C oC _ h₄ _ E3 hoC (by simp [hab]) (by simp) F₄ N₅) (fun v s₄ hv => ?_) fun _ _ e => e
    obtain ⟨add, h₅, tk₅, rfl, F₅, N₆, ap, hZ⟩ := hv
    have inl : ∀ p ∈ (C, oC) :: (nw ++ [(z, oz), (TI, oTI), (TO, oTO), (i1, oi1), (i2, oi2), (D, LCg.lst ys)]), p ∈ add ++ ((C, oC) :: (nw ++ [(z, oz), (TI, oTI), (TO, oTO), (i1, oi1), (i2, oi2), (D, LCg.lst ys)])) := fun p hp => List.mem_append.mpr (.inr hp)
    have g5 : ∀ {p : Addr × Obj}, p ∈ (C, oC) :: (nw ++ [(z, oz), (TI, oTI), (TO, oTO), (i1, oi1), (i2, oi2), (D, LCg.lst ys)]) → h₅.get? p.1 = some p.2 := fun hp => (N₆ _ (inl _ hp)).1
    have zD₅ : h₅.get? D = some (LCg.lst ys) := g5 (mem_r mem_5)
    have l1n : (l1, ol1) ∈ nw := hsub _ hl1
    have l2n : (l2, ol2) ∈ nw := hsub _ hl2
    have st₅ : St (i + 1) h₅ := by
      exact ⟨get_eq qz qz' (g5 (mem_r (.head _))), get_eq qTI qTI' (g5 (mem_r mem_1)), ⟨ta, tb, get_eq qTO qTO' (g5 (mem_r mem_2))⟩, ⟨oi1, g5 (mem_r mem_3), hi1'⟩, ⟨oi2, g5 (mem_r mem_4), hi2'⟩, ⟨ol1, g5 (mem_l l1n), hc1, nl1, hd1⟩, ⟨ol2, g5 (mem_l l2n), hc2, nl2, hd2⟩⟩
    have apD : ∀ p ∈ add, p.1 ≠ D := fun p hp => ap p hp (D, LCg.lst ys) (mem_r mem_5)
    have apC : ∀ p ∈ add, p.1 ≠ C := fun p hp => ap p hp (C, oC) (.head _)
    have apO : ∀ p ∈ add, ∀ c ∈ [z, TI, TO, i1, i2], p.1 ≠ c := fun p hp => all5 (ap p hp (_, oz) (mem_r (.head _))) (ap p hp (_, oTI) (mem_r mem_1)) (ap p hp (_, oTO) (mem_r mem_2)) (ap p hp (_, oi1) (mem_r mem_3)) (ap p hp (_, oi2) (mem_r mem_4))
    refine append_at (hsz := by show ys.toArray.size ≤ sizeLine; rw [List.size_toArray]; exact Nat.le_trans hyl (by decide)) zD₅ fun h₆ hs₆ hD₆ => ?_
    refine hnext v add _ hZ (fun p hp q hq => ap p hp q (mem_l hq)) ⟨h₆, _, _, rfl, ?_, F₅.change hs₆ hLD'.symm hD₀, (hoC.ns (g5 (.head _))).sameBut hs₆ hDC.symm, fun p hp => ?_, fun p hp => ?_, fun p hp => List.mem_append.mpr (.inr (hsub p hp))⟩
    · exact W.frame _ _ _ st₅ fun c hc o e => hs₆.extBut c o (fun q => D7 (q ▸ hc)) e
    · rcases List.mem_cons.mp hp with rfl | hp
      · exact ⟨hD₆.trans (congrArg some (LCg.lst_snoc ys v)), hLD'.symm, hD₀⟩
      · rcases List.mem_append.mp hp with hp | hp
        · have z6 := N₆ p (List.mem_append.mpr (.inl hp))
          exact ⟨hs₆.extBut _ _ (apD p hp) z6.1, z6.2⟩
        · have z6 := N₆ p (inl p (mem_l hp))
          exact ⟨hs₆.extBut _ _ (off p hp).2.2 z6.1, z6.2⟩
    · rcases List.mem_append.mp hp with hp | hp
      · exact ⟨fun c hc => apO p hp c hc, apC p hp, apD p hp⟩
      · exact off p hp
  have st0 : St 0 h₁ := by
    have hl1' : h₁.IsList l1 #[x0, x1] := ⟨ol1, old _ _ (N _ hl1).1, hc1, nl1, hd1⟩
    have hl2' : h₁.IsList l2 #[y0, y1] := ⟨ol2, old _ _ (N _ hl2).1, hc2, nl2, hd2⟩
    obtain ⟨ta, tb, hTO'⟩ := hTO
    exact ⟨old _ _ hz, old _ _ hTI, ⟨ta, tb, old _ _ hTO'⟩, hi1.at fun o e => old _ o e, hi2.at fun o e => old _ o e, hl1', hl2'⟩
  have J0 : ∀ tk, J 0 [] news { s₁ with heap := h₁, toks := tk } := fun tk => by
    refine ⟨h₁, tk, _, rfl, st0, F.keeps old, hns₁, fun p hp => ?_, fun p hp => ⟨fun c hc => (hown c hc).2.2 p hp, ?_, ?_⟩, fun p hp => hp⟩
    · rcases List.mem_cons.mp hp with rfl | hp
      · exact ⟨zD, hLD'.symm, hD₀⟩
      · exact ⟨old _ _ (N p hp).1, (N p hp).2⟩
    · rw [hC]; exact Nat.ne_of_lt (Nat.lt_succ_of_lt (ltD _ _ (N p hp).1))
    · exact Nat.ne_of_lt (ltD _ _ (N p hp).1)
  let I : Nat → Shared → Prop := fun n s' => (n = 2 ∧ J 0 [] news s') ∨ (n = 1 ∧ ∃ v0 add0, Z0 v0 add0 ∧ (∀ p ∈ add0, ∀ q ∈ news, p.1 ≠ q.1) ∧ J 1 [v0] (add0 ++ news) s') ∨
    (n = 0 ∧ ∃ v0 add0 v1 add1, Z0 v0 add0 ∧ Z1 v1 add1 ∧ (∀ p ∈ add0, ∀ q ∈ news, p.1 ≠ q.1) ∧ (∀ p ∈ add1, ∀ q ∈ add0 ++ news, p.1 ≠ q.1) ∧ J 2 [v0, v1] (add1 ++ (add0 ++ news)) s')
  have loop : ∀ tk, codeAny (model prog w) A (.compLoop (.ListComp elt [⟨.Tuple [.Name a pa, .Name b pb] kk tp, iter, [], 0⟩] scope pos) 0 (.ref z) (.ref D) cenv) R { s₁ with heap := h₁, toks := tk } := by
    intro tk
    refine kcp_loop I ?_ 2 (.inl ⟨rfl, J0 tk⟩)
    rintro n s' (⟨rfl, hJ⟩ | ⟨rfl, v0, add0, z0, ap0, hJ⟩ | ⟨rfl, v0, add0, v1, add1, z0, z1, ap0, ap1, hJ⟩)
    · exact turn 0 x0 y0 [] news Z0 (fun s₅ => ∃ m, m < 2 ∧ I m s₅) _ _ _ _ s' (by decide) (by decide) rfl rfl hJ e0 fun v add s'' hZ ap hJ' => ⟨1, by decide, .inr (.inl ⟨rfl, v, add, hZ, ap, hJ'⟩)⟩
    · exact turn 1 x1 y1 [v0] (add0 ++ news) Z1 (fun s₅ => ∃ m, m < 1 ∧ I m s₅) _ _ _ _ s' (by decide) (by simp) rfl rfl hJ (e1 v0 add0 z0 ap0) fun v add s'' hZ ap hJ' => ⟨0, by decide, .inr (.inr ⟨rfl, v0, add0, v, add, z0, hZ, ap0, ap, hJ'⟩)⟩
    · obtain ⟨h', tk', m', rfl, hst, F', hn', N', off, _⟩ := hJ
      refine W.done _ _ _ hst fun h₂ tk₂ hk₂ => ?_
      have F₂ : Fr h₀ L h₂ m := ⟨F'.ns.at' fun o e => hk₂ _ _ (not45 Ln) e, fun c o e => hk₂ _ _ (not45 fun hm => by rw [(hown _ hm).1] at e; cases e) (F'.keep c o e), F'.above⟩
      have N₂ : News h₀ L h₂ ((D, LCg.lst [v0, v1]) :: (add1 ++ (add0 ++ news))) := fun p hp => by
        refine ⟨hk₂ _ _ (not45 (t := TI) ?_) (N' p hp).1, (N' p hp).2⟩
        rcases List.mem_cons.mp hp with rfl | hp
        · exact Dn
        · exact fun hm => (off p hp).1 _ hm rfl
      have hn₂ : h₂.Ns C m' := hn'.at' fun o e => hk₂ _ _ (not45 Cn) e
      refine ⟨m', hn₂, fun h'' hs'' => fin v0 add0 v1 add1 z0 z1 ap0 ap1 D h'' tk₂ (F₂.change hs'' hLC.symm hC₀) (fun p hp => ⟨hs''.extBut _ _ ?_ (N₂ p hp).1, (N₂ p hp).2⟩) (off1_all fun p hp => (off p hp).2.2)⟩
      rcases List.mem_cons.mp hp with rfl | hp
      · exact hDC
      · exact (off p hp).2.1
  exact codeAny_compStart_list (loop _) (W.self 0 _ _ _ st0 (loop _))
theorem call_zip_src {elt : Expr} {a b : Str} {scope : Scope} {cl : List (Str × Addr)} {Q : Value → Shared → Prop} {l1 l2 : Addr} {x0 x1 y0 y1 : Value} {n1 n2 : Nat} {news : Led} {Z0 Z1 : Value → Led → Prop}
    (hh : A.handled = none) (F : Fr h₀ L s.heap m) (N : News h₀ L s.heap news) (hl1 : (l1, listOf #[x0, x1] n1) ∈ news) (hl2 : (l2, listOf #[y0, y1] n2) ∈ news)
    (e0 : ∀ g, EltZ prog w A h₀ L m env elt a b scope cl { s with heap := g } x0 y0 news Z0)
    (e1 : ∀ g v0 add0, Z0 v0 add0 → (∀ p ∈ add0, ∀ q ∈ news, p.1 ≠ q.1) → EltZ prog w A h₀ L m env elt a b scope cl { s with heap := g } x1 y1 (add0 ++ news) Z1)
    (fin : ∀ g v0 add0 v1 add1, Z0 v0 add0 → Z1 v1 add1 → (∀ p ∈ add0, ∀ q ∈ news, p.1 ≠ q.1) → (∀ p ∈ add1, ∀ q ∈ add0 ++ news, p.1 ≠ q.1) → LCg.FinE h₀ L m { s with heap := g } Q [v0, v1] (add1 ++ (add0 ++ news))) :
    wpAny (model prog w) A (call (.type "zip") [.ref l1, .ref l2]) (ZipSrc prog w A h₀ L m env elt a b scope cl Q) E s := by
  have h1 : s.heap.IsList l1 #[x0, x1] := ⟨_, (N _ hl1).1, rfl, n1, rfl⟩
  have h2 : s.heap.IsList l2 #[y0, y1] := ⟨_, (N _ hl2).1, rfl, n2, rfl⟩
  have hlt1 : l1 < s.heap.objs.size := Heap.lt_size (N _ hl1).1
  have hlt2 : l2 < s.heap.objs.size := Heap.lt_size (N _ hl2).1
  refine call_zip_2 h1 h2 fun h' hz hTI hTO hi1 hi2 hsz hk => ?_
  have big : ∀ c, s.heap.objs.size ≤ c → h₀.get? c = none ∧ c ≠ L ∧ ∀ p ∈ news, p.1 ≠ c := fun c hc => by
    refine ⟨?_, ?_, fun p hp => ?_⟩
    · cases e : h₀.get? c with
      | none => rfl
      | some o => exact absurd (Heap.lt_size (F.keep c o e)) (Nat.not_lt.mpr hc)
    · exact Nat.ne_of_gt (Nat.lt_of_lt_of_le F.ns.lt hc)
    · exact Nat.ne_of_lt (Nat.lt_of_lt_of_le (Heap.lt_size (N p hp).1) hc)
  refine ⟨_, _, _, _, _, l1, l2, x0, x1, y0, y1, news, Z0, Z1, rfl, hh, F.keeps hk, N.grown hk, ktu_apart _ _ _ hlt1 hlt2, ⟨hz, hTI, ⟨_, _, hTO⟩, hi1, hi2⟩, ⟨_, n1, hl1, rfl, rfl⟩, ⟨_, n2, hl2, rfl, rfl⟩, fun c hc => big c ?_, e0 h', e1 h', fin h'⟩
  exact all5 (P := fun c => s.heap.objs.size ≤ c) (Nat.le_add_right _ 4) (Nat.le_add_right _ 2) (Nat.le_add_right _ 3) (Nat.le_refl _) (Nat.le_add_right _ 1) c hc
end
end
theorem walk_off_B3 : True := by
  w_top off
  trivial
-- B3
section
local macro_rules | `(tactic| walk_at "no such key 0") => `(tactic| skip)
open PySem PySem.W PyProof.Rows
set_option linter.unusedVariables false
set_option maxRecDepth 100000
set_option maxHeartbeats 8000000
/-- a power of ten on the way to its figures -/
noncomputable def FigI (many bound : Int) : Prop := ∃ k : Nat, k ≤ 13 ∧ many = (k : Int) + 1 ∧ bound = 10 ^ (k + 1)
theorem fig_start : FigI 1 10 := ⟨0, by decide, by decide, by decide⟩
theorem pow_mono {a b : Nat} (h : a ≤ b) : (10 : Int) ^ a ≤ 10 ^ b := by
  have := Nat.pow_le_pow_right (n := 10) (by decide) h
  exact_mod_cast this
theorem fig_turn {m b : Int} (h : FigI m b) (hb : b ≤ 10000000000000) : FigI (m + 1) (b * 10) := by
  obtain ⟨k, hk, rfl, rfl⟩ := h
  refine ⟨k + 1, ?_, by omega, by rw [Int.pow_succ 10 (k + 1)]⟩
  rcases Nat.lt_or_ge k 13 with h | h
  · exact h
  · obtain rfl : k = 13 := by omega
    exact absurd hb (by decide)
theorem fig_less {m b : Int} (h : FigI m b) : (15 - (m + 1)).toNat < (15 - m).toNat := by
  obtain ⟨k, hk, rfl, -⟩ := h
  omega
theorem fig_end {m b : Int} (h : FigI m b) (hb : ¬ b ≤ 10000000000000) : m = 14 := by
  obtain ⟨k, hk, rfl, rfl⟩ := h
  rcases Nat.lt_or_ge k 13 with h | h
  · have := pow_mono (a := k + 1) (b := 13) (by omega)
    exact absurd (Int.le_trans this (by decide)) hb
  · omega
theorem ctr_figures13 (w : World) (t : Tok) : CtrR w 3 44 [.int 10000000000000 t] [] (RInt 14) := by
  unfold CtrR Ctr; k_fill
  intro p loose mean mg mb dp un gd cn nms9 ig9 ic9 mo9 a9 ccd cl outer A₀ base h₀ L m s Q E B F X N T hdp hun hC hret
  refine wpAny_call ?_
  (k_dflt (first | (refine' def_in ?k1 ?k2 ?k3 ?k4 ?k5 ?kA ?kF ?kK ?k6 ?k7 ?k8 ?k9 ?kB ?_ ?c2 ?c3 ?c4 ?c5; (case kA => exact rfl); (case kF => exact rfl); (case kK => exact rfl); (case k1 => k_asm); (case k2 => k_asm); (case k3 => k_asm); (case k4 => k_asm); (case k5 => k_asm); (case k6 => k_is); (case k7 => k_is); (case k8 => k_room); (case k9 => exact BindsTo.of_eq rfl); (case c5 => decide); (case kB => exact locs rfl); (case c2 => exact rfl); (case c3 => exact rfl); (case c4 => exact rfl); k_whole; intro g' L' h' H' FG' F' N' B' X' T'; (try dsimp only); (try k_lift B'); (try k_fold)) | (refine' def_inC ?k1 ?k2 ?k3 ?k4 ?k5 ?kA ?kF ?kK ?k6 ?k7 ?k8 ?k9 ?kB ?kD ?_ ?c2 ?c3 ?c4; (case kA => exact rfl); (case kF => exact rfl); (case kK => exact rfl); (case k1 => k_asm); (case k2 => k_asm); (case k3 => k_asm); (case k4 => k_asm); (case k5 => k_asm); (case k6 => k_is); (case k7 => k_is); (case k8 => k_room); (case k9 => exact BindsTo.of_eq rfl); (case kB => exact rfl); (case kD => decide +kernel); (case c2 => exact rfl); (case c3 => exact rfl); (case c4 => exact rfl); k_whole; intro g' L' h' tk' cells' H' FG' F' N' Y' B' X' T' l1; (try (replace l1 := allLt_of l1)); k_cells Y'; (try simp only [List.cons_append, List.nil_append] at N'); (try dsimp only); (try k_lift B'); (try k_fold))))
  k_with "exec While Compare cons nil" => k_while (fun (_ : List Int) (m b : Int) => FigI m b) (fun (_ : List Int) (m b : Int) => (15 - m).toNat) "many" "bound"
  k_with "state" => first | exact fig_start | exact fig_turn (by assumption) (by assumption)
  k_with "measure" => exact fig_less (by assumption)
  k_steps
  k_with_none
  exact ret_int hret (by k_asm) (by k_asm) (by (exact kept_of (by assumption) (by assumption) (by assumption))) (by lcg_sub) (fig_end (by assumption) (by assumption))
theorem ctr_figures1 (w : World) (t : Tok) : CtrR w 3 44 [.int 1 t] [] (RInt 1) := by
  unfold CtrR Ctr; k_fill
  intro p loose mean mg mb dp un gd cn nms9 ig9 ic9 mo9 a9 ccd cl outer A₀ base h₀ L m s Q E B F X N T hdp hun hC hret
  refine wpAny_call ?_
  (k_dflt (first | (refine' def_in ?k1 ?k2 ?k3 ?k4 ?k5 ?kA ?kF ?kK ?k6 ?k7 ?k8 ?k9 ?kB ?_ ?c2 ?c3 ?c4 ?c5; (case kA => exact rfl); (case kF => exact rfl); (case kK => exact rfl); (case k1 => k_asm); (case k2 => k_asm); (case k3 => k_asm); (case k4 => k_asm); (case k5 => k_asm); (case k6 => k_is); (case k7 => k_is); (case k8 => k_room); (case k9 => exact BindsTo.of_eq rfl); (case c5 => decide); (case kB => exact locs rfl); (case c2 => exact rfl); (case c3 => exact rfl); (case c4 => exact rfl); k_whole; intro g' L' h' H' FG' F' N' B' X' T'; (try dsimp only); (try k_lift B'); (try k_fold)) | (refine' def_inC ?k1 ?k2 ?k3 ?k4 ?k5 ?kA ?kF ?kK ?k6 ?k7 ?k8 ?k9 ?kB ?kD ?_ ?c2 ?c3 ?c4; (case kA => exact rfl); (case kF => exact rfl); (case kK => exact rfl); (case k1 => k_asm); (case k2 => k_asm); (case k3 => k_asm); (case k4 => k_asm); (case k5 => k_asm); (case k6 => k_is); (case k7 => k_is); (case k8 => k_room); (case k9 => exact BindsTo.of_eq rfl); (case kB => exact rfl); (case kD => decide +kernel); (case c2 => exact rfl); (case c3 => exact rfl); (case c4 => exact rfl); k_whole; intro g' L' h' tk' cells' H' FG' F' N' Y' B' X' T' l1; (try (replace l1 := allLt_of l1)); k_cells Y'; (try simp only [List.cons_append, List.nil_append] at N'); (try dsimp only); (try k_lift B'); (try k_fold))))
  k_steps
  exact ret_int hret (by k_asm) (by k_asm) (by (exact kept_of (by assumption) (by assumption) (by assumption))) (by lcg_sub) rfl
theorem ctr_fig13 (w : World) (N : Int) (t : Tok) (h : N = 10000000000000) : CtrR w 3 44 [.int N t] [] (RInt 14) := by subst h; exact ctr_figures13 w t
theorem ctr_fig1 (w : World) (N : Int) (t : Tok) (h : N = 1) : CtrR w 3 44 [.int N t] [] (RInt 1) := by subst h; exact ctr_figures1 w t
local macro_rules | `(tactic| walk_at "call ref") => `(tactic| (k_here; (with_reducible show wpAny _ _ (call (Value.ref 44) _) _ _ _); k_dflt (first
  | (refine' Ctr.useInt (ctr_fig13 _ _ _ ?hN) ?k1 ?k2 ?k3 ?k4 ?kS ?k5 ?kd ?ku ?kC ?_; (case hN => decide +kernel); walk_at "ctr side"; walk_at "ctr got0")
  | (refine' Ctr.useInt (ctr_fig1 _ _ _ ?hN) ?k1 ?k2 ?k3 ?k4 ?kS ?k5 ?kd ?ku ?kC ?_; (case hN => decide +kernel); walk_at "ctr side"; walk_at "ctr got0")
  | refine stop ?_)))
theorem ctr_rounded0 (w : World) (t t2 : Tok) : CtrR w 5 51 [.int 10000000000000 t, .int 5 t2] [] (RInt 100000000) := by
  unfold CtrR Ctr; k_fill
  intro p loose mean mg mb dp un gd cn nms9 ig9 ic9 mo9 a9 ccd cl outer A₀ base h₀ L m s Q E B F X N T hdp hun hC hret
  refine wpAny_call ?_
  (k_dflt (first | (refine' def_in ?k1 ?k2 ?k3 ?k4 ?k5 ?kA ?kF ?kK ?k6 ?k7 ?k8 ?k9 ?kB ?_ ?c2 ?c3 ?c4 ?c5; (case kA => exact rfl); (case kF => exact rfl); (case kK => exact rfl); (case k1 => k_asm); (case k2 => k_asm); (case k3 => k_asm); (case k4 => k_asm); (case k5 => k_asm); (case k6 => k_is); (case k7 => k_is); (case k8 => k_room); (case k9 => exact BindsTo.of_eq rfl); (case c5 => decide); (case kB => exact locs rfl); (case c2 => exact rfl); (case c3 => exact rfl); (case c4 => exact rfl); k_whole; intro g' L' h' H' FG' F' N' B' X' T'; (try dsimp only); (try k_lift B'); (try k_fold)) | (refine' def_inC ?k1 ?k2 ?k3 ?k4 ?k5 ?kA ?kF ?kK ?k6 ?k7 ?k8 ?k9 ?kB ?kD ?_ ?c2 ?c3 ?c4; (case kA => exact rfl); (case kF => exact rfl); (case kK => exact rfl); (case k1 => k_asm); (case k2 => k_asm); (case k3 => k_asm); (case k4 => k_asm); (case k5 => k_asm); (case k6 => k_is); (case k7 => k_is); (case k8 => k_room); (case k9 => exact BindsTo.of_eq rfl); (case kB => exact rfl); (case kD => decide +kernel); (case c2 => exact rfl); (case c3 => exact rfl); (case c4 => exact rfl); k_whole; intro g' L' h' tk' cells' H' FG' F' N' Y' B' X' T' l1; (try (replace l1 := allLt_of l1)); k_cells Y'; (try simp only [List.cons_append, List.nil_append] at N'); (try dsimp only); (try k_lift B'); (try k_fold))))
  k_steps
  exact ret_int hret (by k_asm) (by k_asm) (by (exact kept_of (by assumption) (by assumption) (by assumption))) (by lcg_sub) (by decide +kernel)
theorem ctr_rounded (w : World) (N M : Int) (t t2 : Tok) (h : N = 10000000000000) (h2 : M = 5) : CtrR w 5 51 [.int N t, .int M t2] [] (RInt 100000000) := by subst h; subst h2; exact ctr_rounded0 w t t2
local macro_rules | `(tactic| walk_at "call ref") => `(tactic| (k_here; (with_reducible show wpAny _ _ (call (Value.ref 51) _) _ _ _); k_dflt (
  refine' Ctr.useInt (ctr_rounded _ _ _ _ _ ?hN ?hM) ?k1 ?k2 ?k3 ?k4 ?kS ?k5 ?kd ?ku ?kC ?_; (case hN => decide +kernel); (case hM => decide +kernel); walk_at "ctr side"; walk_at "ctr got0")))
noncomputable def MadI (s e : Int) : Prop := ∃ k : Fin 9, s = 10 ^ (8 - k.1) ∧ e = (k.1 : Int) - 8
theorem mad_start {s e : Int} (hs : s = 100000000) (he : e = -8) : MadI s e := ⟨0, hs, he⟩
theorem mad_all : ∀ k : Fin 9, Int.fmod (10 ^ (8 - k.1)) 10 = 0 → k.1 < 8 ∧ Int.fdiv (10 ^ (8 - k.1)) 10 = 10 ^ (8 - (k.1 + 1)) := by decide +kernel
theorem mad_none : ∀ k : Fin 9, ¬ Int.fmod (10 ^ (8 - k.1)) 10 = 0 → (10 : Int) ^ (8 - k.1) = 1 ∧ (k.1 : Int) - 8 = 0 := by decide +kernel
theorem mad_turn {s e : Int} (h : MadI s e) (hs : Int.fmod s 10 = 0) : MadI (Int.fdiv s 10) (e + 1) := by
  obtain ⟨k, rfl, rfl⟩ := h
  obtain ⟨h1, h2⟩ := mad_all k hs
  exact ⟨⟨k.1 + 1, by omega⟩, h2, by show _ = ((k.1 + 1 : Nat) : Int) - 8; omega⟩
theorem mad_less {s e : Int} (h : MadI s e) (hs : Int.fmod s 10 = 0) : (-(e + 1)).toNat < (-e).toNat := by
  obtain ⟨k, rfl, rfl⟩ := h
  obtain ⟨h1, h2⟩ := mad_all k hs
  omega
theorem mad_end {s e : Int} (h : MadI s e) (hs : ¬ Int.fmod s 10 = 0) : s = 1 ∧ e = 0 := by
  obtain ⟨k, rfl, rfl⟩ := h
  exact mad_none k hs
theorem ctr_made0 (w : World) (t t2 t3 : Tok) : CtrR w 7 58 [.int 10000000000000 t, .int (-13) t2, .int 9 t3] [] (RTup 1 0) := by
  unfold CtrR Ctr; k_fill
  intro p loose mean mg mb dp un gd cn nms9 ig9 ic9 mo9 a9 ccd cl outer A₀ base h₀ L m s Q E B F X N T hdp hun hC hret
  refine wpAny_call ?_
  (k_dflt (first | (refine' def_in ?k1 ?k2 ?k3 ?k4 ?k5 ?kA ?kF ?kK ?k6 ?k7 ?k8 ?k9 ?kB ?_ ?c2 ?c3 ?c4 ?c5; (case kA => exact rfl); (case kF => exact rfl); (case kK => exact rfl); (case k1 => k_asm); (case k2 => k_asm); (case k3 => k_asm); (case k4 => k_asm); (case k5 => k_asm); (case k6 => k_is); (case k7 => k_is); (case k8 => k_room); (case k9 => exact BindsTo.of_eq rfl); (case c5 => decide); (case kB => exact locs rfl); (case c2 => exact rfl); (case c3 => exact rfl); (case c4 => exact rfl); k_whole; intro g' L' h' H' FG' F' N' B' X' T'; (try dsimp only); (try k_lift B'); (try k_fold)) | (refine' def_inC ?k1 ?k2 ?k3 ?k4 ?k5 ?kA ?kF ?kK ?k6 ?k7 ?k8 ?k9 ?kB ?kD ?_ ?c2 ?c3 ?c4; (case kA => exact rfl); (case kF => exact rfl); (case kK => exact rfl); (case k1 => k_asm); (case k2 => k_asm); (case k3 => k_asm); (case k4 => k_asm); (case k5 => k_asm); (case k6 => k_is); (case k7 => k_is); (case k8 => k_room); (case k9 => exact BindsTo.of_eq rfl); (case kB => exact rfl); (case kD => decide +kernel); (case c2 => exact rfl); (case c3 => exact rfl); (case c4 => exact rfl); k_whole; intro g' L' h' tk' cells' H' FG' F' N' Y' B' X' T' l1; (try (replace l1 := allLt_of l1)); k_cells Y'; (try simp only [List.cons_append, List.nil_append] at N'); (try dsimp only); (try k_lift B'); (try k_fold))))
  k_with "exec While Compare cons nil" => k_while (fun (_ : List Int) (s e : Int) => MadI s e) (fun (_ : List Int) (s e : Int) => (-e).toNat) "size" "exponent"
  k_with "state" => first | exact mad_turn (by assumption) (by assumption) | exact mad_start (by decide +kernel) (by decide +kernel)
  k_with "measure" => exact mad_less (by assumption) (by assumption)
  k_steps
  k_with_none
  obtain ⟨e1, e2⟩ := mad_end (by with_reducible assumption) (by assumption)
  subst e1; subst e2
  refine unstop ?_
  k_steps
  exact ret_tup hret (by k_asm) (by k_asm) (by (exact kept_of (by assumption) (by assumption) (by assumption))) (by lcg_sub) (by k_mem) (by decide +kernel) (by decide +kernel) (by walk_at "ctr off")
theorem ctr_made (w : World) (N M K : Int) (t t2 t3 : Tok) (h1 : N = 10000000000000) (h2 : M = -13) (h3 : K = 9) : CtrR w 7 58 [.int N t, .int M t2, .int K t3] [] (RTup 1 0) := by subst h1; subst h2; subst h3; exact ctr_made0 w t t2 t3
local macro_rules | `(tactic| walk_at "call ref") => `(tactic| (k_here; (with_reducible show wpAny _ _ (call (Value.ref 58) _) _ _ _); k_dflt (
  refine' Ctr.useTup (ctr_made _ _ _ _ _ _ _ ?hN ?hM ?hK) ?k1 ?k2 ?k3 ?k4 ?kS ?k5 ?kd ?ku ?kC ?_; (case hN => decide +kernel); (case hM => decide +kernel); (case hK => decide +kernel); walk_at "ctr side"; walk_at "ctr got1")))
theorem ctr_decimal (w : World) (x : Addr) (ta tb tc : Tok) (n1 : Nat) : CtrR w 8 136 [.ref x, .int 9 tc] [(x, tupOf #[.int 1 ta, .int 1 tb] n1)] (RTup 1 0) := by
  unfold CtrR Ctr; k_fill
  intro p loose mean mg mb dp un gd cn nms9 ig9 ic9 mo9 a9 ccd cl outer A₀ base h₀ L m s Q E B F X N T hdp hun hC hret
  refine wpAny_call ?_
  (k_dflt (first | (refine' def_in ?k1 ?k2 ?k3 ?k4 ?k5 ?kA ?kF ?kK ?k6 ?k7 ?k8 ?k9 ?kB ?_ ?c2 ?c3 ?c4 ?c5; (case kA => exact rfl); (case kF => exact rfl); (case kK => exact rfl); (case k1 => k_asm); (case k2 => k_asm); (case k3 => k_asm); (case k4 => k_asm); (case k5 => k_asm); (case k6 => k_is); (case k7 => k_is); (case k8 => k_room); (case k9 => exact BindsTo.of_eq rfl); (case c5 => decide); (case kB => exact locs rfl); (case c2 => exact rfl); (case c3 => exact rfl); (case c4 => exact rfl); k_whole; intro g' L' h' H' FG' F' N' B' X' T'; (try dsimp only); (try k_lift B'); (try k_fold)) | (refine' def_inC ?k1 ?k2 ?k3 ?k4 ?k5 ?kA ?kF ?kK ?k6 ?k7 ?k8 ?k9 ?kB ?kD ?_ ?c2 ?c3 ?c4; (case kA => exact rfl); (case kF => exact rfl); (case kK => exact rfl); (case k1 => k_asm); (case k2 => k_asm); (case k3 => k_asm); (case k4 => k_asm); (case k5 => k_asm); (case k6 => k_is); (case k7 => k_is); (case k8 => k_room); (case k9 => exact BindsTo.of_eq rfl); (case kB => exact rfl); (case kD => decide +kernel); (case c2 => exact rfl); (case c3 => exact rfl); (case c4 => exact rfl); k_whole; intro g' L' h' tk' cells' H' FG' F' N' Y' B' X' T' l1; (try (replace l1 := allLt_of l1)); k_cells Y'; (try simp only [List.cons_append, List.nil_append] at N'); (try dsimp only); (try k_lift B'); (try k_fold))))
  k_steps
  exact ret_tup hret (by k_asm) (by k_asm) (by (exact kept_of (by assumption) (by assumption) (by assumption))) (by lcg_sub) (by k_mem) rfl rfl (by walk_at "ctr off")
end
local macro_rules | `(tactic| walk_at "CompSrc") => `(tactic| (k_here; k_dflt (refine LCg.CompSrc.range (n := 2) (by rfl) (by k_asm) (by k_asm) (by assumption) (by first | decide | rfl) (by first | rfl | decide) (by first | size_fits | exact Nat.le_of_ble_eq_true rfl) ?_; intro g'; refine' plain_rest2 ?_ ?_ ?_; all_goals (intros; try k_fold))))
local macro_rules | `(tactic| walk_at "IntOne") => `(tactic| k_dflt (refine int_one ?_ ?_ <;> k_asm))
theorem walk_off_B4 : True := by
  w_top off
  trivial
-- B4
section
open PySem PySem.W PyProof.Rows
set_option linter.unusedVariables false
set_option maxRecDepth 100000
set_option maxHeartbeats 1600000
theorem ctr_grid_shape (w : World) (g r0 r1 : Addr) (a b : Value) (n0 n1 : Nat) :
   CtrR w 4 65 [.ref g] [(g, listOf #[.ref r0, .ref r1] n0), (r0, listOf #[a, b] n1)] (RTup 2 2) := by
  unfold CtrR Ctr; k_fill
  intro p loose mean mg mb dp un gd cn nms9 ig9 ic9 mo9 a9 ccd cl outer A₀ base h₀ L m s Q E B F X N T hdp hun hC hret
  refine wpAny_call ?_
  (k_dflt (first | (refine' def_in ?k1 ?k2 ?k3 ?k4 ?k5 ?kA ?kF ?kK ?k6 ?k7 ?k8 ?k9 ?kB ?_ ?c2 ?c3 ?c4 ?c5; (case kA => exact rfl); (case kF => exact rfl); (case kK => exact rfl); (case k1 => k_asm); (case k2 => k_asm); (case k3 => k_asm); (case k4 => k_asm); (case k5 => k_asm); (case k6 => k_is); (case k7 => k_is); (case k8 => k_room); (case k9 => exact BindsTo.of_eq rfl); (case c5 => decide); (case kB => exact locs rfl); (case c2 => exact rfl); (case c3 => exact rfl); (case c4 => exact rfl); k_whole; intro g' L' h' H' FG' F' N' B' X' T'; (try dsimp only); (try k_lift B'); (try k_fold)) | (refine' def_inC ?k1 ?k2 ?k3 ?k4 ?k5 ?kA ?kF ?kK ?k6 ?k7 ?k8 ?k9 ?kB ?kD ?_ ?c2 ?c3 ?c4; (case kA => exact rfl); (case kF => exact rfl); (case kK => exact rfl); (case k1 => k_asm); (case k2 => k_asm); (case k3 => k_asm); (case k4 => k_asm); (case k5 => k_asm); (case k6 => k_is); (case k7 => k_is); (case k8 => k_room); (case k9 => exact BindsTo.of_eq rfl); (case kB => exact rfl); (case kD => decide +kernel); (case c2 => exact rfl); (case c3 => exact rfl); (case c4 => exact rfl); k_whole; intro g' L' h' tk' cells' H' FG' F' N' Y' B' X' T' l1; (try (replace l1 := allLt_of l1)); k_cells Y'; (try simp only [List.cons_append, List.nil_append] at N'); (try dsimp only); (try k_lift B'); (try k_fold))))
  k_steps
  exact ret_tup hret (by k_asm) (by k_asm) (by (exact kept_of (by assumption) (by assumption) (by assumption))) (by lcg_sub) (by k_mem) rfl rfl (by walk_at "ctr off")
local macro_rules | `(tactic| walk_at "eval ListComp") => `(tactic| (k_here; lcf_look; k_dflt (refine LCg.ListComp_U (F₀ := by k_asm) (by with_unfolding_all rfl) (by decide) (by rfl) (by decide) (by rfl) ?_)))
theorem ctr_unit_grid (w : World) (t : Tok) : CtrR w 4 70 [.int 2 t] [] (RGrid 1 0 0 1) := by
  unfold CtrR Ctr; k_fill
  intro p loose mean mg mb dp un gd cn nms9 ig9 ic9 mo9 a9 ccd cl outer A₀ base h₀ L m s Q E B F X N T hdp hun hC hret
  refine wpAny_call ?_
  (k_dflt (first | (refine' def_in ?k1 ?k2 ?k3 ?k4 ?k5 ?kA ?kF ?kK ?k6 ?k7 ?k8 ?k9 ?kB ?_ ?c2 ?c3 ?c4 ?c5; (case kA => exact rfl); (case kF => exact rfl); (case kK => exact rfl); (case k1 => k_asm); (case k2 => k_asm); (case k3 => k_asm); (case k4 => k_asm); (case k5 => k_asm); (case k6 => k_is); (case k7 => k_is); (case k8 => k_room); (case k9 => exact BindsTo.of_eq rfl); (case c5 => decide); (case kB => exact locs rfl); (case c2 => exact rfl); (case c3 => exact rfl); (case c4 => exact rfl); k_whole; intro g' L' h' H' FG' F' N' B' X' T'; (try dsimp only); (try k_lift B'); (try k_fold)) | (refine' def_inC ?k1 ?k2 ?k3 ?k4 ?k5 ?kA ?kF ?kK ?k6 ?k7 ?k8 ?k9 ?kB ?kD ?_ ?c2 ?c3 ?c4; (case kA => exact rfl); (case kF => exact rfl); (case kK => exact rfl); (case k1 => k_asm); (case k2 => k_asm); (case k3 => k_asm); (case k4 => k_asm); (case k5 => k_asm); (case k6 => k_is); (case k7 => k_is); (case k8 => k_room); (case k9 => exact BindsTo.of_eq rfl); (case kB => exact rfl); (case kD => decide +kernel); (case c2 => exact rfl); (case c3 => exact rfl); (case c4 => exact rfl); k_whole; intro g' L' h' tk' cells' H' FG' F' N' Y' B' X' T' l1; (try (replace l1 := allLt_of l1)); k_cells Y'; (try simp only [List.cons_append, List.nil_append] at N'); (try dsimp only); (try k_lift B'); (try k_fold))))
  k_steps
  refine comp_cell (F₀ := by k_asm) (by with_unfolding_all rfl) (fun _ => rfl) (fun _ => rfl) rfl (by decide) (by rfl) ?_
  k_steps
  refine cell_src (n := 2) rfl (by k_asm) (by k_asm) (by assumption) (by decide) (by rfl) (by decide) ?_
  intro g9
  refine cell_rest2 (Z0 := fun o => ∃ t1 t2 n, o = listOf #[.int 1 t1, .int 0 t2] n) (Z1 := fun o => ∃ t1 t2 n, o = listOf #[.int 0 t1, .int 1 t2] n) ?_ ?_ ?_
  · intro t I oI C oC K oK D h tk E' hK F N off offK ne
    k_steps
    rename LCg.Off1 _ _ => hz
    exact cell_one (by k_asm) (by k_asm) hz ⟨_, _, _, rfl⟩
  · intro q oq t I oI C oC K oK D h tk E' z hK F N off offK oq1 ne
    obtain ⟨u1, u2, m1, rfl⟩ := z
    k_steps
    rename LCg.Off1 _ _ => hz
    exact cell_one (by k_asm) (by k_asm) hz ⟨_, _, _, rfl⟩
  · intro q oq r or D h tk z0 z1 F N oD or1 oq1
    obtain ⟨u1, u2, m1, rfl⟩ := z0
    obtain ⟨u3, u4, m2, rfl⟩ := z1
    k_steps
    exact ret_grid hret (by k_asm) (by k_asm) (by (exact kept_of (by assumption) (by assumption) (by assumption))) (by lcg_sub) (by k_mem) (by k_mem) (by k_mem) rfl rfl rfl rfl (by walk_at "ctr off") (by walk_at "ctr off") (by walk_at "ctr off") (by k_ne) (by k_ne) (by k_ne)
theorem ctr_turned_grid (w : World) (g r0 r1 : Addr) (a b c d : Int) (ta tb tc td : Tok) (n0 n1 n2 : Nat) :
   CtrR w 8 75 [.ref g] [(g, listOf #[.ref r0, .ref r1] n0), (r0, listOf #[.int a ta, .int b tb] n1), (r1, listOf #[.int c tc, .int d td] n2)] (RGrid a c b d) := by
  unfold CtrR Ctr; k_fill
  intro p loose mean mg mb dp un gd cn nms9 ig9 ic9 mo9 a9 ccd cl outer A₀ base h₀ L m s Q E B F X N T hdp hun hC hret
  refine wpAny_call ?_
  (k_dflt (first | (refine' def_in ?k1 ?k2 ?k3 ?k4 ?k5 ?kA ?kF ?kK ?k6 ?k7 ?k8 ?k9 ?kB ?_ ?c2 ?c3 ?c4 ?c5; (case kA => exact rfl); (case kF => exact rfl); (case kK => exact rfl); (case k1 => k_asm); (case k2 => k_asm); (case k3 => k_asm); (case k4 => k_asm); (case k5 => k_asm); (case k6 => k_is); (case k7 => k_is); (case k8 => k_room); (case k9 => exact BindsTo.of_eq rfl); (case c5 => decide); (case kB => exact locs rfl); (case c2 => exact rfl); (case c3 => exact rfl); (case c4 => exact rfl); k_whole; intro g' L' h' H' FG' F' N' B' X' T'; (try dsimp only); (try k_lift B'); (try k_fold)) | (refine' def_inC ?k1 ?k2 ?k3 ?k4 ?k5 ?kA ?kF ?kK ?k6 ?k7 ?k8 ?k9 ?kB ?kD ?_ ?c2 ?c3 ?c4; (case kA => exact rfl); (case kF => exact rfl); (case kK => exact rfl); (case k1 => k_asm); (case k2 => k_asm); (case k3 => k_asm); (case k4 => k_asm); (case k5 => k_asm); (case k6 => k_is); (case k7 => k_is); (case k8 => k_room); (case k9 => exact BindsTo.of_eq rfl); (case kB => exact rfl); (case kD => decide +kernel); (case c2 => exact rfl); (case c3 => exact rfl); (case c4 => exact rfl); k_whole; intro g' L' h' tk' cells' H' FG' F' N' Y' B' X' T' l1; (try (replace l1 := allLt_of l1)); k_cells Y'; (try simp only [List.cons_append, List.nil_append] at N'); (try dsimp only); (try k_lift B'); (try k_fold))))
  (k_steps; (repeat' ((refine unstop ?_; (first | ((with_reducible show wpAny _ _ (call (Value.ref 65) _) _ _ _); (refine' Ctr.useTup (ctr_grid_shape _ _ _ _ _ _ _ _) ?k1 ?k2 ?k3 ?k4 ?kS ?k5 ?kd ?ku ?kC ?_; (( (case k1 => first | k_asm | fail "use: below"); (case k2 => first | k_asm | fail "use: the frame"); (case k3 => first | k_asm | fail "use: the part"); (case k4 => first | k_asm | fail "use: the ledger"); (case kS => first | lcg_sub | fail "use: what is handed in"); (case k5 => first | k_asm | fail "use: the top"); (case kd => first | k_room | fail "use: room"); (case ku => first | k_units | fail "use: units"); (case kC => first | assumption | fail "use: the table"))); ((intro D9 n9 t9 u9 h9 tk9 F9 N9 P9; (try dsimp only); (try k_fold))))))); k_steps)))
  refine comp_cell (F₀ := by k_asm) (by with_unfolding_all rfl) (fun _ => rfl) (fun _ => rfl) rfl (by decide) (by rfl) ?_
  (k_steps; (repeat' ((refine unstop ?_; (first | ((with_reducible show wpAny _ _ (call (Value.ref 65) _) _ _ _); (refine' Ctr.useTup (ctr_grid_shape _ _ _ _ _ _ _ _) ?k1 ?k2 ?k3 ?k4 ?kS ?k5 ?kd ?ku ?kC ?_; (( (case k1 => first | k_asm | fail "use: below"); (case k2 => first | k_asm | fail "use: the frame"); (case k3 => first | k_asm | fail "use: the part"); (case k4 => first | k_asm | fail "use: the ledger"); (case kS => first | lcg_sub | fail "use: what is handed in"); (case k5 => first | k_asm | fail "use: the top"); (case kd => first | k_room | fail "use: room"); (case ku => first | k_units | fail "use: units"); (case kC => first | assumption | fail "use: the table"))); ((intro D9 n9 t9 u9 h9 tk9 F9 N9 P9; (try dsimp only); (try k_fold))))))); k_steps)))
  refine cell_src (n := 2) rfl (by k_asm) (by k_asm) (by assumption) (by decide) (by rfl) (by decide) ?_
  intro g9
  refine cell_rest2 (Z0 := fun o => ∃ t1 t2 n, o = listOf #[.int a t1, .int c t2] n) (Z1 := fun o => ∃ t1 t2 n, o = listOf #[.int b t1, .int d t2] n) ?_ ?_ ?_
  · intro t I oI C oC K oK D h tk E' hK F N off offK ne
    (k_steps; (repeat' ((refine unstop ?_; (first | ((with_reducible show wpAny _ _ (call (Value.ref 65) _) _ _ _); (refine' Ctr.useTup (ctr_grid_shape _ _ _ _ _ _ _ _) ?k1 ?k2 ?k3 ?k4 ?kS ?k5 ?kd ?ku ?kC ?_; (( (case k1 => first | k_asm | fail "use: below"); (case k2 => first | k_asm | fail "use: the frame"); (case k3 => first | k_asm | fail "use: the part"); (case k4 => first | k_asm | fail "use: the ledger"); (case kS => first | lcg_sub | fail "use: what is handed in"); (case k5 => first | k_asm | fail "use: the top"); (case kd => first | k_room | fail "use: room"); (case ku => first | k_units | fail "use: units"); (case kC => first | assumption | fail "use: the table"))); ((intro D9 n9 t9 u9 h9 tk9 F9 N9 P9; (try dsimp only); (try k_fold))))))); k_steps)))
    rename LCg.Off1 _ _ => hz
    exact cell_one (by k_asm) (by k_asm) hz ⟨_, _, _, rfl⟩
  · intro q oq t I oI C oC K oK D h tk E' z hK F N off offK oq1 ne
    obtain ⟨u1, u2, m1, rfl⟩ := z
    (k_steps; (repeat' ((refine unstop ?_; (first | ((with_reducible show wpAny _ _ (call (Value.ref 65) _) _ _ _); (refine' Ctr.useTup (ctr_grid_shape _ _ _ _ _ _ _ _) ?k1 ?k2 ?k3 ?k4 ?kS ?k5 ?kd ?ku ?kC ?_; (( (case k1 => first | k_asm | fail "use: below"); (case k2 => first | k_asm | fail "use: the frame"); (case k3 => first | k_asm | fail "use: the part"); (case k4 => first | k_asm | fail "use: the ledger"); (case kS => first | lcg_sub | fail "use: what is handed in"); (case k5 => first | k_asm | fail "use: the top"); (case kd => first | k_room | fail "use: room"); (case ku => first | k_units | fail "use: units"); (case kC => first | assumption | fail "use: the table"))); ((intro D9 n9 t9 u9 h9 tk9 F9 N9 P9; (try dsimp only); (try k_fold))))))); k_steps)))
    rename LCg.Off1 _ _ => hz
    exact cell_one (by k_asm) (by k_asm) hz ⟨_, _, _, rfl⟩
  · intro q oq r or D h tk z0 z1 F N oD or1 oq1
    obtain ⟨u1, u2, m1, rfl⟩ := z0
    obtain ⟨u3, u4, m2, rfl⟩ := z1
    (k_steps; (repeat' ((refine unstop ?_; (first | ((with_reducible show wpAny _ _ (call (Value.ref 65) _) _ _ _); (refine' Ctr.useTup (ctr_grid_shape _ _ _ _ _ _ _ _) ?k1 ?k2 ?k3 ?k4 ?kS ?k5 ?kd ?ku ?kC ?_; (( (case k1 => first | k_asm | fail "use: below"); (case k2 => first | k_asm | fail "use: the frame"); (case k3 => first | k_asm | fail "use: the part"); (case k4 => first | k_asm | fail "use: the ledger"); (case kS => first | lcg_sub | fail "use: what is handed in"); (case k5 => first | k_asm | fail "use: the top"); (case kd => first | k_room | fail "use: room"); (case ku => first | k_units | fail "use: units"); (case kC => first | assumption | fail "use: the table"))); ((intro D9 n9 t9 u9 h9 tk9 F9 N9 P9; (try dsimp only); (try k_fold))))))); k_steps)))
    exact ret_grid hret (by k_asm) (by k_asm) (by (exact kept_of (by assumption) (by assumption) (by assumption))) (by lcg_sub) (by k_mem) (by k_mem) (by k_mem) rfl rfl rfl rfl (by walk_at "ctr off") (by walk_at "ctr off") (by walk_at "ctr off") (by k_ne) (by k_ne) (by k_ne)
end
local macro_rules | `(tactic| walk_at "eval ListComp") => `(tactic| (k_here; k_dflt (refine LCg.ListComp_U (F₀ := by k_asm) (by with_unfolding_all rfl) (by decide) (by rfl) (by decide) (by rfl) ?_)))
local macro_rules | `(tactic| walk_at "CompSrc") => `(tactic| (k_here; refine stop ?_))
theorem walk_off_B6 : True := by
  w_top off
  trivial
-- B6
section
open PySem PySem.W PyProof.Rows
set_option linter.unusedVariables false
set_option maxRecDepth 100000
set_option maxHeartbeats 1600000
theorem ctr_fraction_of (w : World) (a : Int) (ta : Tok) : CtrR w 4 108 [.int a ta] [] (RTup a 1) := by
  unfold CtrR Ctr; k_fill
  intro p loose mean mg mb dp un gd cn nms9 ig9 ic9 mo9 a9 ccd cl outer A₀ base h₀ L m s Q E B F X N T hdp hun hC hret
  refine wpAny_call ?_
  (k_dflt (first | (refine' def_in ?k1 ?k2 ?k3 ?k4 ?k5 ?kA ?kF ?kK ?k6 ?k7 ?k8 ?k9 ?kB ?_ ?c2 ?c3 ?c4 ?c5; (case kA => exact rfl); (case kF => exact rfl); (case kK => exact rfl); (case k1 => k_asm); (case k2 => k_asm); (case k3 => k_asm); (case k4 => k_asm); (case k5 => k_asm); (case k6 => k_is); (case k7 => k_is); (case k8 => k_room); (case k9 => exact BindsTo.of_eq rfl); (case c5 => decide); (case kB => exact locs rfl); (case c2 => exact rfl); (case c3 => exact rfl); (case c4 => exact rfl); k_whole; intro g' L' h' H' FG' F' N' B' X' T'; (try dsimp only); (try k_lift B'); (try k_fold)) | (refine' def_inC ?k1 ?k2 ?k3 ?k4 ?k5 ?kA ?kF ?kK ?k6 ?k7 ?k8 ?k9 ?kB ?kD ?_ ?c2 ?c3 ?c4; (case kA => exact rfl); (case kF => exact rfl); (case kK => exact rfl); (case k1 => k_asm); (case k2 => k_asm); (case k3 => k_asm); (case k4 => k_asm); (case k5 => k_asm); (case k6 => k_is); (case k7 => k_is); (case k8 => k_room); (case k9 => exact BindsTo.of_eq rfl); (case kB => exact rfl); (case kD => decide +kernel); (case c2 => exact rfl); (case c3 => exact rfl); (case c4 => exact rfl); k_whole; intro g' L' h' tk' cells' H' FG' F' N' Y' B' X' T' l1; (try (replace l1 := allLt_of l1)); k_cells Y'; (try simp only [List.cons_append, List.nil_append] at N'); (try dsimp only); (try k_lift B'); (try k_fold))))
  k_steps
  exact ret_tup hret (by k_asm) (by k_asm) (by (exact kept_of (by assumption) (by assumption) (by assumption))) (by lcg_sub) (by k_mem) rfl rfl (by walk_at "ctr off")
noncomputable abbrev RRow (a b : Int) (y : Value) (add : Led) : Prop := ∃ p u0 u1 n n0 n1 t0 t1 t2 t3, y = .ref p ∧ add = [(p, listOf #[.ref u0, .ref u1] n), (u1, tupOf #[.int b t2, .int 1 t3] n1), (u0, tupOf #[.int a t0, .int 1 t1] n0)]
noncomputable abbrev RRows (a b c d : Int) (y : Value) (add : Led) : Prop := ∃ R n y0 add0 y1 add1, y = .ref R ∧ add = (R, listOf #[y0, y1] n) :: (add1 ++ add0) ∧ RRow a b y0 add0 ∧ RRow c d y1 add1
theorem ctr_square_rows (w : World) (g r0 r1 : Addr) (a b c d : Int) (ta tb tc td : Tok) (n0 n1 n2 : Nat) :
   CtrR w 8 158 [.ref g] [(g, listOf #[.ref r0, .ref r1] n0), (r0, listOf #[.int a ta, .int b tb] n1), (r1, listOf #[.int c tc, .int d td] n2)] (RRows a b c d) := by
  unfold CtrR Ctr; k_fill
  intro p loose mean mg mb dp un gd cn nms9 ig9 ic9 mo9 a9 ccd cl outer A₀ base h₀ L m s Q E B F X N T hdp hun hC hret
  refine wpAny_call ?_
  (k_dflt (first | (refine' def_in ?k1 ?k2 ?k3 ?k4 ?k5 ?kA ?kF ?kK ?k6 ?k7 ?k8 ?k9 ?kB ?_ ?c2 ?c3 ?c4 ?c5; (case kA => exact rfl); (case kF => exact rfl); (case kK => exact rfl); (case k1 => k_asm); (case k2 => k_asm); (case k3 => k_asm); (case k4 => k_asm); (case k5 => k_asm); (case k6 => k_is); (case k7 => k_is); (case k8 => k_room); (case k9 => exact BindsTo.of_eq rfl); (case c5 => decide); (case kB => exact locs rfl); (case c2 => exact rfl); (case c3 => exact rfl); (case c4 => exact rfl); k_whole; intro g' L' h' H' FG' F' N' B' X' T'; (try dsimp only); (try k_lift B'); (try k_fold)) | (refine' def_inC ?k1 ?k2 ?k3 ?k4 ?k5 ?kA ?kF ?kK ?k6 ?k7 ?k8 ?k9 ?kB ?kD ?_ ?c2 ?c3 ?c4; (case kA => exact rfl); (case kF => exact rfl); (case kK => exact rfl); (case k1 => k_asm); (case k2 => k_asm); (case k3 => k_asm); (case k4 => k_asm); (case k5 => k_asm); (case k6 => k_is); (case k7 => k_is); (case k8 => k_room); (case k9 => exact BindsTo.of_eq rfl); (case kB => exact rfl); (case kD => decide +kernel); (case c2 => exact rfl); (case c3 => exact rfl); (case c4 => exact rfl); k_whole; intro g' L' h' tk' cells' H' FG' F' N' Y' B' X' T' l1; (try (replace l1 := allLt_of l1)); k_cells Y'; (try simp only [List.cons_append, List.nil_append] at N'); (try dsimp only); (try k_lift B'); (try k_fold))))
  (k_steps; (repeat' ((refine unstop ?_; (first | ((with_reducible show wpAny _ _ (call (Value.ref 108) _) _ _ _); (refine' Ctr.useTup (ctr_fraction_of _ _ _) ?k1 ?k2 ?k3 ?k4 ?kS ?k5 ?kd ?ku ?kC ?_; (( (case k1 => first | k_asm | fail "use: below"); (case k2 => first | k_asm | fail "use: the frame"); (case k3 => first | k_asm | fail "use: the part"); (case k4 => first | k_asm | fail "use: the ledger"); (case kS => first | lcg_sub | fail "use: what is handed in"); (case k5 => first | k_asm | fail "use: the top"); (case kd => first | k_room | fail "use: room"); (case ku => first | k_units | fail "use: units"); (case kC => first | assumption | fail "use: the table"))); ((intro D9 n9 t9 u9 h9 tk9 F9 N9 P9; (try dsimp only); (try k_fold))))) | ((with_reducible show wpAny _ _ (call (Value.ref 65) _) _ _ _); (refine' Ctr.useTup (ctr_grid_shape _ _ _ _ _ _ _ _) ?k1 ?k2 ?k3 ?k4 ?kS ?k5 ?kd ?ku ?kC ?_; (( (case k1 => first | k_asm | fail "use: below"); (case k2 => first | k_asm | fail "use: the frame"); (case k3 => first | k_asm | fail "use: the part"); (case k4 => first | k_asm | fail "use: the ledger"); (case kS => first | lcg_sub | fail "use: what is handed in"); (case k5 => first | k_asm | fail "use: the top"); (case kd => first | k_room | fail "use: room"); (case ku => first | k_units | fail "use: units"); (case kC => first | assumption | fail "use: the table"))); ((intro D9 n9 t9 u9 h9 tk9 F9 N9 P9; (try dsimp only); (try k_fold))))))); k_steps)))
  refine unstop (LCg.CompSrc.ledger (by rfl) (by k_asm) (by k_asm) (by k_mem) (by first | size_fits | exact Nat.le_of_ble_eq_true rfl) ?_)
  intro g9
  refine rest_two (V0 := fun v => v = .ref r0) (V1 := fun v => v = .ref r1) (Z0 := RRow a b) (Z1 := RRow c d) (Or.inr ⟨_, by k_mem, rfl, _, rfl⟩) srcAt_mono (fun v h => (Option.some.inj h).symm) (fun v h => (Option.some.inj h).symm) ?_ ?_ ?_
  · intro v I oI C oC D m₂ h tk E' hv hC hx F N o3 ne
    subst hv
    (k_steps; (repeat' ((refine unstop ?_; (first | ((with_reducible show wpAny _ _ (call (Value.ref 108) _) _ _ _); (refine' Ctr.useTup (ctr_fraction_of _ _ _) ?k1 ?k2 ?k3 ?k4 ?kS ?k5 ?kd ?ku ?kC ?_; (( (case k1 => first | k_asm | fail "use: below"); (case k2 => first | k_asm | fail "use: the frame"); (case k3 => first | k_asm | fail "use: the part"); (case k4 => first | k_asm | fail "use: the ledger"); (case kS => first | lcg_sub | fail "use: what is handed in"); (case k5 => first | k_asm | fail "use: the top"); (case kd => first | k_room | fail "use: room"); (case ku => first | k_units | fail "use: units"); (case kC => first | assumption | fail "use: the table"))); ((intro D9 n9 t9 u9 h9 tk9 F9 N9 P9; (try dsimp only); (try k_fold))))) | ((with_reducible show wpAny _ _ (call (Value.ref 65) _) _ _ _); (refine' Ctr.useTup (ctr_grid_shape _ _ _ _ _ _ _ _) ?k1 ?k2 ?k3 ?k4 ?kS ?k5 ?kd ?ku ?kC ?_; (( (case k1 => first | k_asm | fail "use: below"); (case k2 => first | k_asm | fail "use: the frame"); (case k3 => first | k_asm | fail "use: the part"); (case k4 => first | k_asm | fail "use: the ledger"); (case kS => first | lcg_sub | fail "use: what is handed in"); (case k5 => first | k_asm | fail "use: the top"); (case kd => first | k_room | fail "use: room"); (case ku => first | k_units | fail "use: units"); (case kC => first | assumption | fail "use: the table"))); ((intro D9 n9 t9 u9 h9 tk9 F9 N9 P9; (try dsimp only); (try k_fold))))))); k_steps)))
    refine unstop (LCg.CompSrc.ledger (by rfl) (by k_asm) (by k_asm) (by k_mem) (by first | size_fits | exact Nat.le_of_ble_eq_true rfl) ?_)
    intro g9
    refine rest_two (V0 := fun v => v = .int a ta) (V1 := fun v => v = .int b tb) (Z0 := RTup a 1) (Z1 := RTup b 1) (Or.inr ⟨_, by k_mem, rfl, _, rfl⟩) srcAt_mono (fun v h => (Option.some.inj h).symm) (fun v h => (Option.some.inj h).symm) ?_ ?_ ?_
    · intro v I oI C oC D m₂ h tk E' hv hC hx F N o3 ne
      subst hv
      (k_steps; (repeat' ((refine unstop ?_; (first | ((with_reducible show wpAny _ _ (call (Value.ref 108) _) _ _ _); (refine' Ctr.useTup (ctr_fraction_of _ _ _) ?k1 ?k2 ?k3 ?k4 ?kS ?k5 ?kd ?ku ?kC ?_; (( (case k1 => first | k_asm | fail "use: below"); (case k2 => first | k_asm | fail "use: the frame"); (case k3 => first | k_asm | fail "use: the part"); (case k4 => first | k_asm | fail "use: the ledger"); (case kS => first | lcg_sub | fail "use: what is handed in"); (case k5 => first | k_asm | fail "use: the top"); (case kd => first | k_room | fail "use: room"); (case ku => first | k_units | fail "use: units"); (case kC => first | assumption | fail "use: the table"))); ((intro D9 n9 t9 u9 h9 tk9 F9 N9 P9; (try dsimp only); (try k_fold))))) | ((with_reducible show wpAny _ _ (call (Value.ref 65) _) _ _ _); (refine' Ctr.useTup (ctr_grid_shape _ _ _ _ _ _ _ _) ?k1 ?k2 ?k3 ?k4 ?kS ?k5 ?kd ?ku ?kC ?_; (( (case k1 => first | k_asm | fail "use: below"); (case k2 => first | k_asm | fail "use: the frame"); (case k3 => first | k_asm | fail "use: the part"); (case k4 => first | k_asm | fail "use: the ledger"); (case kS => first | lcg_sub | fail "use: what is handed in"); (case k5 => first | k_asm | fail "use: the top"); (case kd => first | k_room | fail "use: room"); (case ku => first | k_units | fail "use: units"); (case kC => first | assumption | fail "use: the table"))); ((intro D9 n9 t9 u9 h9 tk9 F9 N9 P9; (try dsimp only); (try k_fold))))))); k_steps)))
      exact add_one _ (by k_asm) (by k_asm) (by lcg_sub) (apart1 (by walk_at "ctr off")) ⟨_, _, _, _, rfl, rfl⟩
    · intro y add v I oI C oC D m₂ h tk E' z ap hv hC hx F N o3 ne
      subst hv
      obtain ⟨q, n, t1, t2, rfl, rfl⟩ := z
      simp only [List.cons_append, List.nil_append] at N
      (k_steps; (repeat' ((refine unstop ?_; (first | ((with_reducible show wpAny _ _ (call (Value.ref 108) _) _ _ _); (refine' Ctr.useTup (ctr_fraction_of _ _ _) ?k1 ?k2 ?k3 ?k4 ?kS ?k5 ?kd ?ku ?kC ?_; (( (case k1 => first | k_asm | fail "use: below"); (case k2 => first | k_asm | fail "use: the frame"); (case k3 => first | k_asm | fail "use: the part"); (case k4 => first | k_asm | fail "use: the ledger"); (case kS => first | lcg_sub | fail "use: what is handed in"); (case k5 => first | k_asm | fail "use: the top"); (case kd => first | k_room | fail "use: room"); (case ku => first | k_units | fail "use: units"); (case kC => first | assumption | fail "use: the table"))); ((intro D9 n9 t9 u9 h9 tk9 F9 N9 P9; (try dsimp only); (try k_fold))))) | ((with_reducible show wpAny _ _ (call (Value.ref 65) _) _ _ _); (refine' Ctr.useTup (ctr_grid_shape _ _ _ _ _ _ _ _) ?k1 ?k2 ?k3 ?k4 ?kS ?k5 ?kd ?ku ?kC ?_; (( (case k1 => first | k_asm | fail "use: below"); (case k2 => first | k_asm | fail "use: the frame"); (case k3 => first | k_asm | fail "use: the part"); (case k4 => first | k_asm | fail "use: the ledger"); (case kS => first | lcg_sub | fail "use: what is handed in"); (case k5 => first | k_asm | fail "use: the top"); (case kd => first | k_room | fail "use: room"); (case ku => first | k_units | fail "use: units"); (case kC => first | assumption | fail "use: the table"))); ((intro D9 n9 t9 u9 h9 tk9 F9 N9 P9; (try dsimp only); (try k_fold))))))); k_steps)))
      exact add_one _ (by k_asm) (by k_asm) (by lcg_sub) (apart1 (by walk_at "ctr off")) ⟨_, _, _, _, rfl, rfl⟩
    · intro y0 add0 y1 add1 z0 z1 a0 a1 D' h' tk' F' N' oD
      obtain ⟨q, n, t1, t2, rfl, rfl⟩ := z0
      obtain ⟨r, n', t1', t2', rfl, rfl⟩ := z1
      exact add_two F' N' oD a1 a0 ⟨_, _, _, _, _, _, _, _, _, _, rfl, rfl⟩
  · intro y add v I oI C oC D m₂ h tk E' z ap hv hC hx F N o3 ne
    subst hv
    obtain ⟨p1, u0, u1, n, n0, n1, t0, t1, t2, t3, rfl, rfl⟩ := z
    simp only [List.cons_append, List.nil_append] at N
    (k_steps; (repeat' ((refine unstop ?_; (first | ((with_reducible show wpAny _ _ (call (Value.ref 108) _) _ _ _); (refine' Ctr.useTup (ctr_fraction_of _ _ _) ?k1 ?k2 ?k3 ?k4 ?kS ?k5 ?kd ?ku ?kC ?_; (( (case k1 => first | k_asm | fail "use: below"); (case k2 => first | k_asm | fail "use: the frame"); (case k3 => first | k_asm | fail "use: the part"); (case k4 => first | k_asm | fail "use: the ledger"); (case kS => first | lcg_sub | fail "use: what is handed in"); (case k5 => first | k_asm | fail "use: the top"); (case kd => first | k_room | fail "use: room"); (case ku => first | k_units | fail "use: units"); (case kC => first | assumption | fail "use: the table"))); ((intro D9 n9 t9 u9 h9 tk9 F9 N9 P9; (try dsimp only); (try k_fold))))) | ((with_reducible show wpAny _ _ (call (Value.ref 65) _) _ _ _); (refine' Ctr.useTup (ctr_grid_shape _ _ _ _ _ _ _ _) ?k1 ?k2 ?k3 ?k4 ?kS ?k5 ?kd ?ku ?kC ?_; (( (case k1 => first | k_asm | fail "use: below"); (case k2 => first | k_asm | fail "use: the frame"); (case k3 => first | k_asm | fail "use: the part"); (case k4 => first | k_asm | fail "use: the ledger"); (case kS => first | lcg_sub | fail "use: what is handed in"); (case k5 => first | k_asm | fail "use: the top"); (case kd => first | k_room | fail "use: room"); (case ku => first | k_units | fail "use: units"); (case kC => first | assumption | fail "use: the table"))); ((intro D9 n9 t9 u9 h9 tk9 F9 N9 P9; (try dsimp only); (try k_fold))))))); k_steps)))
    refine unstop (LCg.CompSrc.ledger (by rfl) (by k_asm) (by k_asm) (by k_mem) (by first | size_fits | exact Nat.le_of_ble_eq_true rfl) ?_)
    intro g9
    refine rest_two (V0 := fun v => v = .int c tc) (V1 := fun v => v = .int d td) (Z0 := RTup c 1) (Z1 := RTup d 1) (Or.inr ⟨_, by k_mem, rfl, _, rfl⟩) srcAt_mono (fun v h => (Option.some.inj h).symm) (fun v h => (Option.some.inj h).symm) ?_ ?_ ?_
    · intro v I oI C oC D m₂ h tk E' hv hC hx F N o3 ne
      subst hv
      (k_steps; (repeat' ((refine unstop ?_; (first | ((with_reducible show wpAny _ _ (call (Value.ref 108) _) _ _ _); (refine' Ctr.useTup (ctr_fraction_of _ _ _) ?k1 ?k2 ?k3 ?k4 ?kS ?k5 ?kd ?ku ?kC ?_; (( (case k1 => first | k_asm | fail "use: below"); (case k2 => first | k_asm | fail "use: the frame"); (case k3 => first | k_asm | fail "use: the part"); (case k4 => first | k_asm | fail "use: the ledger"); (case kS => first | lcg_sub | fail "use: what is handed in"); (case k5 => first | k_asm | fail "use: the top"); (case kd => first | k_room | fail "use: room"); (case ku => first | k_units | fail "use: units"); (case kC => first | assumption | fail "use: the table"))); ((intro D9 n9 t9 u9 h9 tk9 F9 N9 P9; (try dsimp only); (try k_fold))))) | ((with_reducible show wpAny _ _ (call (Value.ref 65) _) _ _ _); (refine' Ctr.useTup (ctr_grid_shape _ _ _ _ _ _ _ _) ?k1 ?k2 ?k3 ?k4 ?kS ?k5 ?kd ?ku ?kC ?_; (( (case k1 => first | k_asm | fail "use: below"); (case k2 => first | k_asm | fail "use: the frame"); (case k3 => first | k_asm | fail "use: the part"); (case k4 => first | k_asm | fail "use: the ledger"); (case kS => first | lcg_sub | fail "use: what is handed in"); (case k5 => first | k_asm | fail "use: the top"); (case kd => first | k_room | fail "use: room"); (case ku => first | k_units | fail "use: units"); (case kC => first | assumption | fail "use: the table"))); ((intro D9 n9 t9 u9 h9 tk9 F9 N9 P9; (try dsimp only); (try k_fold))))))); k_steps)))
      exact add_one _ (by k_asm) (by k_asm) (by lcg_sub) (apart1 (by walk_at "ctr off")) ⟨_, _, _, _, rfl, rfl⟩
    · intro y add v I oI C oC D m₂ h tk E' z ap hv hC hx F N o3 ne
      subst hv
      obtain ⟨q, n, t1, t2, rfl, rfl⟩ := z
      simp only [List.cons_append, List.nil_append] at N
      (k_steps; (repeat' ((refine unstop ?_; (first | ((with_reducible show wpAny _ _ (call (Value.ref 108) _) _ _ _); (refine' Ctr.useTup (ctr_fraction_of _ _ _) ?k1 ?k2 ?k3 ?k4 ?kS ?k5 ?kd ?ku ?kC ?_; (( (case k1 => first | k_asm | fail "use: below"); (case k2 => first | k_asm | fail "use: the frame"); (case k3 => first | k_asm | fail "use: the part"); (case k4 => first | k_asm | fail "use: the ledger"); (case kS => first | lcg_sub | fail "use: what is handed in"); (case k5 => first | k_asm | fail "use: the top"); (case kd => first | k_room | fail "use: room"); (case ku => first | k_units | fail "use: units"); (case kC => first | assumption | fail "use: the table"))); ((intro D9 n9 t9 u9 h9 tk9 F9 N9 P9; (try dsimp only); (try k_fold))))) | ((with_reducible show wpAny _ _ (call (Value.ref 65) _) _ _ _); (refine' Ctr.useTup (ctr_grid_shape _ _ _ _ _ _ _ _) ?k1 ?k2 ?k3 ?k4 ?kS ?k5 ?kd ?ku ?kC ?_; (( (case k1 => first | k_asm | fail "use: below"); (case k2 => first | k_asm | fail "use: the frame"); (case k3 => first | k_asm | fail "use: the part"); (case k4 => first | k_asm | fail "use: the ledger"); (case kS => first | lcg_sub | fail "use: what is handed in"); (case k5 => first | k_asm | fail "use: the top"); (case kd => first | k_room | fail "use: room"); (case ku => first | k_units | fail "use: units"); (case kC => first | assumption | fail "use: the table"))); ((intro D9 n9 t9 u9 h9 tk9 F9 N9 P9; (try dsimp only); (try k_fold))))))); k_steps)))
      exact add_one _ (by k_asm) (by k_asm) (by lcg_sub) (apart1 (by walk_at "ctr off")) ⟨_, _, _, _, rfl, rfl⟩
    · intro y0 add0 y1 add1 z0 z1 a0 a1 D' h' tk' F' N' oD
      obtain ⟨q, n, t1, t2, rfl, rfl⟩ := z0
      obtain ⟨r, n', t1', t2', rfl, rfl⟩ := z1
      exact add_two F' N' oD a1 a0 ⟨_, _, _, _, _, _, _, _, _, _, rfl, rfl⟩
  · intro y0 add0 y1 add1 z0 z1 a0 a1 D' h' tk' F' N' oD
    (k_steps; (repeat' ((refine unstop ?_; (first | ((with_reducible show wpAny _ _ (call (Value.ref 108) _) _ _ _); (refine' Ctr.useTup (ctr_fraction_of _ _ _) ?k1 ?k2 ?k3 ?k4 ?kS ?k5 ?kd ?ku ?kC ?_; (( (case k1 => first | k_asm | fail "use: below"); (case k2 => first | k_asm | fail "use: the frame"); (case k3 => first | k_asm | fail "use: the part"); (case k4 => first | k_asm | fail "use: the ledger"); (case kS => first | lcg_sub | fail "use: what is handed in"); (case k5 => first | k_asm | fail "use: the top"); (case kd => first | k_room | fail "use: room"); (case ku => first | k_units | fail "use: units"); (case kC => first | assumption | fail "use: the table"))); ((intro D9 n9 t9 u9 h9 tk9 F9 N9 P9; (try dsimp only); (try k_fold))))) | ((with_reducible show wpAny _ _ (call (Value.ref 65) _) _ _ _); (refine' Ctr.useTup (ctr_grid_shape _ _ _ _ _ _ _ _) ?k1 ?k2 ?k3 ?k4 ?kS ?k5 ?kd ?ku ?kC ?_; (( (case k1 => first | k_asm | fail "use: below"); (case k2 => first | k_asm | fail "use: the frame"); (case k3 => first | k_asm | fail "use: the part"); (case k4 => first | k_asm | fail "use: the ledger"); (case kS => first | lcg_sub | fail "use: what is handed in"); (case k5 => first | k_asm | fail "use: the top"); (case kd => first | k_room | fail "use: room"); (case ku => first | k_units | fail "use: units"); (case kC => first | assumption | fail "use: the table"))); ((intro D9 n9 t9 u9 h9 tk9 F9 N9 P9; (try dsimp only); (try k_fold))))))); k_steps)))
    exact ret_add hret (by k_asm) (by k_asm) (by (exact kept_of (by assumption) (by assumption) (by assumption))) _ (sub_twoG (by exact fun q hq => List.mem_cons_of_mem _ hq)) (fun p hp q hq => apart_two oD a1 a0 p hp q (List.mem_cons_of_mem _ hq)) ⟨_, _, _, _, _, _, rfl, rfl, z0, z1⟩
end
theorem walk_off_B7 : True := by
  w_top off
  trivial
-- B7
section
local macro_rules | `(tactic| walk_at "no such key 0") => `(tactic| skip)
open PySem PySem.W PyProof.Rows
set_option linter.unusedVariables false
set_option maxRecDepth 100000
set_option maxHeartbeats 1600000
theorem ctr_pivot0 (w : World) (R p0 p1 u0 : Addr) (v1 : Value) (X Y : Int) (t0 tx ty : Tok) (n0 n1 n2 : Nat) (hX : 0 < X) :
   CtrR w 4 143 [.ref R, .int 0 t0] [(R, listOf #[.ref p0, .ref p1] n0), (p0, listOf #[.ref u0, v1] n1), (u0, tupOf #[.int X tx, .int Y ty] n2)] (RInt 0) := by
  unfold CtrR Ctr; k_fill
  intro p loose mean mg mb dp un gd cn nms9 ig9 ic9 mo9 a9 ccd cl outer A₀ base h₀ L m s Q E B F X N T hdp hun hC hret
  refine wpAny_call ?_
  (k_dflt (first | (refine' def_in ?k1 ?k2 ?k3 ?k4 ?k5 ?kA ?kF ?kK ?k6 ?k7 ?k8 ?k9 ?kB ?_ ?c2 ?c3 ?c4 ?c5; (case kA => exact rfl); (case kF => exact rfl); (case kK => exact rfl); (case k1 => k_asm); (case k2 => k_asm); (case k3 => k_asm); (case k4 => k_asm); (case k5 => k_asm); (case k6 => k_is); (case k7 => k_is); (case k8 => k_room); (case k9 => exact BindsTo.of_eq rfl); (case c5 => decide); (case kB => exact locs rfl); (case c2 => exact rfl); (case c3 => exact rfl); (case c4 => exact rfl); k_whole; intro g' L' h' H' FG' F' N' B' X' T'; (try dsimp only); (try k_lift B'); (try k_fold)) | (refine' def_inC ?k1 ?k2 ?k3 ?k4 ?k5 ?kA ?kF ?kK ?k6 ?k7 ?k8 ?k9 ?kB ?kD ?_ ?c2 ?c3 ?c4; (case kA => exact rfl); (case kF => exact rfl); (case kK => exact rfl); (case k1 => k_asm); (case k2 => k_asm); (case k3 => k_asm); (case k4 => k_asm); (case k5 => k_asm); (case k6 => k_is); (case k7 => k_is); (case k8 => k_room); (case k9 => exact BindsTo.of_eq rfl); (case kB => exact rfl); (case kD => decide +kernel); (case c2 => exact rfl); (case c3 => exact rfl); (case c4 => exact rfl); k_whole; intro g' L' h' tk' cells' H' FG' F' N' Y' B' X' T' l1; (try (replace l1 := allLt_of l1)); k_cells Y'; (try simp only [List.cons_append, List.nil_append] at N'); (try dsimp only); (try k_lift B'); (try k_fold))))
  k_steps
  all_goals first | exact ret_int hret (by k_asm) (by k_asm) (by (exact kept_of (by assumption) (by assumption) (by assumption))) (by lcg_sub) rfl | (exfalso; omega)
theorem ctr_pivot1 (w : World) (R p0 p1 u1 : Addr) (v0 : Value) (X Y : Int) (t0 tx ty : Tok) (n0 n1 n2 : Nat) (hX : 0 < X) :
   CtrR w 4 143 [.ref R, .int 1 t0] [(R, listOf #[.ref p0, .ref p1] n0), (p1, listOf #[v0, .ref u1] n1), (u1, tupOf #[.int X tx, .int Y ty] n2)] (RInt 1) := by
  unfold CtrR Ctr; k_fill
  intro p loose mean mg mb dp un gd cn nms9 ig9 ic9 mo9 a9 ccd cl outer A₀ base h₀ L m s Q E B F X N T hdp hun hC hret
  refine wpAny_call ?_
  (k_dflt (first | (refine' def_in ?k1 ?k2 ?k3 ?k4 ?k5 ?kA ?kF ?kK ?k6 ?k7 ?k8 ?k9 ?kB ?_ ?c2 ?c3 ?c4 ?c5; (case kA => exact rfl); (case kF => exact rfl); (case kK => exact rfl); (case k1 => k_asm); (case k2 => k_asm); (case k3 => k_asm); (case k4 => k_asm); (case k5 => k_asm); (case k6 => k_is); (case k7 => k_is); (case k8 => k_room); (case k9 => exact BindsTo.of_eq rfl); (case c5 => decide); (case kB => exact locs rfl); (case c2 => exact rfl); (case c3 => exact rfl); (case c4 => exact rfl); k_whole; intro g' L' h' H' FG' F' N' B' X' T'; (try dsimp only); (try k_lift B'); (try k_fold)) | (refine' def_inC ?k1 ?k2 ?k3 ?k4 ?k5 ?kA ?kF ?kK ?k6 ?k7 ?k8 ?k9 ?kB ?kD ?_ ?c2 ?c3 ?c4; (case kA => exact rfl); (case kF => exact rfl); (case kK => exact rfl); (case k1 => k_asm); (case k2 => k_asm); (case k3 => k_asm); (case k4 => k_asm); (case k5 => k_asm); (case k6 => k_is); (case k7 => k_is); (case k8 => k_room); (case k9 => exact BindsTo.of_eq rfl); (case kB => exact rfl); (case kD => decide +kernel); (case c2 => exact rfl); (case c3 => exact rfl); (case c4 => exact rfl); k_whole; intro g' L' h' tk' cells' H' FG' F' N' Y' B' X' T' l1; (try (replace l1 := allLt_of l1)); k_cells Y'; (try simp only [List.cons_append, List.nil_append] at N'); (try dsimp only); (try k_lift B'); (try k_fold))))
  k_steps
  all_goals first | exact ret_int hret (by k_asm) (by k_asm) (by (exact kept_of (by assumption) (by assumption) (by assumption))) (by lcg_sub) rfl | (exfalso; omega)
end
theorem walk_off_B8 : True := by
  w_top off
  trivial
-- B8
section
open PySem PySem.W PyProof.Rows
set_option linter.unusedVariables false
set_option maxRecDepth 100000
set_option maxHeartbeats 1600000
noncomputable def Ok (x y : Int) : Prop := -1000 ≤ x ∧ x ≤ 1000 ∧ 0 < y ∧ y ≤ 1000
theorem ctr_times (w : World) (x y : Addr) (a b c d : Int) (ta tb tc td : Tok) (n1 n2 : Nat) (X Y : Int) (ho : Ok a b) (hp : Ok c d) (hX : frA (a * c) (b * d) = X) (hY : frB (a * c) (b * d) = Y) :
    CtrR w 8 115 [.ref x, .ref y] [(x, tupOf #[.int a ta, .int b tb] n1), (y, tupOf #[.int c tc, .int d td] n2)] (RTup X Y) := by
  subst hX; subst hY
  obtain ⟨h1, h2, h3, h4⟩ := ho
  obtain ⟨h5, h6, h7, h8⟩ := hp
  exact ctr_fraction_times w x y a b c d ta tb tc td n1 n2 h1 h2 h3 h4 h5 h6 h7 h8
theorem ctr_less (w : World) (x y : Addr) (a b c d : Int) (ta tb tc td : Tok) (n1 n2 : Nat) (X Y : Int) (ho : Ok a b) (hp : Ok c d) (hX : frA (a * d - c * b) (b * d) = X) (hY : frB (a * d - c * b) (b * d) = Y) :
    CtrR w 8 122 [.ref x, .ref y] [(x, tupOf #[.int a ta, .int b tb] n1), (y, tupOf #[.int c tc, .int d td] n2)] (RTup X Y) := by
  subst hX; subst hY
  obtain ⟨h1, h2, h3, h4⟩ := ho
  obtain ⟨h5, h6, h7, h8⟩ := hp
  exact ctr_fraction_less w x y a b c d ta tb tc td n1 n2 h1 h2 h3 h4 h5 h6 h7 h8
theorem ctr_by (w : World) (x y : Addr) (a b c d : Int) (ta tb tc td : Tok) (n1 n2 : Nat) (X Y : Int) (ho : Ok a b) (hp : Ok c d) (hc : 0 < c) (hX : frA (a * d) (b * c) = X) (hY : frB (a * d) (b * c) = Y) :
    CtrR w 8 129 [.ref x, .ref y] [(x, tupOf #[.int a ta, .int b tb] n1), (y, tupOf #[.int c tc, .int d td] n2)] (RTup X Y) := by
  subst hX; subst hY
  obtain ⟨h1, h2, h3, h4⟩ := ho
  obtain ⟨h5, h6, h7, h8⟩ := hp
  exact ctr_fraction_by w x y a b c d ta tb tc td n1 n2 h1 h2 h3 h4 h5 h6 h7 h8 hc
noncomputable abbrev RRow2 (X0 Y0 X1 Y1 : Int) (y : Value) (add : Led) : Prop := ∃ p n v0 add0 v1 add1, y = .ref p ∧ add = (p, listOf #[v0, v1] n) :: (add1 ++ add0) ∧ RTup X0 Y0 v0 add0 ∧ RTup X1 Y1 v1 add1
local macro_rules | `(tactic| walk_at "frac") => `(tactic| assumption)
local macro_rules | `(tactic| walk_at "eval ListComp") => `(tactic| (k_here; k_dflt (refine comp_zip2 (F₀ := by k_asm) (by with_unfolding_all rfl) (by decide) (by rfl) (by decide) (by rfl) (by rfl) (by decide) ?_)))
local macro_rules | `(tactic| walk_at "call type:zip") => `(tactic| (k_here; refine stop ?_))
theorem ctr_cleared_row (w : World) (r b f u0 u1 m0 m1 : Addr) (x0 y0 x1 y1 p0 q0 p1 q1 F G S0 T0 S1 T1 X0 Y0 X1 Y1 : Int) (k0 k1 k2 k3 k4 k5 k6 k7 k8 k9 : Tok) (n0 n1 n2 n3 n4 n5 n6 : Nat)
    (oF : Ok F G) (o0 : Ok x0 y0) (o1 : Ok x1 y1) (op0 : Ok p0 q0) (op1 : Ok p1 q1) (oS0 : Ok S0 T0) (oS1 : Ok S1 T1)
    (hS0 : frA (F * p0) (G * q0) = S0) (hT0 : frB (F * p0) (G * q0) = T0) (hS1 : frA (F * p1) (G * q1) = S1) (hT1 : frB (F * p1) (G * q1) = T1)
    (hX0 : frA (x0 * T0 - S0 * y0) (y0 * T0) = X0) (hY0 : frB (x0 * T0 - S0 * y0) (y0 * T0) = Y0) (hX1 : frA (x1 * T1 - S1 * y1) (y1 * T1) = X1) (hY1 : frB (x1 * T1 - S1 * y1) (y1 * T1) = Y1) :
    CtrR w 12 148 [.ref r, .ref b, .ref f] [(r, listOf #[.ref u0, .ref u1] n0), (b, listOf #[.ref m0, .ref m1] n1), (f, tupOf #[.int F k0, .int G k1] n2), (u0, tupOf #[.int x0 k2, .int y0 k3] n3), (u1, tupOf #[.int x1 k4, .int y1 k5] n4), (m0, tupOf #[.int p0 k6, .int q0 k7] n5), (m1, tupOf #[.int p1 k8, .int q1 k9] n6)] (RRow2 X0 Y0 X1 Y1) := by
  unfold CtrR Ctr; k_fill
  intro p loose mean mg mb dp un gd cn nms9 ig9 ic9 mo9 a9 ccd cl outer A₀ base h₀ L m s Q E B F' X N T hdp hun hC hret
  refine wpAny_call ?_
  (k_dflt (first | (refine' def_in ?k1 ?k2 ?k3 ?k4 ?k5 ?kA ?kF ?kK ?k6 ?k7 ?k8 ?k9 ?kB ?_ ?c2 ?c3 ?c4 ?c5; (case kA => exact rfl); (case kF => exact rfl); (case kK => exact rfl); (case k1 => k_asm); (case k2 => k_asm); (case k3 => k_asm); (case k4 => k_asm); (case k5 => k_asm); (case k6 => k_is); (case k7 => k_is); (case k8 => k_room); (case k9 => exact BindsTo.of_eq rfl); (case c5 => decide); (case kB => exact locs rfl); (case c2 => exact rfl); (case c3 => exact rfl); (case c4 => exact rfl); k_whole; intro g' L' h' H' FG' F' N' B' X' T'; (try dsimp only); (try k_lift B'); (try k_fold)) | (refine' def_inC ?k1 ?k2 ?k3 ?k4 ?k5 ?kA ?kF ?kK ?k6 ?k7 ?k8 ?k9 ?kB ?kD ?_ ?c2 ?c3 ?c4; (case kA => exact rfl); (case kF => exact rfl); (case kK => exact rfl); (case k1 => k_asm); (case k2 => k_asm); (case k3 => k_asm); (case k4 => k_asm); (case k5 => k_asm); (case k6 => k_is); (case k7 => k_is); (case k8 => k_room); (case k9 => exact BindsTo.of_eq rfl); (case kB => exact rfl); (case kD => decide +kernel); (case c2 => exact rfl); (case c3 => exact rfl); (case c4 => exact rfl); k_whole; intro g' L' h' tk' cells' H' FG' F' N' Y' B' X' T' l1; (try (replace l1 := allLt_of l1)); k_cells Y'; (try simp only [List.cons_append, List.nil_append] at N'); (try dsimp only); (try k_lift B'); (try k_fold))))
  (k_steps; (repeat' ((refine unstop ?_; (first | ((with_reducible show wpAny _ _ (call (Value.ref 122) _) _ _ _); (refine' Ctr.useTup (ctr_less _ _ _ _ _ _ _ _ _ _ _ _ _ _ _ ?ho ?hp ?hX ?hY) ?k1 ?k2 ?k3 ?k4 ?kS ?k5 ?kd ?ku ?kC ?_; (( (case k1 => first | k_asm | fail "use: below"); (case k2 => first | k_asm | fail "use: the frame"); (case k3 => first | k_asm | fail "use: the part"); (case k4 => first | k_asm | fail "use: the ledger"); (case kS => first | lcg_sub | fail "use: what is handed in"); (case k5 => first | k_asm | fail "use: the top"); (case kd => first | k_room | fail "use: room"); (case ku => first | k_units | fail "use: units"); (case kC => first | assumption | fail "use: the table"))); (case ho => (first | assumption | omega | fail "use: a bound")); (case hp => (first | assumption | omega | fail "use: a bound")); (case hX => walk_at "frac"); (case hY => walk_at "frac"); ((intro D9 n9 t9 u9 h9 tk9 F9 N9 P9; (try dsimp only); (try k_fold))))) | ((with_reducible show wpAny _ _ (call (Value.ref 115) _) _ _ _); (refine' Ctr.useTup (ctr_times _ _ _ _ _ _ _ _ _ _ _ _ _ _ _ ?ho ?hp ?hX ?hY) ?k1 ?k2 ?k3 ?k4 ?kS ?k5 ?kd ?ku ?kC ?_; (( (case k1 => first | k_asm | fail "use: below"); (case k2 => first | k_asm | fail "use: the frame"); (case k3 => first | k_asm | fail "use: the part"); (case k4 => first | k_asm | fail "use: the ledger"); (case kS => first | lcg_sub | fail "use: what is handed in"); (case k5 => first | k_asm | fail "use: the top"); (case kd => first | k_room | fail "use: room"); (case ku => first | k_units | fail "use: units"); (case kC => first | assumption | fail "use: the table"))); (case ho => (first | assumption | omega | fail "use: a bound")); (case hp => (first | assumption | omega | fail "use: a bound")); (case hX => walk_at "frac"); (case hY => walk_at "frac"); ((intro D9 n9 t9 u9 h9 tk9 F9 N9 P9; (try dsimp only); (try k_fold))))))); k_steps)))
  refine unstop (call_zip_src (Z0 := RTup X0 Y0) (Z1 := RTup X1 Y1) (by rfl) (by k_asm) (by k_asm) (by k_mem) (by k_mem) ?_ ?_ ?_)
  · intro g own C oC m₂ h tk E' hC ha hb F N
    simp only [List.cons_append, List.nil_append] at N
    (k_steps; (repeat' ((refine unstop ?_; (first | ((with_reducible show wpAny _ _ (call (Value.ref 122) _) _ _ _); (refine' Ctr.useTup (ctr_less _ _ _ _ _ _ _ _ _ _ _ _ _ _ _ ?ho ?hp ?hX ?hY) ?k1 ?k2 ?k3 ?k4 ?kS ?k5 ?kd ?ku ?kC ?_; (( (case k1 => first | k_asm | fail "use: below"); (case k2 => first | k_asm | fail "use: the frame"); (case k3 => first | k_asm | fail "use: the part"); (case k4 => first | k_asm | fail "use: the ledger"); (case kS => first | lcg_sub | fail "use: what is handed in"); (case k5 => first | k_asm | fail "use: the top"); (case kd => first | k_room | fail "use: room"); (case ku => first | k_units | fail "use: units"); (case kC => first | assumption | fail "use: the table"))); (case ho => (first | assumption | omega | fail "use: a bound")); (case hp => (first | assumption | omega | fail "use: a bound")); (case hX => walk_at "frac"); (case hY => walk_at "frac"); ((intro D9 n9 t9 u9 h9 tk9 F9 N9 P9; (try dsimp only); (try k_fold))))) | ((with_reducible show wpAny _ _ (call (Value.ref 115) _) _ _ _); (refine' Ctr.useTup (ctr_times _ _ _ _ _ _ _ _ _ _ _ _ _ _ _ ?ho ?hp ?hX ?hY) ?k1 ?k2 ?k3 ?k4 ?kS ?k5 ?kd ?ku ?kC ?_; (( (case k1 => first | k_asm | fail "use: below"); (case k2 => first | k_asm | fail "use: the frame"); (case k3 => first | k_asm | fail "use: the part"); (case k4 => first | k_asm | fail "use: the ledger"); (case kS => first | lcg_sub | fail "use: what is handed in"); (case k5 => first | k_asm | fail "use: the top"); (case kd => first | k_room | fail "use: room"); (case ku => first | k_units | fail "use: units"); (case kC => first | assumption | fail "use: the table"))); (case ho => (first | assumption | omega | fail "use: a bound")); (case hp => (first | assumption | omega | fail "use: a bound")); (case hX => walk_at "frac"); (case hY => walk_at "frac"); ((intro D9 n9 t9 u9 h9 tk9 F9 N9 P9; (try dsimp only); (try k_fold))))))); k_steps)))
    exact add_one1g (by k_asm) (by k_asm) (by assumption) ⟨_, _, _, _, rfl, rfl⟩
  · intro g v0 add0 z0 ap0 own C oC m₂ h tk E' hC ha hb F N
    simp only [List.cons_append, List.nil_append, List.append_assoc] at N
    obtain ⟨q, n, t1, t2, rfl, rfl⟩ := z0
    simp only [List.cons_append, List.nil_append] at N
    (k_steps; (repeat' ((refine unstop ?_; (first | ((with_reducible show wpAny _ _ (call (Value.ref 122) _) _ _ _); (refine' Ctr.useTup (ctr_less _ _ _ _ _ _ _ _ _ _ _ _ _ _ _ ?ho ?hp ?hX ?hY) ?k1 ?k2 ?k3 ?k4 ?kS ?k5 ?kd ?ku ?kC ?_; (( (case k1 => first | k_asm | fail "use: below"); (case k2 => first | k_asm | fail "use: the frame"); (case k3 => first | k_asm | fail "use: the part"); (case k4 => first | k_asm | fail "use: the ledger"); (case kS => first | lcg_sub | fail "use: what is handed in"); (case k5 => first | k_asm | fail "use: the top"); (case kd => first | k_room | fail "use: room"); (case ku => first | k_units | fail "use: units"); (case kC => first | assumption | fail "use: the table"))); (case ho => (first | assumption | omega | fail "use: a bound")); (case hp => (first | assumption | omega | fail "use: a bound")); (case hX => walk_at "frac"); (case hY => walk_at "frac"); ((intro D9 n9 t9 u9 h9 tk9 F9 N9 P9; (try dsimp only); (try k_fold))))) | ((with_reducible show wpAny _ _ (call (Value.ref 115) _) _ _ _); (refine' Ctr.useTup (ctr_times _ _ _ _ _ _ _ _ _ _ _ _ _ _ _ ?ho ?hp ?hX ?hY) ?k1 ?k2 ?k3 ?k4 ?kS ?k5 ?kd ?ku ?kC ?_; (( (case k1 => first | k_asm | fail "use: below"); (case k2 => first | k_asm | fail "use: the frame"); (case k3 => first | k_asm | fail "use: the part"); (case k4 => first | k_asm | fail "use: the ledger"); (case kS => first | lcg_sub | fail "use: what is handed in"); (case k5 => first | k_asm | fail "use: the top"); (case kd => first | k_room | fail "use: room"); (case ku => first | k_units | fail "use: units"); (case kC => first | assumption | fail "use: the table"))); (case ho => (first | assumption | omega | fail "use: a bound")); (case hp => (first | assumption | omega | fail "use: a bound")); (case hX => walk_at "frac"); (case hY => walk_at "frac"); ((intro D9 n9 t9 u9 h9 tk9 F9 N9 P9; (try dsimp only); (try k_fold))))))); k_steps)))
    exact add_one1g (by k_asm) (by k_asm) (by assumption) ⟨_, _, _, _, rfl, rfl⟩
  · intro g v0 add0 v1 add1 z0 z1 a0 a1 D' h' tk' F9 N9 oD
    (k_steps; (repeat' ((refine unstop ?_; (first | ((with_reducible show wpAny _ _ (call (Value.ref 122) _) _ _ _); (refine' Ctr.useTup (ctr_less _ _ _ _ _ _ _ _ _ _ _ _ _ _ _ ?ho ?hp ?hX ?hY) ?k1 ?k2 ?k3 ?k4 ?kS ?k5 ?kd ?ku ?kC ?_; (( (case k1 => first | k_asm | fail "use: below"); (case k2 => first | k_asm | fail "use: the frame"); (case k3 => first | k_asm | fail "use: the part"); (case k4 => first | k_asm | fail "use: the ledger"); (case kS => first | lcg_sub | fail "use: what is handed in"); (case k5 => first | k_asm | fail "use: the top"); (case kd => first | k_room | fail "use: room"); (case ku => first | k_units | fail "use: units"); (case kC => first | assumption | fail "use: the table"))); (case ho => (first | assumption | omega | fail "use: a bound")); (case hp => (first | assumption | omega | fail "use: a bound")); (case hX => walk_at "frac"); (case hY => walk_at "frac"); ((intro D9 n9 t9 u9 h9 tk9 F9 N9 P9; (try dsimp only); (try k_fold))))) | ((with_reducible show wpAny _ _ (call (Value.ref 115) _) _ _ _); (refine' Ctr.useTup (ctr_times _ _ _ _ _ _ _ _ _ _ _ _ _ _ _ ?ho ?hp ?hX ?hY) ?k1 ?k2 ?k3 ?k4 ?kS ?k5 ?kd ?ku ?kC ?_; (( (case k1 => first | k_asm | fail "use: below"); (case k2 => first | k_asm | fail "use: the frame"); (case k3 => first | k_asm | fail "use: the part"); (case k4 => first | k_asm | fail "use: the ledger"); (case kS => first | lcg_sub | fail "use: what is handed in"); (case k5 => first | k_asm | fail "use: the top"); (case kd => first | k_room | fail "use: room"); (case ku => first | k_units | fail "use: units"); (case kC => first | assumption | fail "use: the table"))); (case ho => (first | assumption | omega | fail "use: a bound")); (case hp => (first | assumption | omega | fail "use: a bound")); (case hX => walk_at "frac"); (case hY => walk_at "frac"); ((intro D9 n9 t9 u9 h9 tk9 F9 N9 P9; (try dsimp only); (try k_fold))))))); k_steps)))
    exact ret_add hret (by k_asm) (by k_asm) (by (exact kept_of (by assumption) (by assumption) (by assumption))) _ (sub_twoG (by exact fun q hq => .tail _ hq)) (fun p hp q hq => apart_two oD a1 a0 p hp q (.tail _ hq)) ⟨_, _, _, _, _, _, rfl, rfl, z0, z1⟩
theorem frA_co {x y : Int} (h : Int.gcd x y = 1) : frA x y = x := by unfold frA; rw [h]; exact Int.fdiv_one x
theorem frB_co {x y : Int} (h : Int.gcd x y = 1) : frB x y = y := by unfold frB; rw [h]; exact Int.fdiv_one y
theorem frA_one (x : Int) : frA x 1 = x := frA_co (by simp [Int.gcd])
theorem frB_one (x : Int) : frB x 1 = 1 := frB_co (by simp [Int.gcd])
theorem frA_1 (x : Int) : frA 1 x = 1 := frA_co (by simp [Int.gcd])
theorem frB_1 (x : Int) : frB 1 x = x := frB_co (by simp [Int.gcd])
theorem fdiv_self' {x : Int} (h : 0 < x) : Int.fdiv x x = 1 := by
  have := Int.fdiv_self (a := x) (by omega)
  exact this
theorem gcd_self' {x : Int} (h : 0 < x) : (Int.gcd x x : Int) = x := by
  simp [Int.gcd]; omega
theorem frA_self {x : Int} (h : 0 < x) : frA x x = 1 := by unfold frA; rw [gcd_self' h]; exact fdiv_self' h
theorem frB_self {x : Int} (h : 0 < x) : frB x x = 1 := by unfold frB; rw [gcd_self' h]; exact fdiv_self' h
theorem gcd_zero' {x : Int} (h : 0 < x) : (Int.gcd 0 x : Int) = x := by
  simp [Int.gcd]; omega
theorem frA_zero {x : Int} (h : 0 < x) : frA 0 x = 0 := by unfold frA; simp
theorem frB_zero {x : Int} (h : 0 < x) : frB 0 x = 1 := by unfold frB; rw [gcd_zero' h]; exact fdiv_self' h
theorem Ctr.useRow2 {w : World} {D : Nat} {f : Addr} {vs : List Value} {led all : Led} {z1 z2 z3 z4 : Int} (C : CtrR w D f vs led (RRow2 z1 z2 z3 z4))
    {p : Program} {loose : List Str} {mean : ExcName → Option Value} {mg mb : Str → Option Value} {dp un : Nat} {gd : Option (List Code)} {cn : Str} {nms : List (Str × NameKind)} {ig ic : Bool} {mo : List (Str × Const)} {a : Addr} {ccd : Value} {cl : List (Str × Addr)} {outer : List Env} {A₀ : Around} {base h₀ : Heap} {L : Addr} {m : Str → Option Value} {s : Shared} {Q E : Value → Shared → Prop}
    (B : Below A₀ base outer h₀) (F : Fr h₀ L s.heap m) (X : (hd.heap_1 w.params).In h₀) (N : News h₀ L s.heap all) (hs : ∀ p ∈ led, p ∈ all) (T : Top p loose mean mg mb h₀) (hd : dp + D < recursionLimit) (hu : un + 8 * D < cLine) (hC : CodeHd base 197 193)
    (ret : ∀ p n a0 a1 m0 m1 t0 t1 t2 t3 h' tk', Fr h₀ L h' m → News h₀ L h' ((p, listOf #[.ref a0, .ref a1] n) :: (a1, tupOf #[.int z3 t2, .int z4 t3] m1) :: (a0, tupOf #[.int z1 t0, .int z2 t1] m0) :: all) → LCg.Off1 p all → LCg.Off1 a1 all → LCg.Off1 a0 all → Q (.ref p) { s with heap := h', toks := tk' }) :
    wpAny (model PySem.Challenge.rw_xm0031_01.row.prog w) (ktrTop dp un gd cn { kind := .function, names := nms, isGenerator := ig, isCoroutine := ic, more := mo } L a ccd cl outer) (call (.ref f) vs) Q E s :=
  Ctr.useR C B F X N hs T hd hu hC (by
    rintro v h' tk' add F' N' P' ⟨p, n, v0, ad0, v1, ad1, rfl, rfl, ⟨a0, m0, t0, t1, rfl, rfl⟩, ⟨a1, m1, t2, t3, rfl, rfl⟩⟩
    simp only [List.cons_append, List.nil_append] at P' N'
    exact ret p n a0 a1 m0 m1 t0 t1 t2 t3 h' tk' F' N' (apart_head P') (apart_head (apart_tail P')) (apart_head (apart_tail (apart_tail P'))))
noncomputable abbrev RSolved (v : Value) (add : Led) : Prop := ∃ P n Rr T k t1 t2, v = .ref P ∧ add = [(P, tupOf #[.ref Rr, .ref T] n), (T, tupOf #[.int 1 t1, .int 1 t2] k)]
end
local macro_rules | `(tactic| walk_at "frac x") => `(tactic| first | (simp only [Int.one_mul, Int.mul_one, Int.zero_mul, Int.mul_zero, Int.sub_self, Int.sub_zero, Int.zero_sub]; first | (show (_ : Int) - _ = _; assumption) | exact rfl) | (show (_ : Int) - _ = _; assumption) | exact rfl)
local macro_rules | `(tactic| walk_at "frac") => `(tactic| first
  | ((with_reducible show frA _ _ = _); refine (congr (congrArg frA (by walk_at "frac x")) (by walk_at "frac x")).trans ?_; first | (refine frA_self ?_; first | with_reducible assumption | decide | omega) | (refine frA_zero ?_; first | with_reducible assumption | decide | omega) | exact frA_one _ | exact frA_1 _ | (refine frA_co ?_; with_reducible assumption) | exact rfl)
  | ((with_reducible show frB _ _ = _); refine (congr (congrArg frB (by walk_at "frac x")) (by walk_at "frac x")).trans ?_; first | (refine frB_self ?_; first | with_reducible assumption | decide | omega) | (refine frB_zero ?_; first | with_reducible assumption | decide | omega) | exact frB_one _ | exact frB_1 _ | (refine frB_co ?_; with_reducible assumption) | exact rfl))
theorem walk_off_B9 : True := by
  w_top off
  trivial
-- B9
section
open PySem PySem.W PyProof.Rows
set_option linter.unusedVariables false
set_option maxRecDepth 100000
set_option maxHeartbeats 1500000
theorem ctr_solved (w : World) (r p0 p1 u0 u1 u2 u3 : Addr) (a b c d : Int) (k0 k1 k2 k3 k4 k5 k6 k7 : Tok) (n0 n1 n2 n3 n4 n5 n6 : Nat)
    (ha : 0 < a) (ha' : a ≤ 30) (hd0 : 0 < d) (hd' : d ≤ 30) (hb : 0 ≤ b) (hb' : b ≤ 30) (hc : 0 < c) (hc' : c ≤ 30) (hdet : d * a - c * b = 1) (hg : Int.gcd b a = 1) (hg2 : Int.gcd (c * b) a = 1) (hcb : 0 ≤ c * b) (hcb' : c * b ≤ 900) :
    CtrR w 20 153 [.ref r] [(r, listOf #[.ref p0, .ref p1] n0), (p0, listOf #[.ref u0, .ref u1] n1), (p1, listOf #[.ref u2, .ref u3] n2), (u0, tupOf #[.int a k0, .int 1 k1] n3), (u1, tupOf #[.int b k2, .int 1 k3] n4), (u2, tupOf #[.int c k4, .int 1 k5] n5), (u3, tupOf #[.int d k6, .int 1 k7] n6)] RSolved := by
  have okA : Ok a 1 := ⟨by omega, by omega, by omega, by omega⟩
  have okB : Ok b 1 := ⟨by omega, by omega, by omega, by omega⟩
  have okC : Ok c 1 := ⟨by omega, by omega, by omega, by omega⟩
  have okD : Ok d 1 := ⟨by omega, by omega, by omega, by omega⟩
  have ok1 : Ok 1 1 := ⟨by omega, by omega, by omega, by omega⟩
  have ok0 : Ok 0 1 := ⟨by omega, by omega, by omega, by omega⟩
  have okBA : Ok b a := ⟨by omega, by omega, by omega, by omega⟩
  have ok1A : Ok 1 a := ⟨by omega, by omega, by omega, by omega⟩
  have okCB : Ok (c * b) a := ⟨by omega, by omega, by omega, by omega⟩
  unfold CtrR Ctr; k_fill
  intro p loose mean mg mb dp un gd cn nms9 ig9 ic9 mo9 a9 ccd cl outer A₀ base h₀ L m s Q E B F X N T hdp hun hC hret
  refine wpAny_call ?_
  (k_dflt (first | (refine' def_in ?k1 ?k2 ?k3 ?k4 ?k5 ?kA ?kF ?kK ?k6 ?k7 ?k8 ?k9 ?kB ?_ ?c2 ?c3 ?c4 ?c5; (case kA => exact rfl); (case kF => exact rfl); (case kK => exact rfl); (case k1 => k_asm); (case k2 => k_asm); (case k3 => k_asm); (case k4 => k_asm); (case k5 => k_asm); (case k6 => k_is); (case k7 => k_is); (case k8 => k_room); (case k9 => exact BindsTo.of_eq rfl); (case c5 => decide); (case kB => exact locs rfl); (case c2 => exact rfl); (case c3 => exact rfl); (case c4 => exact rfl); k_whole; intro g' L' h' H' FG' F' N' B' X' T'; (try dsimp only); (try k_lift B'); (try k_fold)) | (refine' def_inC ?k1 ?k2 ?k3 ?k4 ?k5 ?kA ?kF ?kK ?k6 ?k7 ?k8 ?k9 ?kB ?kD ?_ ?c2 ?c3 ?c4; (case kA => exact rfl); (case kF => exact rfl); (case kK => exact rfl); (case k1 => k_asm); (case k2 => k_asm); (case k3 => k_asm); (case k4 => k_asm); (case k5 => k_asm); (case k6 => k_is); (case k7 => k_is); (case k8 => k_room); (case k9 => exact BindsTo.of_eq rfl); (case kB => exact rfl); (case kD => decide +kernel); (case c2 => exact rfl); (case c3 => exact rfl); (case c4 => exact rfl); k_whole; intro g' L' h' tk' cells' H' FG' F' N' Y' B' X' T' l1; (try (replace l1 := allLt_of l1)); k_cells Y'; (try simp only [List.cons_append, List.nil_append] at N'); (try dsimp only); (try k_lift B'); (try k_fold))))
  (k_steps; (repeat' ((refine unstop ?_; (first | ((with_reducible show wpAny _ _ (call (Value.ref 148) _) _ _ _); (refine' Ctr.useRow2 (ctr_cleared_row _ _ _ _ _ _ _ _ _ _ _ _ _ _ _ _ _ _ _ _ _ _ _ _ _ _ _ _ _ _ _ _ _ _ _ _ _ _ _ _ _ _ _ ?o1 ?o2 ?o3 ?o4 ?o5 ?o6 ?o7 ?x1 ?x2 ?x3 ?x4 ?x5 ?x6 ?x7 ?x8) ?k1 ?k2 ?k3 ?k4 ?kS ?k5 ?kd ?ku ?kC ?_; (( (case k1 => first | k_asm | fail "use: below"); (case k2 => first | k_asm | fail "use: the frame"); (case k3 => first | k_asm | fail "use: the part"); (case k4 => first | k_asm | fail "use: the ledger"); (case kS => first | lcg_sub | fail "use: what is handed in"); (case k5 => first | k_asm | fail "use: the top"); (case kd => first | k_room | fail "use: room"); (case ku => first | k_units | fail "use: units"); (case kC => first | assumption | fail "use: the table"))); (case x1 => walk_at "frac"); (case x2 => walk_at "frac"); (case x3 => walk_at "frac"); (case x4 => walk_at "frac"); (case x5 => walk_at "frac"); (case x6 => walk_at "frac"); (case x7 => walk_at "frac"); (case x8 => walk_at "frac"); (case o1 => (first | with_reducible assumption | exact ⟨by omega, by omega, by omega, by omega⟩ | fail "use: a bound")); (case o2 => (first | with_reducible assumption | exact ⟨by omega, by omega, by omega, by omega⟩ | fail "use: a bound")); (case o3 => (first | with_reducible assumption | exact ⟨by omega, by omega, by omega, by omega⟩ | fail "use: a bound")); (case o4 => (first | with_reducible assumption | exact ⟨by omega, by omega, by omega, by omega⟩ | fail "use: a bound")); (case o5 => (first | with_reducible assumption | exact ⟨by omega, by omega, by omega, by omega⟩ | fail "use: a bound")); (case o6 => (first | with_reducible assumption | exact ⟨by omega, by omega, by omega, by omega⟩ | fail "use: a bound")); (case o7 => (first | with_reducible assumption | exact ⟨by omega, by omega, by omega, by omega⟩ | fail "use: a bound")); ((intro p9 n9 a9 a8 m9 m8 t9 t8 t7 t6 h9 tk9 F9 N9 P8 P7 P6; (try dsimp only); (try k_fold))))) | ((with_reducible show wpAny _ _ (call (Value.ref 143) [_, Value.int 1 _]) _ _ _); (refine' Ctr.useInt (ctr_pivot1 _ _ _ _ _ _ _ _ _ _ _ _ _ _ ?hX) ?k1 ?k2 ?k3 ?k4 ?kS ?k5 ?kd ?ku ?kC ?_; (( (case k1 => first | k_asm | fail "use: below"); (case k2 => first | k_asm | fail "use: the frame"); (case k3 => first | k_asm | fail "use: the part"); (case k4 => first | k_asm | fail "use: the ledger"); (case kS => first | lcg_sub | fail "use: what is handed in"); (case k5 => first | k_asm | fail "use: the top"); (case kd => first | k_room | fail "use: room"); (case ku => first | k_units | fail "use: units"); (case kC => first | assumption | fail "use: the table"))); (case hX => first | with_reducible assumption | decide | omega); ((intro t9 h9 tk9 F9 N9; (try dsimp only); (try k_fold))))) | ((with_reducible show wpAny _ _ (call (Value.ref 143) [_, Value.int 0 _]) _ _ _); (refine' Ctr.useInt (ctr_pivot0 _ _ _ _ _ _ _ _ _ _ _ _ _ _ ?hX) ?k1 ?k2 ?k3 ?k4 ?kS ?k5 ?kd ?ku ?kC ?_; (( (case k1 => first | k_asm | fail "use: below"); (case k2 => first | k_asm | fail "use: the frame"); (case k3 => first | k_asm | fail "use: the part"); (case k4 => first | k_asm | fail "use: the ledger"); (case kS => first | lcg_sub | fail "use: what is handed in"); (case k5 => first | k_asm | fail "use: the top"); (case kd => first | k_room | fail "use: room"); (case ku => first | k_units | fail "use: units"); (case kC => first | assumption | fail "use: the table"))); (case hX => first | with_reducible assumption | decide | omega); ((intro t9 h9 tk9 F9 N9; (try dsimp only); (try k_fold))))) | ((with_reducible show wpAny _ _ (call (Value.ref 129) _) _ _ _); (refine' Ctr.useTup (ctr_by _ _ _ _ _ _ _ _ _ _ _ _ _ _ _ ?ho ?hp ?hc ?hX ?hY) ?k1 ?k2 ?k3 ?k4 ?kS ?k5 ?kd ?ku ?kC ?_; (( (case k1 => first | k_asm | fail "use: below"); (case k2 => first | k_asm | fail "use: the frame"); (case k3 => first | k_asm | fail "use: the part"); (case k4 => first | k_asm | fail "use: the ledger"); (case kS => first | lcg_sub | fail "use: what is handed in"); (case k5 => first | k_asm | fail "use: the top"); (case kd => first | k_room | fail "use: room"); (case ku => first | k_units | fail "use: units"); (case kC => first | assumption | fail "use: the table"))); (case ho => (first | with_reducible assumption | exact ⟨by omega, by omega, by omega, by omega⟩ | fail "use: a bound")); (case hp => (first | with_reducible assumption | exact ⟨by omega, by omega, by omega, by omega⟩ | fail "use: a bound")); (case hc => first | with_reducible assumption | decide | omega); (case hX => walk_at "frac"); (case hY => walk_at "frac"); ((intro D9 n9 t9 u9 h9 tk9 F9 N9 P9; (try dsimp only); (try k_fold))))) | ((with_reducible show wpAny _ _ (call (Value.ref 115) _) _ _ _); (refine' Ctr.useTup (ctr_times _ _ _ _ _ _ _ _ _ _ _ _ _ _ _ ?ho ?hp ?hX ?hY) ?k1 ?k2 ?k3 ?k4 ?kS ?k5 ?kd ?ku ?kC ?_; (( (case k1 => first | k_asm | fail "use: below"); (case k2 => first | k_asm | fail "use: the frame"); (case k3 => first | k_asm | fail "use: the part"); (case k4 => first | k_asm | fail "use: the ledger"); (case kS => first | lcg_sub | fail "use: what is handed in"); (case k5 => first | k_asm | fail "use: the top"); (case kd => first | k_room | fail "use: room"); (case ku => first | k_units | fail "use: units"); (case kC => first | assumption | fail "use: the table"))); (case ho => (first | with_reducible assumption | exact ⟨by omega, by omega, by omega, by omega⟩ | fail "use: a bound")); (case hp => (first | with_reducible assumption | exact ⟨by omega, by omega, by omega, by omega⟩ | fail "use: a bound")); (case hX => walk_at "frac"); (case hY => walk_at "frac"); ((intro D9 n9 t9 u9 h9 tk9 F9 N9 P9; (try dsimp only); (try k_fold))))))); k_steps)))
  refine unstop (LCg.CompSrc.ledger (by rfl) (by k_asm) (by k_asm) (by k_mem) (by first | size_fits | exact Nat.le_of_ble_eq_true rfl) ?_)
  intro g9
  refine rest_two (V0 := fun v => v = .ref _) (V1 := fun v => v = .ref _) (Z0 := RTup 1 1) (Z1 := RTup b a) (Or.inr ⟨_, by k_mem, rfl, _, rfl⟩) srcAt_mono (fun v h => (Option.some.inj h).symm) (fun v h => (Option.some.inj h).symm) ?_ ?_ ?_
  · intro v I oI C oC D m₂ h tk E' hv hC hx F N o3 ne
    subst hv
    (k_steps; (repeat' ((refine unstop ?_; (first | ((with_reducible show wpAny _ _ (call (Value.ref 148) _) _ _ _); (refine' Ctr.useRow2 (ctr_cleared_row _ _ _ _ _ _ _ _ _ _ _ _ _ _ _ _ _ _ _ _ _ _ _ _ _ _ _ _ _ _ _ _ _ _ _ _ _ _ _ _ _ _ _ ?o1 ?o2 ?o3 ?o4 ?o5 ?o6 ?o7 ?x1 ?x2 ?x3 ?x4 ?x5 ?x6 ?x7 ?x8) ?k1 ?k2 ?k3 ?k4 ?kS ?k5 ?kd ?ku ?kC ?_; (( (case k1 => first | k_asm | fail "use: below"); (case k2 => first | k_asm | fail "use: the frame"); (case k3 => first | k_asm | fail "use: the part"); (case k4 => first | k_asm | fail "use: the ledger"); (case kS => first | lcg_sub | fail "use: what is handed in"); (case k5 => first | k_asm | fail "use: the top"); (case kd => first | k_room | fail "use: room"); (case ku => first | k_units | fail "use: units"); (case kC => first | assumption | fail "use: the table"))); (case x1 => walk_at "frac"); (case x2 => walk_at "frac"); (case x3 => walk_at "frac"); (case x4 => walk_at "frac"); (case x5 => walk_at "frac"); (case x6 => walk_at "frac"); (case x7 => walk_at "frac"); (case x8 => walk_at "frac"); (case o1 => (first | with_reducible assumption | exact ⟨by omega, by omega, by omega, by omega⟩ | fail "use: a bound")); (case o2 => (first | with_reducible assumption | exact ⟨by omega, by omega, by omega, by omega⟩ | fail "use: a bound")); (case o3 => (first | with_reducible assumption | exact ⟨by omega, by omega, by omega, by omega⟩ | fail "use: a bound")); (case o4 => (first | with_reducible assumption | exact ⟨by omega, by omega, by omega, by omega⟩ | fail "use: a bound")); (case o5 => (first | with_reducible assumption | exact ⟨by omega, by omega, by omega, by omega⟩ | fail "use: a bound")); (case o6 => (first | with_reducible assumption | exact ⟨by omega, by omega, by omega, by omega⟩ | fail "use: a bound")); (case o7 => (first | with_reducible assumption | exact ⟨by omega, by omega, by omega, by omega⟩ | fail "use: a bound")); ((intro p9 n9 a9 a8 m9 m8 t9 t8 t7 t6 h9 tk9 F9 N9 P8 P7 P6; (try dsimp only); (try k_fold))))) | ((with_reducible show wpAny _ _ (call (Value.ref 143) [_, Value.int 1 _]) _ _ _); (refine' Ctr.useInt (ctr_pivot1 _ _ _ _ _ _ _ _ _ _ _ _ _ _ ?hX) ?k1 ?k2 ?k3 ?k4 ?kS ?k5 ?kd ?ku ?kC ?_; (( (case k1 => first | k_asm | fail "use: below"); (case k2 => first | k_asm | fail "use: the frame"); (case k3 => first | k_asm | fail "use: the part"); (case k4 => first | k_asm | fail "use: the ledger"); (case kS => first | lcg_sub | fail "use: what is handed in"); (case k5 => first | k_asm | fail "use: the top"); (case kd => first | k_room | fail "use: room"); (case ku => first | k_units | fail "use: units"); (case kC => first | assumption | fail "use: the table"))); (case hX => first | with_reducible assumption | decide | omega); ((intro t9 h9 tk9 F9 N9; (try dsimp only); (try k_fold))))) | ((with_reducible show wpAny _ _ (call (Value.ref 143) [_, Value.int 0 _]) _ _ _); (refine' Ctr.useInt (ctr_pivot0 _ _ _ _ _ _ _ _ _ _ _ _ _ _ ?hX) ?k1 ?k2 ?k3 ?k4 ?kS ?k5 ?kd ?ku ?kC ?_; (( (case k1 => first | k_asm | fail "use: below"); (case k2 => first | k_asm | fail "use: the frame"); (case k3 => first | k_asm | fail "use: the part"); (case k4 => first | k_asm | fail "use: the ledger"); (case kS => first | lcg_sub | fail "use: what is handed in"); (case k5 => first | k_asm | fail "use: the top"); (case kd => first | k_room | fail "use: room"); (case ku => first | k_units | fail "use: units"); (case kC => first | assumption | fail "use: the table"))); (case hX => first | with_reducible assumption | decide | omega); ((intro t9 h9 tk9 F9 N9; (try dsimp only); (try k_fold))))) | ((with_reducible show wpAny _ _ (call (Value.ref 129) _) _ _ _); (refine' Ctr.useTup (ctr_by _ _ _ _ _ _ _ _ _ _ _ _ _ _ _ ?ho ?hp ?hc ?hX ?hY) ?k1 ?k2 ?k3 ?k4 ?kS ?k5 ?kd ?ku ?kC ?_; (( (case k1 => first | k_asm | fail "use: below"); (case k2 => first | k_asm | fail "use: the frame"); (case k3 => first | k_asm | fail "use: the part"); (case k4 => first | k_asm | fail "use: the ledger"); (case kS => first | lcg_sub | fail "use: what is handed in"); (case k5 => first | k_asm | fail "use: the top"); (case kd => first | k_room | fail "use: room"); (case ku => first | k_units | fail "use: units"); (case kC => first | assumption | fail "use: the table"))); (case ho => (first | with_reducible assumption | exact ⟨by omega, by omega, by omega, by omega⟩ | fail "use: a bound")); (case hp => (first | with_reducible assumption | exact ⟨by omega, by omega, by omega, by omega⟩ | fail "use: a bound")); (case hc => first | with_reducible assumption | decide | omega); (case hX => walk_at "frac"); (case hY => walk_at "frac"); ((intro D9 n9 t9 u9 h9 tk9 F9 N9 P9; (try dsimp only); (try k_fold))))) | ((with_reducible show wpAny _ _ (call (Value.ref 115) _) _ _ _); (refine' Ctr.useTup (ctr_times _ _ _ _ _ _ _ _ _ _ _ _ _ _ _ ?ho ?hp ?hX ?hY) ?k1 ?k2 ?k3 ?k4 ?kS ?k5 ?kd ?ku ?kC ?_; (( (case k1 => first | k_asm | fail "use: below"); (case k2 => first | k_asm | fail "use: the frame"); (case k3 => first | k_asm | fail "use: the part"); (case k4 => first | k_asm | fail "use: the ledger"); (case kS => first | lcg_sub | fail "use: what is handed in"); (case k5 => first | k_asm | fail "use: the top"); (case kd => first | k_room | fail "use: room"); (case ku => first | k_units | fail "use: units"); (case kC => first | assumption | fail "use: the table"))); (case ho => (first | with_reducible assumption | exact ⟨by omega, by omega, by omega, by omega⟩ | fail "use: a bound")); (case hp => (first | with_reducible assumption | exact ⟨by omega, by omega, by omega, by omega⟩ | fail "use: a bound")); (case hX => walk_at "frac"); (case hY => walk_at "frac"); ((intro D9 n9 t9 u9 h9 tk9 F9 N9 P9; (try dsimp only); (try k_fold))))))); k_steps)))
    exact add_one1 (by k_asm) (by k_asm) (by assumption) ⟨_, _, _, _, rfl, rfl⟩
  · intro y add v I oI C oC D m₂ h tk E' z ap hv hC hx F N o3 ne
    subst hv
    obtain ⟨q, n, t1, t2, rfl, rfl⟩ := z
    simp only [List.cons_append, List.nil_append] at N
    (k_steps; (repeat' ((refine unstop ?_; (first | ((with_reducible show wpAny _ _ (call (Value.ref 148) _) _ _ _); (refine' Ctr.useRow2 (ctr_cleared_row _ _ _ _ _ _ _ _ _ _ _ _ _ _ _ _ _ _ _ _ _ _ _ _ _ _ _ _ _ _ _ _ _ _ _ _ _ _ _ _ _ _ _ ?o1 ?o2 ?o3 ?o4 ?o5 ?o6 ?o7 ?x1 ?x2 ?x3 ?x4 ?x5 ?x6 ?x7 ?x8) ?k1 ?k2 ?k3 ?k4 ?kS ?k5 ?kd ?ku ?kC ?_; (( (case k1 => first | k_asm | fail "use: below"); (case k2 => first | k_asm | fail "use: the frame"); (case k3 => first | k_asm | fail "use: the part"); (case k4 => first | k_asm | fail "use: the ledger"); (case kS => first | lcg_sub | fail "use: what is handed in"); (case k5 => first | k_asm | fail "use: the top"); (case kd => first | k_room | fail "use: room"); (case ku => first | k_units | fail "use: units"); (case kC => first | assumption | fail "use: the table"))); (case x1 => walk_at "frac"); (case x2 => walk_at "frac"); (case x3 => walk_at "frac"); (case x4 => walk_at "frac"); (case x5 => walk_at "frac"); (case x6 => walk_at "frac"); (case x7 => walk_at "frac"); (case x8 => walk_at "frac"); (case o1 => (first | with_reducible assumption | exact ⟨by omega, by omega, by omega, by omega⟩ | fail "use: a bound")); (case o2 => (first | with_reducible assumption | exact ⟨by omega, by omega, by omega, by omega⟩ | fail "use: a bound")); (case o3 => (first | with_reducible assumption | exact ⟨by omega, by omega, by omega, by omega⟩ | fail "use: a bound")); (case o4 => (first | with_reducible assumption | exact ⟨by omega, by omega, by omega, by omega⟩ | fail "use: a bound")); (case o5 => (first | with_reducible assumption | exact ⟨by omega, by omega, by omega, by omega⟩ | fail "use: a bound")); (case o6 => (first | with_reducible assumption | exact ⟨by omega, by omega, by omega, by omega⟩ | fail "use: a bound")); (case o7 => (first | with_reducible assumption | exact ⟨by omega, by omega, by omega, by omega⟩ | fail "use: a bound")); ((intro p9 n9 a9 a8 m9 m8 t9 t8 t7 t6 h9 tk9 F9 N9 P8 P7 P6; (try dsimp only); (try k_fold))))) | ((with_reducible show wpAny _ _ (call (Value.ref 143) [_, Value.int 1 _]) _ _ _); (refine' Ctr.useInt (ctr_pivot1 _ _ _ _ _ _ _ _ _ _ _ _ _ _ ?hX) ?k1 ?k2 ?k3 ?k4 ?kS ?k5 ?kd ?ku ?kC ?_; (( (case k1 => first | k_asm | fail "use: below"); (case k2 => first | k_asm | fail "use: the frame"); (case k3 => first | k_asm | fail "use: the part"); (case k4 => first | k_asm | fail "use: the ledger"); (case kS => first | lcg_sub | fail "use: what is handed in"); (case k5 => first | k_asm | fail "use: the top"); (case kd => first | k_room | fail "use: room"); (case ku => first | k_units | fail "use: units"); (case kC => first | assumption | fail "use: the table"))); (case hX => first | with_reducible assumption | decide | omega); ((intro t9 h9 tk9 F9 N9; (try dsimp only); (try k_fold))))) | ((with_reducible show wpAny _ _ (call (Value.ref 143) [_, Value.int 0 _]) _ _ _); (refine' Ctr.useInt (ctr_pivot0 _ _ _ _ _ _ _ _ _ _ _ _ _ _ ?hX) ?k1 ?k2 ?k3 ?k4 ?kS ?k5 ?kd ?ku ?kC ?_; (( (case k1 => first | k_asm | fail "use: below"); (case k2 => first | k_asm | fail "use: the frame"); (case k3 => first | k_asm | fail "use: the part"); (case k4 => first | k_asm | fail "use: the ledger"); (case kS => first | lcg_sub | fail "use: what is handed in"); (case k5 => first | k_asm | fail "use: the top"); (case kd => first | k_room | fail "use: room"); (case ku => first | k_units | fail "use: units"); (case kC => first | assumption | fail "use: the table"))); (case hX => first | with_reducible assumption | decide | omega); ((intro t9 h9 tk9 F9 N9; (try dsimp only); (try k_fold))))) | ((with_reducible show wpAny _ _ (call (Value.ref 129) _) _ _ _); (refine' Ctr.useTup (ctr_by _ _ _ _ _ _ _ _ _ _ _ _ _ _ _ ?ho ?hp ?hc ?hX ?hY) ?k1 ?k2 ?k3 ?k4 ?kS ?k5 ?kd ?ku ?kC ?_; (( (case k1 => first | k_asm | fail "use: below"); (case k2 => first | k_asm | fail "use: the frame"); (case k3 => first | k_asm | fail "use: the part"); (case k4 => first | k_asm | fail "use: the ledger"); (case kS => first | lcg_sub | fail "use: what is handed in"); (case k5 => first | k_asm | fail "use: the top"); (case kd => first | k_room | fail "use: room"); (case ku => first | k_units | fail "use: units"); (case kC => first | assumption | fail "use: the table"))); (case ho => (first | with_reducible assumption | exact ⟨by omega, by omega, by omega, by omega⟩ | fail "use: a bound")); (case hp => (first | with_reducible assumption | exact ⟨by omega, by omega, by omega, by omega⟩ | fail "use: a bound")); (case hc => first | with_reducible assumption | decide | omega); (case hX => walk_at "frac"); (case hY => walk_at "frac"); ((intro D9 n9 t9 u9 h9 tk9 F9 N9 P9; (try dsimp only); (try k_fold))))) | ((with_reducible show wpAny _ _ (call (Value.ref 115) _) _ _ _); (refine' Ctr.useTup (ctr_times _ _ _ _ _ _ _ _ _ _ _ _ _ _ _ ?ho ?hp ?hX ?hY) ?k1 ?k2 ?k3 ?k4 ?kS ?k5 ?kd ?ku ?kC ?_; (( (case k1 => first | k_asm | fail "use: below"); (case k2 => first | k_asm | fail "use: the frame"); (case k3 => first | k_asm | fail "use: the part"); (case k4 => first | k_asm | fail "use: the ledger"); (case kS => first | lcg_sub | fail "use: what is handed in"); (case k5 => first | k_asm | fail "use: the top"); (case kd => first | k_room | fail "use: room"); (case ku => first | k_units | fail "use: units"); (case kC => first | assumption | fail "use: the table"))); (case ho => (first | with_reducible assumption | exact ⟨by omega, by omega, by omega, by omega⟩ | fail "use: a bound")); (case hp => (first | with_reducible assumption | exact ⟨by omega, by omega, by omega, by omega⟩ | fail "use: a bound")); (case hX => walk_at "frac"); (case hY => walk_at "frac"); ((intro D9 n9 t9 u9 h9 tk9 F9 N9 P9; (try dsimp only); (try k_fold))))))); k_steps)))
    exact add_one1 (by k_asm) (by k_asm) (by assumption) ⟨_, _, _, _, rfl, rfl⟩
  intro y0 add0 y1 add1 z0 z1 a0 a1 D' h' tk' F' N' oD
  obtain ⟨q, n, t1, t2, rfl, rfl⟩ := z0
  obtain ⟨r', n', t1', t2', rfl, rfl⟩ := z1
  replace a0 := off1_of a0
  replace a1 := off1_of a1
  simp only [List.cons_append, List.nil_append] at N' oD a0 a1
  (k_steps; (repeat' ((refine unstop ?_; (first | ((with_reducible show wpAny _ _ (call (Value.ref 148) _) _ _ _); (refine' Ctr.useRow2 (ctr_cleared_row _ _ _ _ _ _ _ _ _ _ _ _ _ _ _ _ _ _ _ _ _ _ _ _ _ _ _ _ _ _ _ _ _ _ _ _ _ _ _ _ _ _ _ ?o1 ?o2 ?o3 ?o4 ?o5 ?o6 ?o7 ?x1 ?x2 ?x3 ?x4 ?x5 ?x6 ?x7 ?x8) ?k1 ?k2 ?k3 ?k4 ?kS ?k5 ?kd ?ku ?kC ?_; (( (case k1 => first | k_asm | fail "use: below"); (case k2 => first | k_asm | fail "use: the frame"); (case k3 => first | k_asm | fail "use: the part"); (case k4 => first | k_asm | fail "use: the ledger"); (case kS => first | lcg_sub | fail "use: what is handed in"); (case k5 => first | k_asm | fail "use: the top"); (case kd => first | k_room | fail "use: room"); (case ku => first | k_units | fail "use: units"); (case kC => first | assumption | fail "use: the table"))); (case x1 => walk_at "frac"); (case x2 => walk_at "frac"); (case x3 => walk_at "frac"); (case x4 => walk_at "frac"); (case x5 => walk_at "frac"); (case x6 => walk_at "frac"); (case x7 => walk_at "frac"); (case x8 => walk_at "frac"); (case o1 => (first | with_reducible assumption | exact ⟨by omega, by omega, by omega, by omega⟩ | fail "use: a bound")); (case o2 => (first | with_reducible assumption | exact ⟨by omega, by omega, by omega, by omega⟩ | fail "use: a bound")); (case o3 => (first | with_reducible assumption | exact ⟨by omega, by omega, by omega, by omega⟩ | fail "use: a bound")); (case o4 => (first | with_reducible assumption | exact ⟨by omega, by omega, by omega, by omega⟩ | fail "use: a bound")); (case o5 => (first | with_reducible assumption | exact ⟨by omega, by omega, by omega, by omega⟩ | fail "use: a bound")); (case o6 => (first | with_reducible assumption | exact ⟨by omega, by omega, by omega, by omega⟩ | fail "use: a bound")); (case o7 => (first | with_reducible assumption | exact ⟨by omega, by omega, by omega, by omega⟩ | fail "use: a bound")); ((intro p9 n9 a9 a8 m9 m8 t9 t8 t7 t6 h9 tk9 F9 N9 P8 P7 P6; (try dsimp only); (try k_fold))))) | ((with_reducible show wpAny _ _ (call (Value.ref 143) [_, Value.int 1 _]) _ _ _); (refine' Ctr.useInt (ctr_pivot1 _ _ _ _ _ _ _ _ _ _ _ _ _ _ ?hX) ?k1 ?k2 ?k3 ?k4 ?kS ?k5 ?kd ?ku ?kC ?_; (( (case k1 => first | k_asm | fail "use: below"); (case k2 => first | k_asm | fail "use: the frame"); (case k3 => first | k_asm | fail "use: the part"); (case k4 => first | k_asm | fail "use: the ledger"); (case kS => first | lcg_sub | fail "use: what is handed in"); (case k5 => first | k_asm | fail "use: the top"); (case kd => first | k_room | fail "use: room"); (case ku => first | k_units | fail "use: units"); (case kC => first | assumption | fail "use: the table"))); (case hX => first | with_reducible assumption | decide | omega); ((intro t9 h9 tk9 F9 N9; (try dsimp only); (try k_fold))))) | ((with_reducible show wpAny _ _ (call (Value.ref 143) [_, Value.int 0 _]) _ _ _); (refine' Ctr.useInt (ctr_pivot0 _ _ _ _ _ _ _ _ _ _ _ _ _ _ ?hX) ?k1 ?k2 ?k3 ?k4 ?kS ?k5 ?kd ?ku ?kC ?_; (( (case k1 => first | k_asm | fail "use: below"); (case k2 => first | k_asm | fail "use: the frame"); (case k3 => first | k_asm | fail "use: the part"); (case k4 => first | k_asm | fail "use: the ledger"); (case kS => first | lcg_sub | fail "use: what is handed in"); (case k5 => first | k_asm | fail "use: the top"); (case kd => first | k_room | fail "use: room"); (case ku => first | k_units | fail "use: units"); (case kC => first | assumption | fail "use: the table"))); (case hX => first | with_reducible assumption | decide | omega); ((intro t9 h9 tk9 F9 N9; (try dsimp only); (try k_fold))))) | ((with_reducible show wpAny _ _ (call (Value.ref 129) _) _ _ _); (refine' Ctr.useTup (ctr_by _ _ _ _ _ _ _ _ _ _ _ _ _ _ _ ?ho ?hp ?hc ?hX ?hY) ?k1 ?k2 ?k3 ?k4 ?kS ?k5 ?kd ?ku ?kC ?_; (( (case k1 => first | k_asm | fail "use: below"); (case k2 => first | k_asm | fail "use: the frame"); (case k3 => first | k_asm | fail "use: the part"); (case k4 => first | k_asm | fail "use: the ledger"); (case kS => first | lcg_sub | fail "use: what is handed in"); (case k5 => first | k_asm | fail "use: the top"); (case kd => first | k_room | fail "use: room"); (case ku => first | k_units | fail "use: units"); (case kC => first | assumption | fail "use: the table"))); (case ho => (first | with_reducible assumption | exact ⟨by omega, by omega, by omega, by omega⟩ | fail "use: a bound")); (case hp => (first | with_reducible assumption | exact ⟨by omega, by omega, by omega, by omega⟩ | fail "use: a bound")); (case hc => first | with_reducible assumption | decide | omega); (case hX => walk_at "frac"); (case hY => walk_at "frac"); ((intro D9 n9 t9 u9 h9 tk9 F9 N9 P9; (try dsimp only); (try k_fold))))) | ((with_reducible show wpAny _ _ (call (Value.ref 115) _) _ _ _); (refine' Ctr.useTup (ctr_times _ _ _ _ _ _ _ _ _ _ _ _ _ _ _ ?ho ?hp ?hX ?hY) ?k1 ?k2 ?k3 ?k4 ?kS ?k5 ?kd ?ku ?kC ?_; (( (case k1 => first | k_asm | fail "use: below"); (case k2 => first | k_asm | fail "use: the frame"); (case k3 => first | k_asm | fail "use: the part"); (case k4 => first | k_asm | fail "use: the ledger"); (case kS => first | lcg_sub | fail "use: what is handed in"); (case k5 => first | k_asm | fail "use: the top"); (case kd => first | k_room | fail "use: room"); (case ku => first | k_units | fail "use: units"); (case kC => first | assumption | fail "use: the table"))); (case ho => (first | with_reducible assumption | exact ⟨by omega, by omega, by omega, by omega⟩ | fail "use: a bound")); (case hp => (first | with_reducible assumption | exact ⟨by omega, by omega, by omega, by omega⟩ | fail "use: a bound")); (case hX => walk_at "frac"); (case hY => walk_at "frac"); ((intro D9 n9 t9 u9 h9 tk9 F9 N9 P9; (try dsimp only); (try k_fold))))))); k_steps)))
  refine unstop (LCg.CompSrc.ledger (by rfl) (by k_asm) (by k_asm) (by k_mem) (by first | size_fits | exact Nat.le_of_ble_eq_true rfl) ?_)
  intro g9
  refine rest_two (V0 := fun v => v = .ref _) (V1 := fun v => v = .ref _) (Z0 := RTup 0 1) (Z1 := RTup 1 1) (Or.inr ⟨_, by k_mem, rfl, _, rfl⟩) srcAt_mono (fun v h => (Option.some.inj h).symm) (fun v h => (Option.some.inj h).symm) ?_ ?_ ?_
  · intro v I oI C oC D m₂ h tk E' hv hC hx F N o3 ne
    subst hv
    (k_steps; (repeat' ((refine unstop ?_; (first | ((with_reducible show wpAny _ _ (call (Value.ref 148) _) _ _ _); (refine' Ctr.useRow2 (ctr_cleared_row _ _ _ _ _ _ _ _ _ _ _ _ _ _ _ _ _ _ _ _ _ _ _ _ _ _ _ _ _ _ _ _ _ _ _ _ _ _ _ _ _ _ _ ?o1 ?o2 ?o3 ?o4 ?o5 ?o6 ?o7 ?x1 ?x2 ?x3 ?x4 ?x5 ?x6 ?x7 ?x8) ?k1 ?k2 ?k3 ?k4 ?kS ?k5 ?kd ?ku ?kC ?_; (( (case k1 => first | k_asm | fail "use: below"); (case k2 => first | k_asm | fail "use: the frame"); (case k3 => first | k_asm | fail "use: the part"); (case k4 => first | k_asm | fail "use: the ledger"); (case kS => first | lcg_sub | fail "use: what is handed in"); (case k5 => first | k_asm | fail "use: the top"); (case kd => first | k_room | fail "use: room"); (case ku => first | k_units | fail "use: units"); (case kC => first | assumption | fail "use: the table"))); (case x1 => walk_at "frac"); (case x2 => walk_at "frac"); (case x3 => walk_at "frac"); (case x4 => walk_at "frac"); (case x5 => walk_at "frac"); (case x6 => walk_at "frac"); (case x7 => walk_at "frac"); (case x8 => walk_at "frac"); (case o1 => (first | with_reducible assumption | exact ⟨by omega, by omega, by omega, by omega⟩ | fail "use: a bound")); (case o2 => (first | with_reducible assumption | exact ⟨by omega, by omega, by omega, by omega⟩ | fail "use: a bound")); (case o3 => (first | with_reducible assumption | exact ⟨by omega, by omega, by omega, by omega⟩ | fail "use: a bound")); (case o4 => (first | with_reducible assumption | exact ⟨by omega, by omega, by omega, by omega⟩ | fail "use: a bound")); (case o5 => (first | with_reducible assumption | exact ⟨by omega, by omega, by omega, by omega⟩ | fail "use: a bound")); (case o6 => (first | with_reducible assumption | exact ⟨by omega, by omega, by omega, by omega⟩ | fail "use: a bound")); (case o7 => (first | with_reducible assumption | exact ⟨by omega, by omega, by omega, by omega⟩ | fail "use: a bound")); ((intro p9 n9 a9 a8 m9 m8 t9 t8 t7 t6 h9 tk9 F9 N9 P8 P7 P6; (try dsimp only); (try k_fold))))) | ((with_reducible show wpAny _ _ (call (Value.ref 143) [_, Value.int 1 _]) _ _ _); (refine' Ctr.useInt (ctr_pivot1 _ _ _ _ _ _ _ _ _ _ _ _ _ _ ?hX) ?k1 ?k2 ?k3 ?k4 ?kS ?k5 ?kd ?ku ?kC ?_; (( (case k1 => first | k_asm | fail "use: below"); (case k2 => first | k_asm | fail "use: the frame"); (case k3 => first | k_asm | fail "use: the part"); (case k4 => first | k_asm | fail "use: the ledger"); (case kS => first | lcg_sub | fail "use: what is handed in"); (case k5 => first | k_asm | fail "use: the top"); (case kd => first | k_room | fail "use: room"); (case ku => first | k_units | fail "use: units"); (case kC => first | assumption | fail "use: the table"))); (case hX => first | with_reducible assumption | decide | omega); ((intro t9 h9 tk9 F9 N9; (try dsimp only); (try k_fold))))) | ((with_reducible show wpAny _ _ (call (Value.ref 143) [_, Value.int 0 _]) _ _ _); (refine' Ctr.useInt (ctr_pivot0 _ _ _ _ _ _ _ _ _ _ _ _ _ _ ?hX) ?k1 ?k2 ?k3 ?k4 ?kS ?k5 ?kd ?ku ?kC ?_; (( (case k1 => first | k_asm | fail "use: below"); (case k2 => first | k_asm | fail "use: the frame"); (case k3 => first | k_asm | fail "use: the part"); (case k4 => first | k_asm | fail "use: the ledger"); (case kS => first | lcg_sub | fail "use: what is handed in"); (case k5 => first | k_asm | fail "use: the top"); (case kd => first | k_room | fail "use: room"); (case ku => first | k_units | fail "use: units"); (case kC => first | assumption | fail "use: the table"))); (case hX => first | with_reducible assumption | decide | omega); ((intro t9 h9 tk9 F9 N9; (try dsimp only); (try k_fold))))) | ((with_reducible show wpAny _ _ (call (Value.ref 129) _) _ _ _); (refine' Ctr.useTup (ctr_by _ _ _ _ _ _ _ _ _ _ _ _ _ _ _ ?ho ?hp ?hc ?hX ?hY) ?k1 ?k2 ?k3 ?k4 ?kS ?k5 ?kd ?ku ?kC ?_; (( (case k1 => first | k_asm | fail "use: below"); (case k2 => first | k_asm | fail "use: the frame"); (case k3 => first | k_asm | fail "use: the part"); (case k4 => first | k_asm | fail "use: the ledger"); (case kS => first | lcg_sub | fail "use: what is handed in"); (case k5 => first | k_asm | fail "use: the top"); (case kd => first | k_room | fail "use: room"); (case ku => first | k_units | fail "use: units"); (case kC => first | assumption | fail "use: the table"))); (case ho => (first | with_reducible assumption | exact ⟨by omega, by omega, by omega, by omega⟩ | fail "use: a bound")); (case hp => (first | with_reducible assumption | exact ⟨by omega, by omega, by omega, by omega⟩ | fail "use: a bound")); (case hc => first | with_reducible assumption | decide | omega); (case hX => walk_at "frac"); (case hY => walk_at "frac"); ((intro D9 n9 t9 u9 h9 tk9 F9 N9 P9; (try dsimp only); (try k_fold))))) | ((with_reducible show wpAny _ _ (call (Value.ref 115) _) _ _ _); (refine' Ctr.useTup (ctr_times _ _ _ _ _ _ _ _ _ _ _ _ _ _ _ ?ho ?hp ?hX ?hY) ?k1 ?k2 ?k3 ?k4 ?kS ?k5 ?kd ?ku ?kC ?_; (( (case k1 => first | k_asm | fail "use: below"); (case k2 => first | k_asm | fail "use: the frame"); (case k3 => first | k_asm | fail "use: the part"); (case k4 => first | k_asm | fail "use: the ledger"); (case kS => first | lcg_sub | fail "use: what is handed in"); (case k5 => first | k_asm | fail "use: the top"); (case kd => first | k_room | fail "use: room"); (case ku => first | k_units | fail "use: units"); (case kC => first | assumption | fail "use: the table"))); (case ho => (first | with_reducible assumption | exact ⟨by omega, by omega, by omega, by omega⟩ | fail "use: a bound")); (case hp => (first | with_reducible assumption | exact ⟨by omega, by omega, by omega, by omega⟩ | fail "use: a bound")); (case hX => walk_at "frac"); (case hY => walk_at "frac"); ((intro D9 n9 t9 u9 h9 tk9 F9 N9 P9; (try dsimp only); (try k_fold))))))); k_steps)))
    exact add_one1 (by k_asm) (by k_asm) (by assumption) ⟨_, _, _, _, rfl, rfl⟩
  · intro y add v I oI C oC D m₂ h tk E' z ap hv hC hx F N o3 ne
    subst hv
    obtain ⟨q, n, t1, t2, rfl, rfl⟩ := z
    simp only [List.cons_append, List.nil_append] at N
    (k_steps; (repeat' ((refine unstop ?_; (first | ((with_reducible show wpAny _ _ (call (Value.ref 148) _) _ _ _); (refine' Ctr.useRow2 (ctr_cleared_row _ _ _ _ _ _ _ _ _ _ _ _ _ _ _ _ _ _ _ _ _ _ _ _ _ _ _ _ _ _ _ _ _ _ _ _ _ _ _ _ _ _ _ ?o1 ?o2 ?o3 ?o4 ?o5 ?o6 ?o7 ?x1 ?x2 ?x3 ?x4 ?x5 ?x6 ?x7 ?x8) ?k1 ?k2 ?k3 ?k4 ?kS ?k5 ?kd ?ku ?kC ?_; (( (case k1 => first | k_asm | fail "use: below"); (case k2 => first | k_asm | fail "use: the frame"); (case k3 => first | k_asm | fail "use: the part"); (case k4 => first | k_asm | fail "use: the ledger"); (case kS => first | lcg_sub | fail "use: what is handed in"); (case k5 => first | k_asm | fail "use: the top"); (case kd => first | k_room | fail "use: room"); (case ku => first | k_units | fail "use: units"); (case kC => first | assumption | fail "use: the table"))); (case x1 => walk_at "frac"); (case x2 => walk_at "frac"); (case x3 => walk_at "frac"); (case x4 => walk_at "frac"); (case x5 => walk_at "frac"); (case x6 => walk_at "frac"); (case x7 => walk_at "frac"); (case x8 => walk_at "frac"); (case o1 => (first | with_reducible assumption | exact ⟨by omega, by omega, by omega, by omega⟩ | fail "use: a bound")); (case o2 => (first | with_reducible assumption | exact ⟨by omega, by omega, by omega, by omega⟩ | fail "use: a bound")); (case o3 => (first | with_reducible assumption | exact ⟨by omega, by omega, by omega, by omega⟩ | fail "use: a bound")); (case o4 => (first | with_reducible assumption | exact ⟨by omega, by omega, by omega, by omega⟩ | fail "use: a bound")); (case o5 => (first | with_reducible assumption | exact ⟨by omega, by omega, by omega, by omega⟩ | fail "use: a bound")); (case o6 => (first | with_reducible assumption | exact ⟨by omega, by omega, by omega, by omega⟩ | fail "use: a bound")); (case o7 => (first | with_reducible assumption | exact ⟨by omega, by omega, by omega, by omega⟩ | fail "use: a bound")); ((intro p9 n9 a9 a8 m9 m8 t9 t8 t7 t6 h9 tk9 F9 N9 P8 P7 P6; (try dsimp only); (try k_fold))))) | ((with_reducible show wpAny _ _ (call (Value.ref 143) [_, Value.int 1 _]) _ _ _); (refine' Ctr.useInt (ctr_pivot1 _ _ _ _ _ _ _ _ _ _ _ _ _ _ ?hX) ?k1 ?k2 ?k3 ?k4 ?kS ?k5 ?kd ?ku ?kC ?_; (( (case k1 => first | k_asm | fail "use: below"); (case k2 => first | k_asm | fail "use: the frame"); (case k3 => first | k_asm | fail "use: the part"); (case k4 => first | k_asm | fail "use: the ledger"); (case kS => first | lcg_sub | fail "use: what is handed in"); (case k5 => first | k_asm | fail "use: the top"); (case kd => first | k_room | fail "use: room"); (case ku => first | k_units | fail "use: units"); (case kC => first | assumption | fail "use: the table"))); (case hX => first | with_reducible assumption | decide | omega); ((intro t9 h9 tk9 F9 N9; (try dsimp only); (try k_fold))))) | ((with_reducible show wpAny _ _ (call (Value.ref 143) [_, Value.int 0 _]) _ _ _); (refine' Ctr.useInt (ctr_pivot0 _ _ _ _ _ _ _ _ _ _ _ _ _ _ ?hX) ?k1 ?k2 ?k3 ?k4 ?kS ?k5 ?kd ?ku ?kC ?_; (( (case k1 => first | k_asm | fail "use: below"); (case k2 => first | k_asm | fail "use: the frame"); (case k3 => first | k_asm | fail "use: the part"); (case k4 => first | k_asm | fail "use: the ledger"); (case kS => first | lcg_sub | fail "use: what is handed in"); (case k5 => first | k_asm | fail "use: the top"); (case kd => first | k_room | fail "use: room"); (case ku => first | k_units | fail "use: units"); (case kC => first | assumption | fail "use: the table"))); (case hX => first | with_reducible assumption | decide | omega); ((intro t9 h9 tk9 F9 N9; (try dsimp only); (try k_fold))))) | ((with_reducible show wpAny _ _ (call (Value.ref 129) _) _ _ _); (refine' Ctr.useTup (ctr_by _ _ _ _ _ _ _ _ _ _ _ _ _ _ _ ?ho ?hp ?hc ?hX ?hY) ?k1 ?k2 ?k3 ?k4 ?kS ?k5 ?kd ?ku ?kC ?_; (( (case k1 => first | k_asm | fail "use: below"); (case k2 => first | k_asm | fail "use: the frame"); (case k3 => first | k_asm | fail "use: the part"); (case k4 => first | k_asm | fail "use: the ledger"); (case kS => first | lcg_sub | fail "use: what is handed in"); (case k5 => first | k_asm | fail "use: the top"); (case kd => first | k_room | fail "use: room"); (case ku => first | k_units | fail "use: units"); (case kC => first | assumption | fail "use: the table"))); (case ho => (first | with_reducible assumption | exact ⟨by omega, by omega, by omega, by omega⟩ | fail "use: a bound")); (case hp => (first | with_reducible assumption | exact ⟨by omega, by omega, by omega, by omega⟩ | fail "use: a bound")); (case hc => first | with_reducible assumption | decide | omega); (case hX => walk_at "frac"); (case hY => walk_at "frac"); ((intro D9 n9 t9 u9 h9 tk9 F9 N9 P9; (try dsimp only); (try k_fold))))) | ((with_reducible show wpAny _ _ (call (Value.ref 115) _) _ _ _); (refine' Ctr.useTup (ctr_times _ _ _ _ _ _ _ _ _ _ _ _ _ _ _ ?ho ?hp ?hX ?hY) ?k1 ?k2 ?k3 ?k4 ?kS ?k5 ?kd ?ku ?kC ?_; (( (case k1 => first | k_asm | fail "use: below"); (case k2 => first | k_asm | fail "use: the frame"); (case k3 => first | k_asm | fail "use: the part"); (case k4 => first | k_asm | fail "use: the ledger"); (case kS => first | lcg_sub | fail "use: what is handed in"); (case k5 => first | k_asm | fail "use: the top"); (case kd => first | k_room | fail "use: room"); (case ku => first | k_units | fail "use: units"); (case kC => first | assumption | fail "use: the table"))); (case ho => (first | with_reducible assumption | exact ⟨by omega, by omega, by omega, by omega⟩ | fail "use: a bound")); (case hp => (first | with_reducible assumption | exact ⟨by omega, by omega, by omega, by omega⟩ | fail "use: a bound")); (case hX => walk_at "frac"); (case hY => walk_at "frac"); ((intro D9 n9 t9 u9 h9 tk9 F9 N9 P9; (try dsimp only); (try k_fold))))))); k_steps)))
    exact add_one1 (by k_asm) (by k_asm) (by assumption) ⟨_, _, _, _, rfl, rfl⟩
  intro y0 add0 y1 add1 z0 z1 a0 a1 D' h' tk' F' N' oD
  obtain ⟨q, n, t1, t2, rfl, rfl⟩ := z0
  obtain ⟨r', n', t1', t2', rfl, rfl⟩ := z1
  replace a0 := off1_of a0
  replace a1 := off1_of a1
  simp only [List.cons_append, List.nil_append] at N' oD a0 a1
  (k_steps; (repeat' ((refine unstop ?_; (first | ((with_reducible show wpAny _ _ (call (Value.ref 148) _) _ _ _); (refine' Ctr.useRow2 (ctr_cleared_row _ _ _ _ _ _ _ _ _ _ _ _ _ _ _ _ _ _ _ _ _ _ _ _ _ _ _ _ _ _ _ _ _ _ _ _ _ _ _ _ _ _ _ ?o1 ?o2 ?o3 ?o4 ?o5 ?o6 ?o7 ?x1 ?x2 ?x3 ?x4 ?x5 ?x6 ?x7 ?x8) ?k1 ?k2 ?k3 ?k4 ?kS ?k5 ?kd ?ku ?kC ?_; (( (case k1 => first | k_asm | fail "use: below"); (case k2 => first | k_asm | fail "use: the frame"); (case k3 => first | k_asm | fail "use: the part"); (case k4 => first | k_asm | fail "use: the ledger"); (case kS => first | lcg_sub | fail "use: what is handed in"); (case k5 => first | k_asm | fail "use: the top"); (case kd => first | k_room | fail "use: room"); (case ku => first | k_units | fail "use: units"); (case kC => first | assumption | fail "use: the table"))); (case x1 => walk_at "frac"); (case x2 => walk_at "frac"); (case x3 => walk_at "frac"); (case x4 => walk_at "frac"); (case x5 => walk_at "frac"); (case x6 => walk_at "frac"); (case x7 => walk_at "frac"); (case x8 => walk_at "frac"); (case o1 => (first | with_reducible assumption | exact ⟨by omega, by omega, by omega, by omega⟩ | fail "use: a bound")); (case o2 => (first | with_reducible assumption | exact ⟨by omega, by omega, by omega, by omega⟩ | fail "use: a bound")); (case o3 => (first | with_reducible assumption | exact ⟨by omega, by omega, by omega, by omega⟩ | fail "use: a bound")); (case o4 => (first | with_reducible assumption | exact ⟨by omega, by omega, by omega, by omega⟩ | fail "use: a bound")); (case o5 => (first | with_reducible assumption | exact ⟨by omega, by omega, by omega, by omega⟩ | fail "use: a bound")); (case o6 => (first | with_reducible assumption | exact ⟨by omega, by omega, by omega, by omega⟩ | fail "use: a bound")); (case o7 => (first | with_reducible assumption | exact ⟨by omega, by omega, by omega, by omega⟩ | fail "use: a bound")); ((intro p9 n9 a9 a8 m9 m8 t9 t8 t7 t6 h9 tk9 F9 N9 P8 P7 P6; (try dsimp only); (try k_fold))))) | ((with_reducible show wpAny _ _ (call (Value.ref 143) [_, Value.int 1 _]) _ _ _); (refine' Ctr.useInt (ctr_pivot1 _ _ _ _ _ _ _ _ _ _ _ _ _ _ ?hX) ?k1 ?k2 ?k3 ?k4 ?kS ?k5 ?kd ?ku ?kC ?_; (( (case k1 => first | k_asm | fail "use: below"); (case k2 => first | k_asm | fail "use: the frame"); (case k3 => first | k_asm | fail "use: the part"); (case k4 => first | k_asm | fail "use: the ledger"); (case kS => first | lcg_sub | fail "use: what is handed in"); (case k5 => first | k_asm | fail "use: the top"); (case kd => first | k_room | fail "use: room"); (case ku => first | k_units | fail "use: units"); (case kC => first | assumption | fail "use: the table"))); (case hX => first | with_reducible assumption | decide | omega); ((intro t9 h9 tk9 F9 N9; (try dsimp only); (try k_fold))))) | ((with_reducible show wpAny _ _ (call (Value.ref 143) [_, Value.int 0 _]) _ _ _); (refine' Ctr.useInt (ctr_pivot0 _ _ _ _ _ _ _ _ _ _ _ _ _ _ ?hX) ?k1 ?k2 ?k3 ?k4 ?kS ?k5 ?kd ?ku ?kC ?_; (( (case k1 => first | k_asm | fail "use: below"); (case k2 => first | k_asm | fail "use: the frame"); (case k3 => first | k_asm | fail "use: the part"); (case k4 => first | k_asm | fail "use: the ledger"); (case kS => first | lcg_sub | fail "use: what is handed in"); (case k5 => first | k_asm | fail "use: the top"); (case kd => first | k_room | fail "use: room"); (case ku => first | k_units | fail "use: units"); (case kC => first | assumption | fail "use: the table"))); (case hX => first | with_reducible assumption | decide | omega); ((intro t9 h9 tk9 F9 N9; (try dsimp only); (try k_fold))))) | ((with_reducible show wpAny _ _ (call (Value.ref 129) _) _ _ _); (refine' Ctr.useTup (ctr_by _ _ _ _ _ _ _ _ _ _ _ _ _ _ _ ?ho ?hp ?hc ?hX ?hY) ?k1 ?k2 ?k3 ?k4 ?kS ?k5 ?kd ?ku ?kC ?_; (( (case k1 => first | k_asm | fail "use: below"); (case k2 => first | k_asm | fail "use: the frame"); (case k3 => first | k_asm | fail "use: the part"); (case k4 => first | k_asm | fail "use: the ledger"); (case kS => first | lcg_sub | fail "use: what is handed in"); (case k5 => first | k_asm | fail "use: the top"); (case kd => first | k_room | fail "use: room"); (case ku => first | k_units | fail "use: units"); (case kC => first | assumption | fail "use: the table"))); (case ho => (first | with_reducible assumption | exact ⟨by omega, by omega, by omega, by omega⟩ | fail "use: a bound")); (case hp => (first | with_reducible assumption | exact ⟨by omega, by omega, by omega, by omega⟩ | fail "use: a bound")); (case hc => first | with_reducible assumption | decide | omega); (case hX => walk_at "frac"); (case hY => walk_at "frac"); ((intro D9 n9 t9 u9 h9 tk9 F9 N9 P9; (try dsimp only); (try k_fold))))) | ((with_reducible show wpAny _ _ (call (Value.ref 115) _) _ _ _); (refine' Ctr.useTup (ctr_times _ _ _ _ _ _ _ _ _ _ _ _ _ _ _ ?ho ?hp ?hX ?hY) ?k1 ?k2 ?k3 ?k4 ?kS ?k5 ?kd ?ku ?kC ?_; (( (case k1 => first | k_asm | fail "use: below"); (case k2 => first | k_asm | fail "use: the frame"); (case k3 => first | k_asm | fail "use: the part"); (case k4 => first | k_asm | fail "use: the ledger"); (case kS => first | lcg_sub | fail "use: what is handed in"); (case k5 => first | k_asm | fail "use: the top"); (case kd => first | k_room | fail "use: room"); (case ku => first | k_units | fail "use: units"); (case kC => first | assumption | fail "use: the table"))); (case ho => (first | with_reducible assumption | exact ⟨by omega, by omega, by omega, by omega⟩ | fail "use: a bound")); (case hp => (first | with_reducible assumption | exact ⟨by omega, by omega, by omega, by omega⟩ | fail "use: a bound")); (case hX => walk_at "frac"); (case hY => walk_at "frac"); ((intro D9 n9 t9 u9 h9 tk9 F9 N9 P9; (try dsimp only); (try k_fold))))))); k_steps)))
  all_goals exact ret_add hret (by k_asm) (by k_asm) (by (exact kept_of (by assumption) (by assumption) (by assumption))) [(_, tupOf #[.ref _, .ref _] _), (_, tupOf #[.int 1 _, .int 1 _] _)] (by lcg_sub) (apart_cons (by walk_at "ctr off") (apart1 (by walk_at "ctr off"))) ⟨_, _, _, _, _, _, _, rfl, rfl⟩
end
theorem walk_off_B9b : True := by
  w_top off
  trivial
-- B9b
section
local macro_rules | `(tactic| walk_at "no such key 0") => `(tactic| skip)
open PySem PySem.W PyProof.Rows
set_option linter.unusedVariables false
set_option maxRecDepth 100000
set_option maxHeartbeats 1500000
theorem ctr_solved0 (w : World) (r p0 p1 u0 u1 u2 u3 : Addr) (b : Int) (k0 k1 k2 k3 k4 k5 k6 k7 : Tok) (n0 n1 n2 n3 n4 n5 n6 : Nat) (hb : 0 ≤ b) (hb' : b ≤ 30) :
    CtrR w 20 153 [.ref r] [(r, listOf #[.ref p0, .ref p1] n0), (p0, listOf #[.ref u0, .ref u1] n1), (p1, listOf #[.ref u2, .ref u3] n2), (u0, tupOf #[.int 1 k0, .int 1 k1] n3), (u1, tupOf #[.int b k2, .int 1 k3] n4), (u2, tupOf #[.int 0 k4, .int 1 k5] n5), (u3, tupOf #[.int 1 k6, .int 1 k7] n6)] RSolved := by
  have okB : Ok b 1 := ⟨by omega, by omega, by omega, by omega⟩
  have ok1 : Ok 1 1 := ⟨by omega, by omega, by omega, by omega⟩
  have ok0 : Ok 0 1 := ⟨by omega, by omega, by omega, by omega⟩
  unfold CtrR Ctr; k_fill
  intro p loose mean mg mb dp un gd cn nms9 ig9 ic9 mo9 a9 ccd cl outer A₀ base h₀ L m s Q E B F X N T hdp hun hC hret
  refine wpAny_call ?_
  (k_dflt (first | (refine' def_in ?k1 ?k2 ?k3 ?k4 ?k5 ?kA ?kF ?kK ?k6 ?k7 ?k8 ?k9 ?kB ?_ ?c2 ?c3 ?c4 ?c5; (case kA => exact rfl); (case kF => exact rfl); (case kK => exact rfl); (case k1 => k_asm); (case k2 => k_asm); (case k3 => k_asm); (case k4 => k_asm); (case k5 => k_asm); (case k6 => k_is); (case k7 => k_is); (case k8 => k_room); (case k9 => exact BindsTo.of_eq rfl); (case c5 => decide); (case kB => exact locs rfl); (case c2 => exact rfl); (case c3 => exact rfl); (case c4 => exact rfl); k_whole; intro g' L' h' H' FG' F' N' B' X' T'; (try dsimp only); (try k_lift B'); (try k_fold)) | (refine' def_inC ?k1 ?k2 ?k3 ?k4 ?k5 ?kA ?kF ?kK ?k6 ?k7 ?k8 ?k9 ?kB ?kD ?_ ?c2 ?c3 ?c4; (case kA => exact rfl); (case kF => exact rfl); (case kK => exact rfl); (case k1 => k_asm); (case k2 => k_asm); (case k3 => k_asm); (case k4 => k_asm); (case k5 => k_asm); (case k6 => k_is); (case k7 => k_is); (case k8 => k_room); (case k9 => exact BindsTo.of_eq rfl); (case kB => exact rfl); (case kD => decide +kernel); (case c2 => exact rfl); (case c3 => exact rfl); (case c4 => exact rfl); k_whole; intro g' L' h' tk' cells' H' FG' F' N' Y' B' X' T' l1; (try (replace l1 := allLt_of l1)); k_cells Y'; (try simp only [List.cons_append, List.nil_append] at N'); (try dsimp only); (try k_lift B'); (try k_fold))))
  (k_steps; (repeat' ((refine unstop ?_; (first | ((with_reducible show wpAny _ _ (call (Value.ref 148) _) _ _ _); (refine' Ctr.useRow2 (ctr_cleared_row _ _ _ _ _ _ _ _ _ _ _ _ _ _ _ _ _ _ _ _ _ _ _ _ _ _ _ _ _ _ _ _ _ _ _ _ _ _ _ _ _ _ _ ?o1 ?o2 ?o3 ?o4 ?o5 ?o6 ?o7 ?x1 ?x2 ?x3 ?x4 ?x5 ?x6 ?x7 ?x8) ?k1 ?k2 ?k3 ?k4 ?kS ?k5 ?kd ?ku ?kC ?_; (( (case k1 => first | k_asm | fail "use: below"); (case k2 => first | k_asm | fail "use: the frame"); (case k3 => first | k_asm | fail "use: the part"); (case k4 => first | k_asm | fail "use: the ledger"); (case kS => first | lcg_sub | fail "use: what is handed in"); (case k5 => first | k_asm | fail "use: the top"); (case kd => first | k_room | fail "use: room"); (case ku => first | k_units | fail "use: units"); (case kC => first | assumption | fail "use: the table"))); (case x1 => walk_at "frac"); (case x2 => walk_at "frac"); (case x3 => walk_at "frac"); (case x4 => walk_at "frac"); (case x5 => walk_at "frac"); (case x6 => walk_at "frac"); (case x7 => walk_at "frac"); (case x8 => walk_at "frac"); (case o1 => (first | with_reducible assumption | exact ⟨by omega, by omega, by omega, by omega⟩ | fail "use: a bound")); (case o2 => (first | with_reducible assumption | exact ⟨by omega, by omega, by omega, by omega⟩ | fail "use: a bound")); (case o3 => (first | with_reducible assumption | exact ⟨by omega, by omega, by omega, by omega⟩ | fail "use: a bound")); (case o4 => (first | with_reducible assumption | exact ⟨by omega, by omega, by omega, by omega⟩ | fail "use: a bound")); (case o5 => (first | with_reducible assumption | exact ⟨by omega, by omega, by omega, by omega⟩ | fail "use: a bound")); (case o6 => (first | with_reducible assumption | exact ⟨by omega, by omega, by omega, by omega⟩ | fail "use: a bound")); (case o7 => (first | with_reducible assumption | exact ⟨by omega, by omega, by omega, by omega⟩ | fail "use: a bound")); ((intro p9 n9 a9 a8 m9 m8 t9 t8 t7 t6 h9 tk9 F9 N9 P8 P7 P6; (try dsimp only); (try k_fold))))) | ((with_reducible show wpAny _ _ (call (Value.ref 143) [_, Value.int 1 _]) _ _ _); (refine' Ctr.useInt (ctr_pivot1 _ _ _ _ _ _ _ _ _ _ _ _ _ _ ?hX) ?k1 ?k2 ?k3 ?k4 ?kS ?k5 ?kd ?ku ?kC ?_; (( (case k1 => first | k_asm | fail "use: below"); (case k2 => first | k_asm | fail "use: the frame"); (case k3 => first | k_asm | fail "use: the part"); (case k4 => first | k_asm | fail "use: the ledger"); (case kS => first | lcg_sub | fail "use: what is handed in"); (case k5 => first | k_asm | fail "use: the top"); (case kd => first | k_room | fail "use: room"); (case ku => first | k_units | fail "use: units"); (case kC => first | assumption | fail "use: the table"))); (case hX => first | with_reducible assumption | decide | omega); ((intro t9 h9 tk9 F9 N9; (try dsimp only); (try k_fold))))) | ((with_reducible show wpAny _ _ (call (Value.ref 143) [_, Value.int 0 _]) _ _ _); (refine' Ctr.useInt (ctr_pivot0 _ _ _ _ _ _ _ _ _ _ _ _ _ _ ?hX) ?k1 ?k2 ?k3 ?k4 ?kS ?k5 ?kd ?ku ?kC ?_; (( (case k1 => first | k_asm | fail "use: below"); (case k2 => first | k_asm | fail "use: the frame"); (case k3 => first | k_asm | fail "use: the part"); (case k4 => first | k_asm | fail "use: the ledger"); (case kS => first | lcg_sub | fail "use: what is handed in"); (case k5 => first | k_asm | fail "use: the top"); (case kd => first | k_room | fail "use: room"); (case ku => first | k_units | fail "use: units"); (case kC => first | assumption | fail "use: the table"))); (case hX => first | with_reducible assumption | decide | omega); ((intro t9 h9 tk9 F9 N9; (try dsimp only); (try k_fold))))) | ((with_reducible show wpAny _ _ (call (Value.ref 129) _) _ _ _); (refine' Ctr.useTup (ctr_by _ _ _ _ _ _ _ _ _ _ _ _ _ _ _ ?ho ?hp ?hc ?hX ?hY) ?k1 ?k2 ?k3 ?k4 ?kS ?k5 ?kd ?ku ?kC ?_; (( (case k1 => first | k_asm | fail "use: below"); (case k2 => first | k_asm | fail "use: the frame"); (case k3 => first | k_asm | fail "use: the part"); (case k4 => first | k_asm | fail "use: the ledger"); (case kS => first | lcg_sub | fail "use: what is handed in"); (case k5 => first | k_asm | fail "use: the top"); (case kd => first | k_room | fail "use: room"); (case ku => first | k_units | fail "use: units"); (case kC => first | assumption | fail "use: the table"))); (case ho => (first | with_reducible assumption | exact ⟨by omega, by omega, by omega, by omega⟩ | fail "use: a bound")); (case hp => (first | with_reducible assumption | exact ⟨by omega, by omega, by omega, by omega⟩ | fail "use: a bound")); (case hc => first | with_reducible assumption | decide | omega); (case hX => walk_at "frac"); (case hY => walk_at "frac"); ((intro D9 n9 t9 u9 h9 tk9 F9 N9 P9; (try dsimp only); (try k_fold))))) | ((with_reducible show wpAny _ _ (call (Value.ref 115) _) _ _ _); (refine' Ctr.useTup (ctr_times _ _ _ _ _ _ _ _ _ _ _ _ _ _ _ ?ho ?hp ?hX ?hY) ?k1 ?k2 ?k3 ?k4 ?kS ?k5 ?kd ?ku ?kC ?_; (( (case k1 => first | k_asm | fail "use: below"); (case k2 => first | k_asm | fail "use: the frame"); (case k3 => first | k_asm | fail "use: the part"); (case k4 => first | k_asm | fail "use: the ledger"); (case kS => first | lcg_sub | fail "use: what is handed in"); (case k5 => first | k_asm | fail "use: the top"); (case kd => first | k_room | fail "use: room"); (case ku => first | k_units | fail "use: units"); (case kC => first | assumption | fail "use: the table"))); (case ho => (first | with_reducible assumption | exact ⟨by omega, by omega, by omega, by omega⟩ | fail "use: a bound")); (case hp => (first | with_reducible assumption | exact ⟨by omega, by omega, by omega, by omega⟩ | fail "use: a bound")); (case hX => walk_at "frac"); (case hY => walk_at "frac"); ((intro D9 n9 t9 u9 h9 tk9 F9 N9 P9; (try dsimp only); (try k_fold))))))); k_steps)))
  refine unstop (LCg.CompSrc.ledger (by rfl) (by k_asm) (by k_asm) (by k_mem) (by first | size_fits | exact Nat.le_of_ble_eq_true rfl) ?_)
  intro g9
  refine rest_two (V0 := fun v => v = .ref _) (V1 := fun v => v = .ref _) (Z0 := RTup 1 1) (Z1 := RTup b 1) (Or.inr ⟨_, by k_mem, rfl, _, rfl⟩) srcAt_mono (fun v h => (Option.some.inj h).symm) (fun v h => (Option.some.inj h).symm) ?_ ?_ ?_
  · intro v I oI C oC D m₂ h tk E' hv hC hx F N o3 ne
    subst hv
    (k_steps; (repeat' ((refine unstop ?_; (first | ((with_reducible show wpAny _ _ (call (Value.ref 148) _) _ _ _); (refine' Ctr.useRow2 (ctr_cleared_row _ _ _ _ _ _ _ _ _ _ _ _ _ _ _ _ _ _ _ _ _ _ _ _ _ _ _ _ _ _ _ _ _ _ _ _ _ _ _ _ _ _ _ ?o1 ?o2 ?o3 ?o4 ?o5 ?o6 ?o7 ?x1 ?x2 ?x3 ?x4 ?x5 ?x6 ?x7 ?x8) ?k1 ?k2 ?k3 ?k4 ?kS ?k5 ?kd ?ku ?kC ?_; (( (case k1 => first | k_asm | fail "use: below"); (case k2 => first | k_asm | fail "use: the frame"); (case k3 => first | k_asm | fail "use: the part"); (case k4 => first | k_asm | fail "use: the ledger"); (case kS => first | lcg_sub | fail "use: what is handed in"); (case k5 => first | k_asm | fail "use: the top"); (case kd => first | k_room | fail "use: room"); (case ku => first | k_units | fail "use: units"); (case kC => first | assumption | fail "use: the table"))); (case x1 => walk_at "frac"); (case x2 => walk_at "frac"); (case x3 => walk_at "frac"); (case x4 => walk_at "frac"); (case x5 => walk_at "frac"); (case x6 => walk_at "frac"); (case x7 => walk_at "frac"); (case x8 => walk_at "frac"); (case o1 => (first | with_reducible assumption | exact ⟨by omega, by omega, by omega, by omega⟩ | fail "use: a bound")); (case o2 => (first | with_reducible assumption | exact ⟨by omega, by omega, by omega, by omega⟩ | fail "use: a bound")); (case o3 => (first | with_reducible assumption | exact ⟨by omega, by omega, by omega, by omega⟩ | fail "use: a bound")); (case o4 => (first | with_reducible assumption | exact ⟨by omega, by omega, by omega, by omega⟩ | fail "use: a bound")); (case o5 => (first | with_reducible assumption | exact ⟨by omega, by omega, by omega, by omega⟩ | fail "use: a bound")); (case o6 => (first | with_reducible assumption | exact ⟨by omega, by omega, by omega, by omega⟩ | fail "use: a bound")); (case o7 => (first | with_reducible assumption | exact ⟨by omega, by omega, by omega, by omega⟩ | fail "use: a bound")); ((intro p9 n9 a9 a8 m9 m8 t9 t8 t7 t6 h9 tk9 F9 N9 P8 P7 P6; (try dsimp only); (try k_fold))))) | ((with_reducible show wpAny _ _ (call (Value.ref 143) [_, Value.int 1 _]) _ _ _); (refine' Ctr.useInt (ctr_pivot1 _ _ _ _ _ _ _ _ _ _ _ _ _ _ ?hX) ?k1 ?k2 ?k3 ?k4 ?kS ?k5 ?kd ?ku ?kC ?_; (( (case k1 => first | k_asm | fail "use: below"); (case k2 => first | k_asm | fail "use: the frame"); (case k3 => first | k_asm | fail "use: the part"); (case k4 => first | k_asm | fail "use: the ledger"); (case kS => first | lcg_sub | fail "use: what is handed in"); (case k5 => first | k_asm | fail "use: the top"); (case kd => first | k_room | fail "use: room"); (case ku => first | k_units | fail "use: units"); (case kC => first | assumption | fail "use: the table"))); (case hX => first | with_reducible assumption | decide | omega); ((intro t9 h9 tk9 F9 N9; (try dsimp only); (try k_fold))))) | ((with_reducible show wpAny _ _ (call (Value.ref 143) [_, Value.int 0 _]) _ _ _); (refine' Ctr.useInt (ctr_pivot0 _ _ _ _ _ _ _ _ _ _ _ _ _ _ ?hX) ?k1 ?k2 ?k3 ?k4 ?kS ?k5 ?kd ?ku ?kC ?_; (( (case k1 => first | k_asm | fail "use: below"); (case k2 => first | k_asm | fail "use: the frame"); (case k3 => first | k_asm | fail "use: the part"); (case k4 => first | k_asm | fail "use: the ledger"); (case kS => first | lcg_sub | fail "use: what is handed in"); (case k5 => first | k_asm | fail "use: the top"); (case kd => first | k_room | fail "use: room"); (case ku => first | k_units | fail "use: units"); (case kC => first | assumption | fail "use: the table"))); (case hX => first | with_reducible assumption | decide | omega); ((intro t9 h9 tk9 F9 N9; (try dsimp only); (try k_fold))))) | ((with_reducible show wpAny _ _ (call (Value.ref 129) _) _ _ _); (refine' Ctr.useTup (ctr_by _ _ _ _ _ _ _ _ _ _ _ _ _ _ _ ?ho ?hp ?hc ?hX ?hY) ?k1 ?k2 ?k3 ?k4 ?kS ?k5 ?kd ?ku ?kC ?_; (( (case k1 => first | k_asm | fail "use: below"); (case k2 => first | k_asm | fail "use: the frame"); (case k3 => first | k_asm | fail "use: the part"); (case k4 => first | k_asm | fail "use: the ledger"); (case kS => first | lcg_sub | fail "use: what is handed in"); (case k5 => first | k_asm | fail "use: the top"); (case kd => first | k_room | fail "use: room"); (case ku => first | k_units | fail "use: units"); (case kC => first | assumption | fail "use: the table"))); (case ho => (first | with_reducible assumption | exact ⟨by omega, by omega, by omega, by omega⟩ | fail "use: a bound")); (case hp => (first | with_reducible assumption | exact ⟨by omega, by omega, by omega, by omega⟩ | fail "use: a bound")); (case hc => first | with_reducible assumption | decide | omega); (case hX => walk_at "frac"); (case hY => walk_at "frac"); ((intro D9 n9 t9 u9 h9 tk9 F9 N9 P9; (try dsimp only); (try k_fold))))) | ((with_reducible show wpAny _ _ (call (Value.ref 115) _) _ _ _); (refine' Ctr.useTup (ctr_times _ _ _ _ _ _ _ _ _ _ _ _ _ _ _ ?ho ?hp ?hX ?hY) ?k1 ?k2 ?k3 ?k4 ?kS ?k5 ?kd ?ku ?kC ?_; (( (case k1 => first | k_asm | fail "use: below"); (case k2 => first | k_asm | fail "use: the frame"); (case k3 => first | k_asm | fail "use: the part"); (case k4 => first | k_asm | fail "use: the ledger"); (case kS => first | lcg_sub | fail "use: what is handed in"); (case k5 => first | k_asm | fail "use: the top"); (case kd => first | k_room | fail "use: room"); (case ku => first | k_units | fail "use: units"); (case kC => first | assumption | fail "use: the table"))); (case ho => (first | with_reducible assumption | exact ⟨by omega, by omega, by omega, by omega⟩ | fail "use: a bound")); (case hp => (first | with_reducible assumption | exact ⟨by omega, by omega, by omega, by omega⟩ | fail "use: a bound")); (case hX => walk_at "frac"); (case hY => walk_at "frac"); ((intro D9 n9 t9 u9 h9 tk9 F9 N9 P9; (try dsimp only); (try k_fold))))))); k_steps)))
    exact add_one1 (by k_asm) (by k_asm) (by assumption) ⟨_, _, _, _, rfl, rfl⟩
  · intro y add v I oI C oC D m₂ h tk E' z ap hv hC hx F N o3 ne
    subst hv
    obtain ⟨q, n, t1, t2, rfl, rfl⟩ := z
    simp only [List.cons_append, List.nil_append] at N
    (k_steps; (repeat' ((refine unstop ?_; (first | ((with_reducible show wpAny _ _ (call (Value.ref 148) _) _ _ _); (refine' Ctr.useRow2 (ctr_cleared_row _ _ _ _ _ _ _ _ _ _ _ _ _ _ _ _ _ _ _ _ _ _ _ _ _ _ _ _ _ _ _ _ _ _ _ _ _ _ _ _ _ _ _ ?o1 ?o2 ?o3 ?o4 ?o5 ?o6 ?o7 ?x1 ?x2 ?x3 ?x4 ?x5 ?x6 ?x7 ?x8) ?k1 ?k2 ?k3 ?k4 ?kS ?k5 ?kd ?ku ?kC ?_; (( (case k1 => first | k_asm | fail "use: below"); (case k2 => first | k_asm | fail "use: the frame"); (case k3 => first | k_asm | fail "use: the part"); (case k4 => first | k_asm | fail "use: the ledger"); (case kS => first | lcg_sub | fail "use: what is handed in"); (case k5 => first | k_asm | fail "use: the top"); (case kd => first | k_room | fail "use: room"); (case ku => first | k_units | fail "use: units"); (case kC => first | assumption | fail "use: the table"))); (case x1 => walk_at "frac"); (case x2 => walk_at "frac"); (case x3 => walk_at "frac"); (case x4 => walk_at "frac"); (case x5 => walk_at "frac"); (case x6 => walk_at "frac"); (case x7 => walk_at "frac"); (case x8 => walk_at "frac"); (case o1 => (first | with_reducible assumption | exact ⟨by omega, by omega, by omega, by omega⟩ | fail "use: a bound")); (case o2 => (first | with_reducible assumption | exact ⟨by omega, by omega, by omega, by omega⟩ | fail "use: a bound")); (case o3 => (first | with_reducible assumption | exact ⟨by omega, by omega, by omega, by omega⟩ | fail "use: a bound")); (case o4 => (first | with_reducible assumption | exact ⟨by omega, by omega, by omega, by omega⟩ | fail "use: a bound")); (case o5 => (first | with_reducible assumption | exact ⟨by omega, by omega, by omega, by omega⟩ | fail "use: a bound")); (case o6 => (first | with_reducible assumption | exact ⟨by omega, by omega, by omega, by omega⟩ | fail "use: a bound")); (case o7 => (first | with_reducible assumption | exact ⟨by omega, by omega, by omega, by omega⟩ | fail "use: a bound")); ((intro p9 n9 a9 a8 m9 m8 t9 t8 t7 t6 h9 tk9 F9 N9 P8 P7 P6; (try dsimp only); (try k_fold))))) | ((with_reducible show wpAny _ _ (call (Value.ref 143) [_, Value.int 1 _]) _ _ _); (refine' Ctr.useInt (ctr_pivot1 _ _ _ _ _ _ _ _ _ _ _ _ _ _ ?hX) ?k1 ?k2 ?k3 ?k4 ?kS ?k5 ?kd ?ku ?kC ?_; (( (case k1 => first | k_asm | fail "use: below"); (case k2 => first | k_asm | fail "use: the frame"); (case k3 => first | k_asm | fail "use: the part"); (case k4 => first | k_asm | fail "use: the ledger"); (case kS => first | lcg_sub | fail "use: what is handed in"); (case k5 => first | k_asm | fail "use: the top"); (case kd => first | k_room | fail "use: room"); (case ku => first | k_units | fail "use: units"); (case kC => first | assumption | fail "use: the table"))); (case hX => first | with_reducible assumption | decide | omega); ((intro t9 h9 tk9 F9 N9; (try dsimp only); (try k_fold))))) | ((with_reducible show wpAny _ _ (call (Value.ref 143) [_, Value.int 0 _]) _ _ _); (refine' Ctr.useInt (ctr_pivot0 _ _ _ _ _ _ _ _ _ _ _ _ _ _ ?hX) ?k1 ?k2 ?k3 ?k4 ?kS ?k5 ?kd ?ku ?kC ?_; (( (case k1 => first | k_asm | fail "use: below"); (case k2 => first | k_asm | fail "use: the frame"); (case k3 => first | k_asm | fail "use: the part"); (case k4 => first | k_asm | fail "use: the ledger"); (case kS => first | lcg_sub | fail "use: what is handed in"); (case k5 => first | k_asm | fail "use: the top"); (case kd => first | k_room | fail "use: room"); (case ku => first | k_units | fail "use: units"); (case kC => first | assumption | fail "use: the table"))); (case hX => first | with_reducible assumption | decide | omega); ((intro t9 h9 tk9 F9 N9; (try dsimp only); (try k_fold))))) | ((with_reducible show wpAny _ _ (call (Value.ref 129) _) _ _ _); (refine' Ctr.useTup (ctr_by _ _ _ _ _ _ _ _ _ _ _ _ _ _ _ ?ho ?hp ?hc ?hX ?hY) ?k1 ?k2 ?k3 ?k4 ?kS ?k5 ?kd ?ku ?kC ?_; (( (case k1 => first | k_asm | fail "use: below"); (case k2 => first | k_asm | fail "use: the frame"); (case k3 => first | k_asm | fail "use: the part"); (case k4 => first | k_asm | fail "use: the ledger"); (case kS => first | lcg_sub | fail "use: what is handed in"); (case k5 => first | k_asm | fail "use: the top"); (case kd => first | k_room | fail "use: room"); (case ku => first | k_units | fail "use: units"); (case kC => first | assumption | fail "use: the table"))); (case ho => (first | with_reducible assumption | exact ⟨by omega, by omega, by omega, by omega⟩ | fail "use: a bound")); (case hp => (first | with_reducible assumption | exact ⟨by omega, by omega, by omega, by omega⟩ | fail "use: a bound")); (case hc => first | with_reducible assumption | decide | omega); (case hX => walk_at "frac"); (case hY => walk_at "frac"); ((intro D9 n9 t9 u9 h9 tk9 F9 N9 P9; (try dsimp only); (try k_fold))))) | ((with_reducible show wpAny _ _ (call (Value.ref 115) _) _ _ _); (refine' Ctr.useTup (ctr_times _ _ _ _ _ _ _ _ _ _ _ _ _ _ _ ?ho ?hp ?hX ?hY) ?k1 ?k2 ?k3 ?k4 ?kS ?k5 ?kd ?ku ?kC ?_; (( (case k1 => first | k_asm | fail "use: below"); (case k2 => first | k_asm | fail "use: the frame"); (case k3 => first | k_asm | fail "use: the part"); (case k4 => first | k_asm | fail "use: the ledger"); (case kS => first | lcg_sub | fail "use: what is handed in"); (case k5 => first | k_asm | fail "use: the top"); (case kd => first | k_room | fail "use: room"); (case ku => first | k_units | fail "use: units"); (case kC => first | assumption | fail "use: the table"))); (case ho => (first | with_reducible assumption | exact ⟨by omega, by omega, by omega, by omega⟩ | fail "use: a bound")); (case hp => (first | with_reducible assumption | exact ⟨by omega, by omega, by omega, by omega⟩ | fail "use: a bound")); (case hX => walk_at "frac"); (case hY => walk_at "frac"); ((intro D9 n9 t9 u9 h9 tk9 F9 N9 P9; (try dsimp only); (try k_fold))))))); k_steps)))
    exact add_one1 (by k_asm) (by k_asm) (by assumption) ⟨_, _, _, _, rfl, rfl⟩
  intro y0 add0 y1 add1 z0 z1 a0 a1 D' h' tk' F' N' oD
  obtain ⟨q, n, t1, t2, rfl, rfl⟩ := z0
  obtain ⟨r', n', t1', t2', rfl, rfl⟩ := z1
  replace a0 := off1_of a0
  replace a1 := off1_of a1
  simp only [List.cons_append, List.nil_append] at N' oD a0 a1
  (k_steps; (repeat' ((refine unstop ?_; (first | ((with_reducible show wpAny _ _ (call (Value.ref 148) _) _ _ _); (refine' Ctr.useRow2 (ctr_cleared_row _ _ _ _ _ _ _ _ _ _ _ _ _ _ _ _ _ _ _ _ _ _ _ _ _ _ _ _ _ _ _ _ _ _ _ _ _ _ _ _ _ _ _ ?o1 ?o2 ?o3 ?o4 ?o5 ?o6 ?o7 ?x1 ?x2 ?x3 ?x4 ?x5 ?x6 ?x7 ?x8) ?k1 ?k2 ?k3 ?k4 ?kS ?k5 ?kd ?ku ?kC ?_; (( (case k1 => first | k_asm | fail "use: below"); (case k2 => first | k_asm | fail "use: the frame"); (case k3 => first | k_asm | fail "use: the part"); (case k4 => first | k_asm | fail "use: the ledger"); (case kS => first | lcg_sub | fail "use: what is handed in"); (case k5 => first | k_asm | fail "use: the top"); (case kd => first | k_room | fail "use: room"); (case ku => first | k_units | fail "use: units"); (case kC => first | assumption | fail "use: the table"))); (case x1 => walk_at "frac"); (case x2 => walk_at "frac"); (case x3 => walk_at "frac"); (case x4 => walk_at "frac"); (case x5 => walk_at "frac"); (case x6 => walk_at "frac"); (case x7 => walk_at "frac"); (case x8 => walk_at "frac"); (case o1 => (first | with_reducible assumption | exact ⟨by omega, by omega, by omega, by omega⟩ | fail "use: a bound")); (case o2 => (first | with_reducible assumption | exact ⟨by omega, by omega, by omega, by omega⟩ | fail "use: a bound")); (case o3 => (first | with_reducible assumption | exact ⟨by omega, by omega, by omega, by omega⟩ | fail "use: a bound")); (case o4 => (first | with_reducible assumption | exact ⟨by omega, by omega, by omega, by omega⟩ | fail "use: a bound")); (case o5 => (first | with_reducible assumption | exact ⟨by omega, by omega, by omega, by omega⟩ | fail "use: a bound")); (case o6 => (first | with_reducible assumption | exact ⟨by omega, by omega, by omega, by omega⟩ | fail "use: a bound")); (case o7 => (first | with_reducible assumption | exact ⟨by omega, by omega, by omega, by omega⟩ | fail "use: a bound")); ((intro p9 n9 a9 a8 m9 m8 t9 t8 t7 t6 h9 tk9 F9 N9 P8 P7 P6; (try dsimp only); (try k_fold))))) | ((with_reducible show wpAny _ _ (call (Value.ref 143) [_, Value.int 1 _]) _ _ _); (refine' Ctr.useInt (ctr_pivot1 _ _ _ _ _ _ _ _ _ _ _ _ _ _ ?hX) ?k1 ?k2 ?k3 ?k4 ?kS ?k5 ?kd ?ku ?kC ?_; (( (case k1 => first | k_asm | fail "use: below"); (case k2 => first | k_asm | fail "use: the frame"); (case k3 => first | k_asm | fail "use: the part"); (case k4 => first | k_asm | fail "use: the ledger"); (case kS => first | lcg_sub | fail "use: what is handed in"); (case k5 => first | k_asm | fail "use: the top"); (case kd => first | k_room | fail "use: room"); (case ku => first | k_units | fail "use: units"); (case kC => first | assumption | fail "use: the table"))); (case hX => first | with_reducible assumption | decide | omega); ((intro t9 h9 tk9 F9 N9; (try dsimp only); (try k_fold))))) | ((with_reducible show wpAny _ _ (call (Value.ref 143) [_, Value.int 0 _]) _ _ _); (refine' Ctr.useInt (ctr_pivot0 _ _ _ _ _ _ _ _ _ _ _ _ _ _ ?hX) ?k1 ?k2 ?k3 ?k4 ?kS ?k5 ?kd ?ku ?kC ?_; (( (case k1 => first | k_asm | fail "use: below"); (case k2 => first | k_asm | fail "use: the frame"); (case k3 => first | k_asm | fail "use: the part"); (case k4 => first | k_asm | fail "use: the ledger"); (case kS => first | lcg_sub | fail "use: what is handed in"); (case k5 => first | k_asm | fail "use: the top"); (case kd => first | k_room | fail "use: room"); (case ku => first | k_units | fail "use: units"); (case kC => first | assumption | fail "use: the table"))); (case hX => first | with_reducible assumption | decide | omega); ((intro t9 h9 tk9 F9 N9; (try dsimp only); (try k_fold))))) | ((with_reducible show wpAny _ _ (call (Value.ref 129) _) _ _ _); (refine' Ctr.useTup (ctr_by _ _ _ _ _ _ _ _ _ _ _ _ _ _ _ ?ho ?hp ?hc ?hX ?hY) ?k1 ?k2 ?k3 ?k4 ?kS ?k5 ?kd ?ku ?kC ?_; (( (case k1 => first | k_asm | fail "use: below"); (case k2 => first | k_asm | fail "use: the frame"); (case k3 => first | k_asm | fail "use: the part"); (case k4 => first | k_asm | fail "use: the ledger"); (case kS => first | lcg_sub | fail "use: what is handed in"); (case k5 => first | k_asm | fail "use: the top"); (case kd => first | k_room | fail "use: room"); (case ku => first | k_units | fail "use: units"); (case kC => first | assumption | fail "use: the table"))); (case ho => (first | with_reducible assumption | exact ⟨by omega, by omega, by omega, by omega⟩ | fail "use: a bound")); (case hp => (first | with_reducible assumption | exact ⟨by omega, by omega, by omega, by omega⟩ | fail "use: a bound")); (case hc => first | with_reducible assumption | decide | omega); (case hX => walk_at "frac"); (case hY => walk_at "frac"); ((intro D9 n9 t9 u9 h9 tk9 F9 N9 P9; (try dsimp only); (try k_fold))))) | ((with_reducible show wpAny _ _ (call (Value.ref 115) _) _ _ _); (refine' Ctr.useTup (ctr_times _ _ _ _ _ _ _ _ _ _ _ _ _ _ _ ?ho ?hp ?hX ?hY) ?k1 ?k2 ?k3 ?k4 ?kS ?k5 ?kd ?ku ?kC ?_; (( (case k1 => first | k_asm | fail "use: below"); (case k2 => first | k_asm | fail "use: the frame"); (case k3 => first | k_asm | fail "use: the part"); (case k4 => first | k_asm | fail "use: the ledger"); (case kS => first | lcg_sub | fail "use: what is handed in"); (case k5 => first | k_asm | fail "use: the top"); (case kd => first | k_room | fail "use: room"); (case ku => first | k_units | fail "use: units"); (case kC => first | assumption | fail "use: the table"))); (case ho => (first | with_reducible assumption | exact ⟨by omega, by omega, by omega, by omega⟩ | fail "use: a bound")); (case hp => (first | with_reducible assumption | exact ⟨by omega, by omega, by omega, by omega⟩ | fail "use: a bound")); (case hX => walk_at "frac"); (case hY => walk_at "frac"); ((intro D9 n9 t9 u9 h9 tk9 F9 N9 P9; (try dsimp only); (try k_fold))))))); k_steps)))
  refine unstop (LCg.CompSrc.ledger (by rfl) (by k_asm) (by k_asm) (by k_mem) (by first | size_fits | exact Nat.le_of_ble_eq_true rfl) ?_)
  intro g9
  refine rest_two (V0 := fun v => v = .ref _) (V1 := fun v => v = .ref _) (Z0 := RTup 0 1) (Z1 := RTup 1 1) (Or.inr ⟨_, by k_mem, rfl, _, rfl⟩) srcAt_mono (fun v h => (Option.some.inj h).symm) (fun v h => (Option.some.inj h).symm) ?_ ?_ ?_
  · intro v I oI C oC D m₂ h tk E' hv hC hx F N o3 ne
    subst hv
    (k_steps; (repeat' ((refine unstop ?_; (first | ((with_reducible show wpAny _ _ (call (Value.ref 148) _) _ _ _); (refine' Ctr.useRow2 (ctr_cleared_row _ _ _ _ _ _ _ _ _ _ _ _ _ _ _ _ _ _ _ _ _ _ _ _ _ _ _ _ _ _ _ _ _ _ _ _ _ _ _ _ _ _ _ ?o1 ?o2 ?o3 ?o4 ?o5 ?o6 ?o7 ?x1 ?x2 ?x3 ?x4 ?x5 ?x6 ?x7 ?x8) ?k1 ?k2 ?k3 ?k4 ?kS ?k5 ?kd ?ku ?kC ?_; (( (case k1 => first | k_asm | fail "use: below"); (case k2 => first | k_asm | fail "use: the frame"); (case k3 => first | k_asm | fail "use: the part"); (case k4 => first | k_asm | fail "use: the ledger"); (case kS => first | lcg_sub | fail "use: what is handed in"); (case k5 => first | k_asm | fail "use: the top"); (case kd => first | k_room | fail "use: room"); (case ku => first | k_units | fail "use: units"); (case kC => first | assumption | fail "use: the table"))); (case x1 => walk_at "frac"); (case x2 => walk_at "frac"); (case x3 => walk_at "frac"); (case x4 => walk_at "frac"); (case x5 => walk_at "frac"); (case x6 => walk_at "frac"); (case x7 => walk_at "frac"); (case x8 => walk_at "frac"); (case o1 => (first | with_reducible assumption | exact ⟨by omega, by omega, by omega, by omega⟩ | fail "use: a bound")); (case o2 => (first | with_reducible assumption | exact ⟨by omega, by omega, by omega, by omega⟩ | fail "use: a bound")); (case o3 => (first | with_reducible assumption | exact ⟨by omega, by omega, by omega, by omega⟩ | fail "use: a bound")); (case o4 => (first | with_reducible assumption | exact ⟨by omega, by omega, by omega, by omega⟩ | fail "use: a bound")); (case o5 => (first | with_reducible assumption | exact ⟨by omega, by omega, by omega, by omega⟩ | fail "use: a bound")); (case o6 => (first | with_reducible assumption | exact ⟨by omega, by omega, by omega, by omega⟩ | fail "use: a bound")); (case o7 => (first | with_reducible assumption | exact ⟨by omega, by omega, by omega, by omega⟩ | fail "use: a bound")); ((intro p9 n9 a9 a8 m9 m8 t9 t8 t7 t6 h9 tk9 F9 N9 P8 P7 P6; (try dsimp only); (try k_fold))))) | ((with_reducible show wpAny _ _ (call (Value.ref 143) [_, Value.int 1 _]) _ _ _); (refine' Ctr.useInt (ctr_pivot1 _ _ _ _ _ _ _ _ _ _ _ _ _ _ ?hX) ?k1 ?k2 ?k3 ?k4 ?kS ?k5 ?kd ?ku ?kC ?_; (( (case k1 => first | k_asm | fail "use: below"); (case k2 => first | k_asm | fail "use: the frame"); (case k3 => first | k_asm | fail "use: the part"); (case k4 => first | k_asm | fail "use: the ledger"); (case kS => first | lcg_sub | fail "use: what is handed in"); (case k5 => first | k_asm | fail "use: the top"); (case kd => first | k_room | fail "use: room"); (case ku => first | k_units | fail "use: units"); (case kC => first | assumption | fail "use: the table"))); (case hX => first | with_reducible assumption | decide | omega); ((intro t9 h9 tk9 F9 N9; (try dsimp only); (try k_fold))))) | ((with_reducible show wpAny _ _ (call (Value.ref 143) [_, Value.int 0 _]) _ _ _); (refine' Ctr.useInt (ctr_pivot0 _ _ _ _ _ _ _ _ _ _ _ _ _ _ ?hX) ?k1 ?k2 ?k3 ?k4 ?kS ?k5 ?kd ?ku ?kC ?_; (( (case k1 => first | k_asm | fail "use: below"); (case k2 => first | k_asm | fail "use: the frame"); (case k3 => first | k_asm | fail "use: the part"); (case k4 => first | k_asm | fail "use: the ledger"); (case kS => first | lcg_sub | fail "use: what is handed in"); (case k5 => first | k_asm | fail "use: the top"); (case kd => first | k_room | fail "use: room"); (case ku => first | k_units | fail "use: units"); (case kC => first | assumption | fail "use: the table"))); (case hX => first | with_reducible assumption | decide | omega); ((intro t9 h9 tk9 F9 N9; (try dsimp only); (try k_fold))))) | ((with_reducible show wpAny _ _ (call (Value.ref 129) _) _ _ _); (refine' Ctr.useTup (ctr_by _ _ _ _ _ _ _ _ _ _ _ _ _ _ _ ?ho ?hp ?hc ?hX ?hY) ?k1 ?k2 ?k3 ?k4 ?kS ?k5 ?kd ?ku ?kC ?_; (( (case k1 => first | k_asm | fail "use: below"); (case k2 => first | k_asm | fail "use: the frame"); (case k3 => first | k_asm | fail "use: the part"); (case k4 => first | k_asm | fail "use: the ledger"); (case kS => first | lcg_sub | fail "use: what is handed in"); (case k5 => first | k_asm | fail "use: the top"); (case kd => first | k_room | fail "use: room"); (case ku => first | k_units | fail "use: units"); (case kC => first | assumption | fail "use: the table"))); (case ho => (first | with_reducible assumption | exact ⟨by omega, by omega, by omega, by omega⟩ | fail "use: a bound")); (case hp => (first | with_reducible assumption | exact ⟨by omega, by omega, by omega, by omega⟩ | fail "use: a bound")); (case hc => first | with_reducible assumption | decide | omega); (case hX => walk_at "frac"); (case hY => walk_at "frac"); ((intro D9 n9 t9 u9 h9 tk9 F9 N9 P9; (try dsimp only); (try k_fold))))) | ((with_reducible show wpAny _ _ (call (Value.ref 115) _) _ _ _); (refine' Ctr.useTup (ctr_times _ _ _ _ _ _ _ _ _ _ _ _ _ _ _ ?ho ?hp ?hX ?hY) ?k1 ?k2 ?k3 ?k4 ?kS ?k5 ?kd ?ku ?kC ?_; (( (case k1 => first | k_asm | fail "use: below"); (case k2 => first | k_asm | fail "use: the frame"); (case k3 => first | k_asm | fail "use: the part"); (case k4 => first | k_asm | fail "use: the ledger"); (case kS => first | lcg_sub | fail "use: what is handed in"); (case k5 => first | k_asm | fail "use: the top"); (case kd => first | k_room | fail "use: room"); (case ku => first | k_units | fail "use: units"); (case kC => first | assumption | fail "use: the table"))); (case ho => (first | with_reducible assumption | exact ⟨by omega, by omega, by omega, by omega⟩ | fail "use: a bound")); (case hp => (first | with_reducible assumption | exact ⟨by omega, by omega, by omega, by omega⟩ | fail "use: a bound")); (case hX => walk_at "frac"); (case hY => walk_at "frac"); ((intro D9 n9 t9 u9 h9 tk9 F9 N9 P9; (try dsimp only); (try k_fold))))))); k_steps)))
    exact add_one1 (by k_asm) (by k_asm) (by assumption) ⟨_, _, _, _, rfl, rfl⟩
  · intro y add v I oI C oC D m₂ h tk E' z ap hv hC hx F N o3 ne
    subst hv
    obtain ⟨q, n, t1, t2, rfl, rfl⟩ := z
    simp only [List.cons_append, List.nil_append] at N
    (k_steps; (repeat' ((refine unstop ?_; (first | ((with_reducible show wpAny _ _ (call (Value.ref 148) _) _ _ _); (refine' Ctr.useRow2 (ctr_cleared_row _ _ _ _ _ _ _ _ _ _ _ _ _ _ _ _ _ _ _ _ _ _ _ _ _ _ _ _ _ _ _ _ _ _ _ _ _ _ _ _ _ _ _ ?o1 ?o2 ?o3 ?o4 ?o5 ?o6 ?o7 ?x1 ?x2 ?x3 ?x4 ?x5 ?x6 ?x7 ?x8) ?k1 ?k2 ?k3 ?k4 ?kS ?k5 ?kd ?ku ?kC ?_; (( (case k1 => first | k_asm | fail "use: below"); (case k2 => first | k_asm | fail "use: the frame"); (case k3 => first | k_asm | fail "use: the part"); (case k4 => first | k_asm | fail "use: the ledger"); (case kS => first | lcg_sub | fail "use: what is handed in"); (case k5 => first | k_asm | fail "use: the top"); (case kd => first | k_room | fail "use: room"); (case ku => first | k_units | fail "use: units"); (case kC => first | assumption | fail "use: the table"))); (case x1 => walk_at "frac"); (case x2 => walk_at "frac"); (case x3 => walk_at "frac"); (case x4 => walk_at "frac"); (case x5 => walk_at "frac"); (case x6 => walk_at "frac"); (case x7 => walk_at "frac"); (case x8 => walk_at "frac"); (case o1 => (first | with_reducible assumption | exact ⟨by omega, by omega, by omega, by omega⟩ | fail "use: a bound")); (case o2 => (first | with_reducible assumption | exact ⟨by omega, by omega, by omega, by omega⟩ | fail "use: a bound")); (case o3 => (first | with_reducible assumption | exact ⟨by omega, by omega, by omega, by omega⟩ | fail "use: a bound")); (case o4 => (first | with_reducible assumption | exact ⟨by omega, by omega, by omega, by omega⟩ | fail "use: a bound")); (case o5 => (first | with_reducible assumption | exact ⟨by omega, by omega, by omega, by omega⟩ | fail "use: a bound")); (case o6 => (first | with_reducible assumption | exact ⟨by omega, by omega, by omega, by omega⟩ | fail "use: a bound")); (case o7 => (first | with_reducible assumption | exact ⟨by omega, by omega, by omega, by omega⟩ | fail "use: a bound")); ((intro p9 n9 a9 a8 m9 m8 t9 t8 t7 t6 h9 tk9 F9 N9 P8 P7 P6; (try dsimp only); (try k_fold))))) | ((with_reducible show wpAny _ _ (call (Value.ref 143) [_, Value.int 1 _]) _ _ _); (refine' Ctr.useInt (ctr_pivot1 _ _ _ _ _ _ _ _ _ _ _ _ _ _ ?hX) ?k1 ?k2 ?k3 ?k4 ?kS ?k5 ?kd ?ku ?kC ?_; (( (case k1 => first | k_asm | fail "use: below"); (case k2 => first | k_asm | fail "use: the frame"); (case k3 => first | k_asm | fail "use: the part"); (case k4 => first | k_asm | fail "use: the ledger"); (case kS => first | lcg_sub | fail "use: what is handed in"); (case k5 => first | k_asm | fail "use: the top"); (case kd => first | k_room | fail "use: room"); (case ku => first | k_units | fail "use: units"); (case kC => first | assumption | fail "use: the table"))); (case hX => first | with_reducible assumption | decide | omega); ((intro t9 h9 tk9 F9 N9; (try dsimp only); (try k_fold))))) | ((with_reducible show wpAny _ _ (call (Value.ref 143) [_, Value.int 0 _]) _ _ _); (refine' Ctr.useInt (ctr_pivot0 _ _ _ _ _ _ _ _ _ _ _ _ _ _ ?hX) ?k1 ?k2 ?k3 ?k4 ?kS ?k5 ?kd ?ku ?kC ?_; (( (case k1 => first | k_asm | fail "use: below"); (case k2 => first | k_asm | fail "use: the frame"); (case k3 => first | k_asm | fail "use: the part"); (case k4 => first | k_asm | fail "use: the ledger"); (case kS => first | lcg_sub | fail "use: what is handed in"); (case k5 => first | k_asm | fail "use: the top"); (case kd => first | k_room | fail "use: room"); (case ku => first | k_units | fail "use: units"); (case kC => first | assumption | fail "use: the table"))); (case hX => first | with_reducible assumption | decide | omega); ((intro t9 h9 tk9 F9 N9; (try dsimp only); (try k_fold))))) | ((with_reducible show wpAny _ _ (call (Value.ref 129) _) _ _ _); (refine' Ctr.useTup (ctr_by _ _ _ _ _ _ _ _ _ _ _ _ _ _ _ ?ho ?hp ?hc ?hX ?hY) ?k1 ?k2 ?k3 ?k4 ?kS ?k5 ?kd ?ku ?kC ?_; (( (case k1 => first | k_asm | fail "use: below"); (case k2 => first | k_asm | fail "use: the frame"); (case k3 => first | k_asm | fail "use: the part"); (case k4 => first | k_asm | fail "use: the ledger"); (case kS => first | lcg_sub | fail "use: what is handed in"); (case k5 => first | k_asm | fail "use: the top"); (case kd => first | k_room | fail "use: room"); (case ku => first | k_units | fail "use: units"); (case kC => first | assumption | fail "use: the table"))); (case ho => (first | with_reducible assumption | exact ⟨by omega, by omega, by omega, by omega⟩ | fail "use: a bound")); (case hp => (first | with_reducible assumption | exact ⟨by omega, by omega, by omega, by omega⟩ | fail "use: a bound")); (case hc => first | with_reducible assumption | decide | omega); (case hX => walk_at "frac"); (case hY => walk_at "frac"); ((intro D9 n9 t9 u9 h9 tk9 F9 N9 P9; (try dsimp only); (try k_fold))))) | ((with_reducible show wpAny _ _ (call (Value.ref 115) _) _ _ _); (refine' Ctr.useTup (ctr_times _ _ _ _ _ _ _ _ _ _ _ _ _ _ _ ?ho ?hp ?hX ?hY) ?k1 ?k2 ?k3 ?k4 ?kS ?k5 ?kd ?ku ?kC ?_; (( (case k1 => first | k_asm | fail "use: below"); (case k2 => first | k_asm | fail "use: the frame"); (case k3 => first | k_asm | fail "use: the part"); (case k4 => first | k_asm | fail "use: the ledger"); (case kS => first | lcg_sub | fail "use: what is handed in"); (case k5 => first | k_asm | fail "use: the top"); (case kd => first | k_room | fail "use: room"); (case ku => first | k_units | fail "use: units"); (case kC => first | assumption | fail "use: the table"))); (case ho => (first | with_reducible assumption | exact ⟨by omega, by omega, by omega, by omega⟩ | fail "use: a bound")); (case hp => (first | with_reducible assumption | exact ⟨by omega, by omega, by omega, by omega⟩ | fail "use: a bound")); (case hX => walk_at "frac"); (case hY => walk_at "frac"); ((intro D9 n9 t9 u9 h9 tk9 F9 N9 P9; (try dsimp only); (try k_fold))))))); k_steps)))
    exact add_one1 (by k_asm) (by k_asm) (by assumption) ⟨_, _, _, _, rfl, rfl⟩
  intro y0 add0 y1 add1 z0 z1 a0 a1 D' h' tk' F' N' oD
  obtain ⟨q, n, t1, t2, rfl, rfl⟩ := z0
  obtain ⟨r', n', t1', t2', rfl, rfl⟩ := z1
  replace a0 := off1_of a0
  replace a1 := off1_of a1
  simp only [List.cons_append, List.nil_append] at N' oD a0 a1
  (k_steps; (repeat' ((refine unstop ?_; (first | ((with_reducible show wpAny _ _ (call (Value.ref 148) _) _ _ _); (refine' Ctr.useRow2 (ctr_cleared_row _ _ _ _ _ _ _ _ _ _ _ _ _ _ _ _ _ _ _ _ _ _ _ _ _ _ _ _ _ _ _ _ _ _ _ _ _ _ _ _ _ _ _ ?o1 ?o2 ?o3 ?o4 ?o5 ?o6 ?o7 ?x1 ?x2 ?x3 ?x4 ?x5 ?x6 ?x7 ?x8) ?k1 ?k2 ?k3 ?k4 ?kS ?k5 ?kd ?ku ?kC ?_; (( (case k1 => first | k_asm | fail "use: below"); (case k2 => first | k_asm | fail "use: the frame"); (case k3 => first | k_asm | fail "use: the part"); (case k4 => first | k_asm | fail "use: the ledger"); (case kS => first | lcg_sub | fail "use: what is handed in"); (case k5 => first | k_asm | fail "use: the top"); (case kd => first | k_room | fail "use: room"); (case ku => first | k_units | fail "use: units"); (case kC => first | assumption | fail "use: the table"))); (case x1 => walk_at "frac"); (case x2 => walk_at "frac"); (case x3 => walk_at "frac"); (case x4 => walk_at "frac"); (case x5 => walk_at "frac"); (case x6 => walk_at "frac"); (case x7 => walk_at "frac"); (case x8 => walk_at "frac"); (case o1 => (first | with_reducible assumption | exact ⟨by omega, by omega, by omega, by omega⟩ | fail "use: a bound")); (case o2 => (first | with_reducible assumption | exact ⟨by omega, by omega, by omega, by omega⟩ | fail "use: a bound")); (case o3 => (first | with_reducible assumption | exact ⟨by omega, by omega, by omega, by omega⟩ | fail "use: a bound")); (case o4 => (first | with_reducible assumption | exact ⟨by omega, by omega, by omega, by omega⟩ | fail "use: a bound")); (case o5 => (first | with_reducible assumption | exact ⟨by omega, by omega, by omega, by omega⟩ | fail "use: a bound")); (case o6 => (first | with_reducible assumption | exact ⟨by omega, by omega, by omega, by omega⟩ | fail "use: a bound")); (case o7 => (first | with_reducible assumption | exact ⟨by omega, by omega, by omega, by omega⟩ | fail "use: a bound")); ((intro p9 n9 a9 a8 m9 m8 t9 t8 t7 t6 h9 tk9 F9 N9 P8 P7 P6; (try dsimp only); (try k_fold))))) | ((with_reducible show wpAny _ _ (call (Value.ref 143) [_, Value.int 1 _]) _ _ _); (refine' Ctr.useInt (ctr_pivot1 _ _ _ _ _ _ _ _ _ _ _ _ _ _ ?hX) ?k1 ?k2 ?k3 ?k4 ?kS ?k5 ?kd ?ku ?kC ?_; (( (case k1 => first | k_asm | fail "use: below"); (case k2 => first | k_asm | fail "use: the frame"); (case k3 => first | k_asm | fail "use: the part"); (case k4 => first | k_asm | fail "use: the ledger"); (case kS => first | lcg_sub | fail "use: what is handed in"); (case k5 => first | k_asm | fail "use: the top"); (case kd => first | k_room | fail "use: room"); (case ku => first | k_units | fail "use: units"); (case kC => first | assumption | fail "use: the table"))); (case hX => first | with_reducible assumption | decide | omega); ((intro t9 h9 tk9 F9 N9; (try dsimp only); (try k_fold))))) | ((with_reducible show wpAny _ _ (call (Value.ref 143) [_, Value.int 0 _]) _ _ _); (refine' Ctr.useInt (ctr_pivot0 _ _ _ _ _ _ _ _ _ _ _ _ _ _ ?hX) ?k1 ?k2 ?k3 ?k4 ?kS ?k5 ?kd ?ku ?kC ?_; (( (case k1 => first | k_asm | fail "use: below"); (case k2 => first | k_asm | fail "use: the frame"); (case k3 => first | k_asm | fail "use: the part"); (case k4 => first | k_asm | fail "use: the ledger"); (case kS => first | lcg_sub | fail "use: what is handed in"); (case k5 => first | k_asm | fail "use: the top"); (case kd => first | k_room | fail "use: room"); (case ku => first | k_units | fail "use: units"); (case kC => first | assumption | fail "use: the table"))); (case hX => first | with_reducible assumption | decide | omega); ((intro t9 h9 tk9 F9 N9; (try dsimp only); (try k_fold))))) | ((with_reducible show wpAny _ _ (call (Value.ref 129) _) _ _ _); (refine' Ctr.useTup (ctr_by _ _ _ _ _ _ _ _ _ _ _ _ _ _ _ ?ho ?hp ?hc ?hX ?hY) ?k1 ?k2 ?k3 ?k4 ?kS ?k5 ?kd ?ku ?kC ?_; (( (case k1 => first | k_asm | fail "use: below"); (case k2 => first | k_asm | fail "use: the frame"); (case k3 => first | k_asm | fail "use: the part"); (case k4 => first | k_asm | fail "use: the ledger"); (case kS => first | lcg_sub | fail "use: what is handed in"); (case k5 => first | k_asm | fail "use: the top"); (case kd => first | k_room | fail "use: room"); (case ku => first | k_units | fail "use: units"); (case kC => first | assumption | fail "use: the table"))); (case ho => (first | with_reducible assumption | exact ⟨by omega, by omega, by omega, by omega⟩ | fail "use: a bound")); (case hp => (first | with_reducible assumption | exact ⟨by omega, by omega, by omega, by omega⟩ | fail "use: a bound")); (case hc => first | with_reducible assumption | decide | omega); (case hX => walk_at "frac"); (case hY => walk_at "frac"); ((intro D9 n9 t9 u9 h9 tk9 F9 N9 P9; (try dsimp only); (try k_fold))))) | ((with_reducible show wpAny _ _ (call (Value.ref 115) _) _ _ _); (refine' Ctr.useTup (ctr_times _ _ _ _ _ _ _ _ _ _ _ _ _ _ _ ?ho ?hp ?hX ?hY) ?k1 ?k2 ?k3 ?k4 ?kS ?k5 ?kd ?ku ?kC ?_; (( (case k1 => first | k_asm | fail "use: below"); (case k2 => first | k_asm | fail "use: the frame"); (case k3 => first | k_asm | fail "use: the part"); (case k4 => first | k_asm | fail "use: the ledger"); (case kS => first | lcg_sub | fail "use: what is handed in"); (case k5 => first | k_asm | fail "use: the top"); (case kd => first | k_room | fail "use: room"); (case ku => first | k_units | fail "use: units"); (case kC => first | assumption | fail "use: the table"))); (case ho => (first | with_reducible assumption | exact ⟨by omega, by omega, by omega, by omega⟩ | fail "use: a bound")); (case hp => (first | with_reducible assumption | exact ⟨by omega, by omega, by omega, by omega⟩ | fail "use: a bound")); (case hX => walk_at "frac"); (case hY => walk_at "frac"); ((intro D9 n9 t9 u9 h9 tk9 F9 N9 P9; (try dsimp only); (try k_fold))))))); k_steps)))
  all_goals exact ret_add hret (by k_asm) (by k_asm) (by (exact kept_of (by assumption) (by assumption) (by assumption))) [(_, tupOf #[.ref _, .ref _] _), (_, tupOf #[.int 1 _, .int 1 _] _)] (by lcg_sub) (apart_cons (by walk_at "ctr off") (apart1 (by walk_at "ctr off"))) ⟨_, _, _, _, _, _, _, rfl, rfl⟩
end
theorem walk_off_B11 : True := by
  w_top off
  trivial
-- B11
section
open PySem PySem.W PyProof.Rows
set_option linter.unusedVariables false
set_option maxRecDepth 100000
set_option maxHeartbeats 1600000
theorem Ctr.useRows {w : World} {D : Nat} {f : Addr} {vs : List Value} {led all : Led} {z1 z2 z3 z4 : Int} (C : CtrR w D f vs led (RRows z1 z2 z3 z4))
    {p : Program} {loose : List Str} {mean : ExcName → Option Value} {mg mb : Str → Option Value} {dp un : Nat} {gd : Option (List Code)} {cn : Str} {nms : List (Str × NameKind)} {ig ic : Bool} {mo : List (Str × Const)} {a : Addr} {ccd : Value} {cl : List (Str × Addr)} {outer : List Env} {A₀ : Around} {base h₀ : Heap} {L : Addr} {m : Str → Option Value} {s : Shared} {Q E : Value → Shared → Prop}
    (B : Below A₀ base outer h₀) (F : Fr h₀ L s.heap m) (X : (hd.heap_1 w.params).In h₀) (N : News h₀ L s.heap all) (hs : ∀ p ∈ led, p ∈ all) (T : Top p loose mean mg mb h₀) (hd : dp + D < recursionLimit) (hu : un + 8 * D < cLine) (hC : CodeHd base 197 193)
    (ret : ∀ R n p0 u0 u1 m0 m1 m2 t0 t1 t2 t3 p1 u2 u3 m3 m4 m5 t4 t5 t6 t7 h' tk', Fr h₀ L h' m → News h₀ L h' ((R, listOf #[.ref p0, .ref p1] n) :: (p1, listOf #[.ref u2, .ref u3] m3) :: (u3, tupOf #[.int z4 t6, .int 1 t7] m5) :: (u2, tupOf #[.int z3 t4, .int 1 t5] m4) :: (p0, listOf #[.ref u0, .ref u1] m0) :: (u1, tupOf #[.int z2 t2, .int 1 t3] m2) :: (u0, tupOf #[.int z1 t0, .int 1 t1] m1) :: all) → Q (.ref R) { s with heap := h', toks := tk' }) :
    wpAny (model PySem.Challenge.rw_xm0031_01.row.prog w) (ktrTop dp un gd cn { kind := .function, names := nms, isGenerator := ig, isCoroutine := ic, more := mo } L a ccd cl outer) (call (.ref f) vs) Q E s :=
  Ctr.useR C B F X N hs T hd hu hC (by
    rintro v h' tk' add F' N' P' ⟨R, n, y0, a0, y1, a1, rfl, rfl, ⟨p0, u0, u1, m0, m1, m2, t0, t1, t2, t3, rfl, rfl⟩, ⟨p1, u2, u3, m3, m4, m5, t4, t5, t6, t7, rfl, rfl⟩⟩
    simp only [List.cons_append, List.nil_append] at N'
    exact ret R n p0 u0 u1 m0 m1 m2 t0 t1 t2 t3 p1 u2 u3 m3 m4 m5 t4 t5 t6 t7 h' tk' F' N')
theorem Ctr.useSolved {w : World} {D : Nat} {f : Addr} {vs : List Value} {led all : Led}  (C : CtrR w D f vs led (RSolved))
    {p : Program} {loose : List Str} {mean : ExcName → Option Value} {mg mb : Str → Option Value} {dp un : Nat} {gd : Option (List Code)} {cn : Str} {nms : List (Str × NameKind)} {ig ic : Bool} {mo : List (Str × Const)} {a : Addr} {ccd : Value} {cl : List (Str × Addr)} {outer : List Env} {A₀ : Around} {base h₀ : Heap} {L : Addr} {m : Str → Option Value} {s : Shared} {Q E : Value → Shared → Prop}
    (B : Below A₀ base outer h₀) (F : Fr h₀ L s.heap m) (X : (hd.heap_1 w.params).In h₀) (N : News h₀ L s.heap all) (hs : ∀ p ∈ led, p ∈ all) (T : Top p loose mean mg mb h₀) (hd : dp + D < recursionLimit) (hu : un + 8 * D < cLine) (hC : CodeHd base 197 193)
    (ret : ∀ P n Rr T k t1 t2 h' tk', Fr h₀ L h' m → News h₀ L h' ((P, tupOf #[.ref Rr, .ref T] n) :: (T, tupOf #[.int 1 t1, .int 1 t2] k) :: all) → Q (.ref P) { s with heap := h', toks := tk' }) :
    wpAny (model PySem.Challenge.rw_xm0031_01.row.prog w) (ktrTop dp un gd cn { kind := .function, names := nms, isGenerator := ig, isCoroutine := ic, more := mo } L a ccd cl outer) (call (.ref f) vs) Q E s :=
  Ctr.useR C B F X N hs T hd hu hC (by
    rintro v h' tk' add F' N' P' ⟨P, n, Rr, T, k, t1, t2, rfl, rfl⟩
    exact ret P n Rr T k t1 t2 h' tk' F' N')
theorem ctr_determinant1 (w : World) (g r0 r1 : Addr) (a b c d : Int) (ta tb tc td tk9 : Tok) (n0 n1 n2 : Nat)
    (ha : 0 < a) (ha' : a ≤ 30) (hd0 : 0 < d) (hd' : d ≤ 30) (hb : 0 ≤ b) (hb' : b ≤ 30) (hc : 0 < c) (hc' : c ≤ 30) (hdet : d * a - c * b = 1) (hg : Int.gcd b a = 1) (hg2 : Int.gcd (c * b) a = 1) (hcb : 0 ≤ c * b) (hcb' : c * b ≤ 900) :
    CtrR w 30 165 [.ref g, .int 9 tk9] [(g, listOf #[.ref r0, .ref r1] n0), (r0, listOf #[.int a ta, .int b tb] n1), (r1, listOf #[.int c tc, .int d td] n2)] (RTup 1 0) := by
  unfold CtrR Ctr; k_fill
  intro p loose mean mg mb dp un gd cn nms9 ig9 ic9 mo9 a9 ccd cl outer A₀ base h₀ L m s Q E B F X N T hdp hun hC hret
  refine wpAny_call ?_
  (k_dflt (first | (refine' def_in ?k1 ?k2 ?k3 ?k4 ?k5 ?kA ?kF ?kK ?k6 ?k7 ?k8 ?k9 ?kB ?_ ?c2 ?c3 ?c4 ?c5; (case kA => exact rfl); (case kF => exact rfl); (case kK => exact rfl); (case k1 => k_asm); (case k2 => k_asm); (case k3 => k_asm); (case k4 => k_asm); (case k5 => k_asm); (case k6 => k_is); (case k7 => k_is); (case k8 => k_room); (case k9 => exact BindsTo.of_eq rfl); (case c5 => decide); (case kB => exact locs rfl); (case c2 => exact rfl); (case c3 => exact rfl); (case c4 => exact rfl); k_whole; intro g' L' h' H' FG' F' N' B' X' T'; (try dsimp only); (try k_lift B'); (try k_fold)) | (refine' def_inC ?k1 ?k2 ?k3 ?k4 ?k5 ?kA ?kF ?kK ?k6 ?k7 ?k8 ?k9 ?kB ?kD ?_ ?c2 ?c3 ?c4; (case kA => exact rfl); (case kF => exact rfl); (case kK => exact rfl); (case k1 => k_asm); (case k2 => k_asm); (case k3 => k_asm); (case k4 => k_asm); (case k5 => k_asm); (case k6 => k_is); (case k7 => k_is); (case k8 => k_room); (case k9 => exact BindsTo.of_eq rfl); (case kB => exact rfl); (case kD => decide +kernel); (case c2 => exact rfl); (case c3 => exact rfl); (case c4 => exact rfl); k_whole; intro g' L' h' tk' cells' H' FG' F' N' Y' B' X' T' l1; (try (replace l1 := allLt_of l1)); k_cells Y'; (try simp only [List.cons_append, List.nil_append] at N'); (try dsimp only); (try k_lift B'); (try k_fold))))
  (k_steps; (repeat' ((refine unstop ?_; (first | ((with_reducible show wpAny _ _ (call (Value.ref 153) _) _ _ _); (first | (refine' Ctr.useSolved (ctr_solved _ _ _ _ _ _ _ _ _ _ _ _ _ _ _ _ _ _ _ _ _ _ _ _ _ _ _ ?a1 ?a2 ?a3 ?a4 ?a5 ?a6 ?a7 ?a8 ?a9 ?b1 ?b2 ?b3 ?b4) ?k1 ?k2 ?k3 ?k4 ?kS ?k5 ?kd ?ku ?kC ?_; (( (case k1 => first | k_asm | fail "use: below"); (case k2 => first | k_asm | fail "use: the frame"); (case k3 => first | k_asm | fail "use: the part"); (case k4 => first | k_asm | fail "use: the ledger"); (case kS => first | lcg_sub | fail "use: what is handed in"); (case k5 => first | k_asm | fail "use: the top"); (case kd => first | k_room | fail "use: room"); (case ku => first | k_units | fail "use: units"); (case kC => first | assumption | fail "use: the table"))); (case a1 => assumption); (case a2 => assumption); (case a3 => assumption); (case a4 => assumption); (case a5 => assumption); (case a6 => assumption); (case a7 => assumption); (case a8 => assumption); (case a9 => assumption); (case b1 => assumption); (case b2 => assumption); (case b3 => assumption); (case b4 => assumption); ((intro p9 n9 r9 q9 m9 t1 t2 h9 tk9 F9 N9; (try dsimp only); (try k_fold)))) | (refine' Ctr.useSolved (ctr_solved0 _ _ _ _ _ _ _ _ _ _ _ _ _ _ _ _ _ _ _ _ _ _ _ _ ?a1 ?a2) ?k1 ?k2 ?k3 ?k4 ?kS ?k5 ?kd ?ku ?kC ?_; (( (case k1 => first | k_asm | fail "use: below"); (case k2 => first | k_asm | fail "use: the frame"); (case k3 => first | k_asm | fail "use: the part"); (case k4 => first | k_asm | fail "use: the ledger"); (case kS => first | lcg_sub | fail "use: what is handed in"); (case k5 => first | k_asm | fail "use: the top"); (case kd => first | k_room | fail "use: room"); (case ku => first | k_units | fail "use: units"); (case kC => first | assumption | fail "use: the table"))); (case a1 => assumption); (case a2 => assumption); ((intro p9 n9 r9 q9 m9 t1 t2 h9 tk9 F9 N9; (try dsimp only); (try k_fold)))))) | ((with_reducible show wpAny _ _ (call (Value.ref 158) _) _ _ _); (refine' Ctr.useRows (ctr_square_rows _ _ _ _ _ _ _ _ _ _ _ _ _ _ _) ?k1 ?k2 ?k3 ?k4 ?kS ?k5 ?kd ?ku ?kC ?_; (( (case k1 => first | k_asm | fail "use: below"); (case k2 => first | k_asm | fail "use: the frame"); (case k3 => first | k_asm | fail "use: the part"); (case k4 => first | k_asm | fail "use: the ledger"); (case kS => first | lcg_sub | fail "use: what is handed in"); (case k5 => first | k_asm | fail "use: the top"); (case kd => first | k_room | fail "use: room"); (case ku => first | k_units | fail "use: units"); (case kC => first | assumption | fail "use: the table"))); ((intro p9 n9 q0 u0 u1 m0 m1 m2 t0 t1 t2 t3 q1 u2 u3 m3 m4 m5 t4 t5 t6 t7 h9 tk9 F9 N9; (try dsimp only); (try k_fold))))) | ((with_reducible show wpAny _ _ (call (Value.ref 136) _) _ _ _); (refine' Ctr.useTup (ctr_decimal _ _ _ _ _ _) ?k1 ?k2 ?k3 ?k4 ?kS ?k5 ?kd ?ku ?kC ?_; (( (case k1 => first | k_asm | fail "use: below"); (case k2 => first | k_asm | fail "use: the frame"); (case k3 => first | k_asm | fail "use: the part"); (case k4 => first | k_asm | fail "use: the ledger"); (case kS => first | lcg_sub | fail "use: what is handed in"); (case k5 => first | k_asm | fail "use: the top"); (case kd => first | k_room | fail "use: room"); (case ku => first | k_units | fail "use: units"); (case kC => first | assumption | fail "use: the table"))); ((intro D9 n9 t9 u9 h9 tk9 F9 N9 P9; (try dsimp only); (try k_fold))))))); k_steps)))
  exact ret_tup hret (by k_asm) (by k_asm) (by (exact kept_of (by assumption) (by assumption) (by assumption))) (by lcg_sub) (by k_mem) rfl rfl (by walk_at "ctr off")
theorem ctr_determinant0 (w : World) (g r0 r1 : Addr) (b : Int) (ta tb tc td tk9 : Tok) (n0 n1 n2 : Nat) (hb : 0 ≤ b) (hb' : b ≤ 30) :
    CtrR w 30 165 [.ref g, .int 9 tk9] [(g, listOf #[.ref r0, .ref r1] n0), (r0, listOf #[.int 1 ta, .int b tb] n1), (r1, listOf #[.int 0 tc, .int 1 td] n2)] (RTup 1 0) := by
  unfold CtrR Ctr; k_fill
  intro p loose mean mg mb dp un gd cn nms9 ig9 ic9 mo9 a9 ccd cl outer A₀ base h₀ L m s Q E B F X N T hdp hun hC hret
  refine wpAny_call ?_
  (k_dflt (first | (refine' def_in ?k1 ?k2 ?k3 ?k4 ?k5 ?kA ?kF ?kK ?k6 ?k7 ?k8 ?k9 ?kB ?_ ?c2 ?c3 ?c4 ?c5; (case kA => exact rfl); (case kF => exact rfl); (case kK => exact rfl); (case k1 => k_asm); (case k2 => k_asm); (case k3 => k_asm); (case k4 => k_asm); (case k5 => k_asm); (case k6 => k_is); (case k7 => k_is); (case k8 => k_room); (case k9 => exact BindsTo.of_eq rfl); (case c5 => decide); (case kB => exact locs rfl); (case c2 => exact rfl); (case c3 => exact rfl); (case c4 => exact rfl); k_whole; intro g' L' h' H' FG' F' N' B' X' T'; (try dsimp only); (try k_lift B'); (try k_fold)) | (refine' def_inC ?k1 ?k2 ?k3 ?k4 ?k5 ?kA ?kF ?kK ?k6 ?k7 ?k8 ?k9 ?kB ?kD ?_ ?c2 ?c3 ?c4; (case kA => exact rfl); (case kF => exact rfl); (case kK => exact rfl); (case k1 => k_asm); (case k2 => k_asm); (case k3 => k_asm); (case k4 => k_asm); (case k5 => k_asm); (case k6 => k_is); (case k7 => k_is); (case k8 => k_room); (case k9 => exact BindsTo.of_eq rfl); (case kB => exact rfl); (case kD => decide +kernel); (case c2 => exact rfl); (case c3 => exact rfl); (case c4 => exact rfl); k_whole; intro g' L' h' tk' cells' H' FG' F' N' Y' B' X' T' l1; (try (replace l1 := allLt_of l1)); k_cells Y'; (try simp only [List.cons_append, List.nil_append] at N'); (try dsimp only); (try k_lift B'); (try k_fold))))
  (k_steps; (repeat' ((refine unstop ?_; (first | ((with_reducible show wpAny _ _ (call (Value.ref 153) _) _ _ _); (first | (refine' Ctr.useSolved (ctr_solved _ _ _ _ _ _ _ _ _ _ _ _ _ _ _ _ _ _ _ _ _ _ _ _ _ _ _ ?a1 ?a2 ?a3 ?a4 ?a5 ?a6 ?a7 ?a8 ?a9 ?b1 ?b2 ?b3 ?b4) ?k1 ?k2 ?k3 ?k4 ?kS ?k5 ?kd ?ku ?kC ?_; (( (case k1 => first | k_asm | fail "use: below"); (case k2 => first | k_asm | fail "use: the frame"); (case k3 => first | k_asm | fail "use: the part"); (case k4 => first | k_asm | fail "use: the ledger"); (case kS => first | lcg_sub | fail "use: what is handed in"); (case k5 => first | k_asm | fail "use: the top"); (case kd => first | k_room | fail "use: room"); (case ku => first | k_units | fail "use: units"); (case kC => first | assumption | fail "use: the table"))); (case a1 => assumption); (case a2 => assumption); (case a3 => assumption); (case a4 => assumption); (case a5 => assumption); (case a6 => assumption); (case a7 => assumption); (case a8 => assumption); (case a9 => assumption); (case b1 => assumption); (case b2 => assumption); (case b3 => assumption); (case b4 => assumption); ((intro p9 n9 r9 q9 m9 t1 t2 h9 tk9 F9 N9; (try dsimp only); (try k_fold)))) | (refine' Ctr.useSolved (ctr_solved0 _ _ _ _ _ _ _ _ _ _ _ _ _ _ _ _ _ _ _ _ _ _ _ _ ?a1 ?a2) ?k1 ?k2 ?k3 ?k4 ?kS ?k5 ?kd ?ku ?kC ?_; (( (case k1 => first | k_asm | fail "use: below"); (case k2 => first | k_asm | fail "use: the frame"); (case k3 => first | k_asm | fail "use: the part"); (case k4 => first | k_asm | fail "use: the ledger"); (case kS => first | lcg_sub | fail "use: what is handed in"); (case k5 => first | k_asm | fail "use: the top"); (case kd => first | k_room | fail "use: room"); (case ku => first | k_units | fail "use: units"); (case kC => first | assumption | fail "use: the table"))); (case a1 => assumption); (case a2 => assumption); ((intro p9 n9 r9 q9 m9 t1 t2 h9 tk9 F9 N9; (try dsimp only); (try k_fold)))))) | ((with_reducible show wpAny _ _ (call (Value.ref 158) _) _ _ _); (refine' Ctr.useRows (ctr_square_rows _ _ _ _ _ _ _ _ _ _ _ _ _ _ _) ?k1 ?k2 ?k3 ?k4 ?kS ?k5 ?kd ?ku ?kC ?_; (( (case k1 => first | k_asm | fail "use: below"); (case k2 => first | k_asm | fail "use: the frame"); (case k3 => first | k_asm | fail "use: the part"); (case k4 => first | k_asm | fail "use: the ledger"); (case kS => first | lcg_sub | fail "use: what is handed in"); (case k5 => first | k_asm | fail "use: the top"); (case kd => first | k_room | fail "use: room"); (case ku => first | k_units | fail "use: units"); (case kC => first | assumption | fail "use: the table"))); ((intro p9 n9 q0 u0 u1 m0 m1 m2 t0 t1 t2 t3 q1 u2 u3 m3 m4 m5 t4 t5 t6 t7 h9 tk9 F9 N9; (try dsimp only); (try k_fold))))) | ((with_reducible show wpAny _ _ (call (Value.ref 136) _) _ _ _); (refine' Ctr.useTup (ctr_decimal _ _ _ _ _ _) ?k1 ?k2 ?k3 ?k4 ?kS ?k5 ?kd ?ku ?kC ?_; (( (case k1 => first | k_asm | fail "use: below"); (case k2 => first | k_asm | fail "use: the frame"); (case k3 => first | k_asm | fail "use: the part"); (case k4 => first | k_asm | fail "use: the ledger"); (case kS => first | lcg_sub | fail "use: what is handed in"); (case k5 => first | k_asm | fail "use: the top"); (case kd => first | k_room | fail "use: room"); (case ku => first | k_units | fail "use: units"); (case kC => first | assumption | fail "use: the table"))); ((intro D9 n9 t9 u9 h9 tk9 F9 N9 P9; (try dsimp only); (try k_fold))))))); k_steps)))
  exact ret_tup hret (by k_asm) (by k_asm) (by (exact kept_of (by assumption) (by assumption) (by assumption))) (by lcg_sub) (by k_mem) rfl rfl (by walk_at "ctr off")
theorem ctr_determinant (w : World) (g r0 r1 : Addr) (a b c d : Int) (ta tb tc td tk9 : Tok) (n0 n1 n2 : Nat)
    (ha : 0 < a) (ha' : a ≤ 30) (hd0 : 0 < d) (hd' : d ≤ 30) (hb : 0 ≤ b) (hb' : b ≤ 30) (hc : 0 ≤ c) (hc' : c ≤ 30) (hdet : d * a - c * b = 1) (hg : Int.gcd b a = 1) (hg2 : Int.gcd (c * b) a = 1) (hcb : 0 ≤ c * b) (hcb' : c * b ≤ 900) (h0 : c = 0 → a = 1 ∧ d = 1) :
    CtrR w 30 165 [.ref g, .int 9 tk9] [(g, listOf #[.ref r0, .ref r1] n0), (r0, listOf #[.int a ta, .int b tb] n1), (r1, listOf #[.int c tc, .int d td] n2)] (RTup 1 0) := by
  by_cases hc0 : c = 0
  · obtain ⟨e1, e2⟩ := h0 hc0
    subst hc0; subst e1; subst e2
    exact ctr_determinant0 w g r0 r1 b ta tb tc td tk9 n0 n1 n2 hb hb'
  · exact ctr_determinant1 w g r0 r1 a b c d ta tb tc td tk9 n0 n1 n2 ha ha' hd0 hd' hb hb' (by omega) hc' hdet hg hg2 hcb hcb'
end
theorem walk_off_G1 : True := by
  w_top off
  trivial
-- G1
section
local macro_rules | `(tactic| walk_at "no such key 0") => `(tactic| skip)
open PySem PySem.W PyProof.Rows
set_option linter.unusedVariables false
set_option maxRecDepth 100000
set_option maxHeartbeats 1600000
noncomputable abbrev fnObj (fd : FuncData) : Obj := { cls := .type "function", data := .func fd }
noncomputable def IsPlus (w : World) (f c : Addr) (fd : FuncData) (oc : Obj) : Prop := ∀ (x y : Int) (tx ty : Tok), CtrR w 3 f [.int x tx, .int y ty] [(f, fnObj fd), (c, oc)] (RInt (x + y))
noncomputable def IsTimes (w : World) (f c : Addr) (fd : FuncData) (oc : Obj) : Prop := ∀ (x y : Int) (tx ty : Tok), -1000 ≤ x → x ≤ 1000 → CtrR w 3 f [.int x tx, .int y ty] [(f, fnObj fd), (c, oc)] (RInt (x * y))
theorem plus_use {w : World} {f c : Addr} {fd : FuncData} {oc : Obj} (h : IsPlus w f c fd oc) (x y : Int) (tx ty : Tok) : CtrR w 3 f [.int x tx, .int y ty] [(f, fnObj fd), (c, oc)] (RInt (x + y)) := h x y tx ty
theorem times_use {w : World} {f c : Addr} {fd : FuncData} {oc : Obj} (h : IsTimes w f c fd oc) (x y : Int) (tx ty : Tok) (h1 : -1000 ≤ x) (h2 : x ≤ 1000) : CtrR w 3 f [.int x tx, .int y ty] [(f, fnObj fd), (c, oc)] (RInt (x * y)) := h x y tx ty h1 h2
theorem ctr_row_by_column0 (w : World) (r gr s0 s1 fp cp ft ct : Addr) (fdp fdt : FuncData) (ocp oct : Obj) (a b e f g h : Int) (ts ta tb te tf tg th : Tok) (n0 n1 n2 n3 : Nat) (hP : IsPlus w fp cp fdp ocp) (hT : IsTimes w ft ct fdt oct)
    (ha : -1000 ≤ a) (ha' : a ≤ 1000) (hb : -1000 ≤ b) (hb' : b ≤ 1000) :
    CtrR w 8 87 [.ref r, .ref gr, .int 0 ts, .ref fp, .ref ft] [(r, listOf #[.int a ta, .int b tb] n0), (gr, listOf #[.ref s0, .ref s1] n1), (s0, listOf #[.int e te, .int f tf] n2), (s1, listOf #[.int g tg, .int h th] n3), (fp, fnObj fdp), (cp, ocp), (ft, fnObj fdt), (ct, oct)] (RInt (0 + a * e + b * g)) := by
  unfold CtrR Ctr; k_fill
  intro p loose mean mg mb dp un gd cn nms9 ig9 ic9 mo9 a9 ccd cl outer A₀ base h₀ L m s Q E B F X N T hdp hun hC hret
  refine wpAny_call ?_
  (k_dflt (first | (refine' def_in ?k1 ?k2 ?k3 ?k4 ?k5 ?kA ?kF ?kK ?k6 ?k7 ?k8 ?k9 ?kB ?_ ?c2 ?c3 ?c4 ?c5; (case kA => exact rfl); (case kF => exact rfl); (case kK => exact rfl); (case k1 => k_asm); (case k2 => k_asm); (case k3 => k_asm); (case k4 => k_asm); (case k5 => k_asm); (case k6 => k_is); (case k7 => k_is); (case k8 => k_room); (case k9 => exact BindsTo.of_eq rfl); (case c5 => decide); (case kB => exact locs rfl); (case c2 => exact rfl); (case c3 => exact rfl); (case c4 => exact rfl); k_whole; intro g' L' h' H' FG' F' N' B' X' T'; (try dsimp only); (try k_lift B'); (try k_fold)) | (refine' def_inC ?k1 ?k2 ?k3 ?k4 ?k5 ?kA ?kF ?kK ?k6 ?k7 ?k8 ?k9 ?kB ?kD ?_ ?c2 ?c3 ?c4; (case kA => exact rfl); (case kF => exact rfl); (case kK => exact rfl); (case k1 => k_asm); (case k2 => k_asm); (case k3 => k_asm); (case k4 => k_asm); (case k5 => k_asm); (case k6 => k_is); (case k7 => k_is); (case k8 => k_room); (case k9 => exact BindsTo.of_eq rfl); (case kB => exact rfl); (case kD => decide +kernel); (case c2 => exact rfl); (case c3 => exact rfl); (case c4 => exact rfl); k_whole; intro g' L' h' tk' cells' H' FG' F' N' Y' B' X' T' l1; (try (replace l1 := allLt_of l1)); k_cells Y'; (try simp only [List.cons_append, List.nil_append] at N'); (try dsimp only); (try k_lift B'); (try k_fold))))
  (k_steps; (repeat' ((refine unstop ?_; (first | ((with_reducible show wpAny _ _ (call (Value.ref _) [Value.int _ _, Value.int _ _]) _ _ _); (first | (refine' Ctr.useInt (plus_use ?hp _ _ _ _) ?k1 ?k2 ?k3 ?k4 ?kS ?k5 ?kd ?ku ?kC ?_; (case hp => with_reducible assumption); (( (case k1 => first | k_asm | fail "use: below"); (case k2 => first | k_asm | fail "use: the frame"); (case k3 => first | k_asm | fail "use: the part"); (case k4 => first | k_asm | fail "use: the ledger"); (case kS => first | lcg_sub | fail "use: what is handed in"); (case k5 => first | k_asm | fail "use: the top"); (case kd => first | k_room | fail "use: room"); (case ku => first | k_units | fail "use: units"); (case kC => first | assumption | fail "use: the table"))); ((intro t9 h9 tk9 F9 N9; (try dsimp only); (try k_fold)))) | (refine' Ctr.useInt (times_use ?hp _ _ _ _ ?h1 ?h2) ?k1 ?k2 ?k3 ?k4 ?kS ?k5 ?kd ?ku ?kC ?_; (case hp => with_reducible assumption); (( (case k1 => first | k_asm | fail "use: below"); (case k2 => first | k_asm | fail "use: the frame"); (case k3 => first | k_asm | fail "use: the part"); (case k4 => first | k_asm | fail "use: the ledger"); (case kS => first | lcg_sub | fail "use: what is handed in"); (case k5 => first | k_asm | fail "use: the top"); (case kd => first | k_room | fail "use: room"); (case ku => first | k_units | fail "use: units"); (case kC => first | assumption | fail "use: the table"))); (case h1 => with_reducible assumption); (case h2 => with_reducible assumption); ((intro t9 h9 tk9 F9 N9; (try dsimp only); (try k_fold)))))))); k_steps)))
  exact ret_int hret (by k_asm) (by k_asm) (by (exact kept_of (by assumption) (by assumption) (by assumption))) (by lcg_sub) rfl
theorem ctr_row_by_column1 (w : World) (r gr s0 s1 fp cp ft ct : Addr) (fdp fdt : FuncData) (ocp oct : Obj) (a b e f g h : Int) (ts ta tb te tf tg th : Tok) (n0 n1 n2 n3 : Nat) (hP : IsPlus w fp cp fdp ocp) (hT : IsTimes w ft ct fdt oct)
    (ha : -1000 ≤ a) (ha' : a ≤ 1000) (hb : -1000 ≤ b) (hb' : b ≤ 1000) :
    CtrR w 8 87 [.ref r, .ref gr, .int 1 ts, .ref fp, .ref ft] [(r, listOf #[.int a ta, .int b tb] n0), (gr, listOf #[.ref s0, .ref s1] n1), (s0, listOf #[.int e te, .int f tf] n2), (s1, listOf #[.int g tg, .int h th] n3), (fp, fnObj fdp), (cp, ocp), (ft, fnObj fdt), (ct, oct)] (RInt (0 + a * f + b * h)) := by
  unfold CtrR Ctr; k_fill
  intro p loose mean mg mb dp un gd cn nms9 ig9 ic9 mo9 a9 ccd cl outer A₀ base h₀ L m s Q E B F X N T hdp hun hC hret
  refine wpAny_call ?_
  (k_dflt (first | (refine' def_in ?k1 ?k2 ?k3 ?k4 ?k5 ?kA ?kF ?kK ?k6 ?k7 ?k8 ?k9 ?kB ?_ ?c2 ?c3 ?c4 ?c5; (case kA => exact rfl); (case kF => exact rfl); (case kK => exact rfl); (case k1 => k_asm); (case k2 => k_asm); (case k3 => k_asm); (case k4 => k_asm); (case k5 => k_asm); (case k6 => k_is); (case k7 => k_is); (case k8 => k_room); (case k9 => exact BindsTo.of_eq rfl); (case c5 => decide); (case kB => exact locs rfl); (case c2 => exact rfl); (case c3 => exact rfl); (case c4 => exact rfl); k_whole; intro g' L' h' H' FG' F' N' B' X' T'; (try dsimp only); (try k_lift B'); (try k_fold)) | (refine' def_inC ?k1 ?k2 ?k3 ?k4 ?k5 ?kA ?kF ?kK ?k6 ?k7 ?k8 ?k9 ?kB ?kD ?_ ?c2 ?c3 ?c4; (case kA => exact rfl); (case kF => exact rfl); (case kK => exact rfl); (case k1 => k_asm); (case k2 => k_asm); (case k3 => k_asm); (case k4 => k_asm); (case k5 => k_asm); (case k6 => k_is); (case k7 => k_is); (case k8 => k_room); (case k9 => exact BindsTo.of_eq rfl); (case kB => exact rfl); (case kD => decide +kernel); (case c2 => exact rfl); (case c3 => exact rfl); (case c4 => exact rfl); k_whole; intro g' L' h' tk' cells' H' FG' F' N' Y' B' X' T' l1; (try (replace l1 := allLt_of l1)); k_cells Y'; (try simp only [List.cons_append, List.nil_append] at N'); (try dsimp only); (try k_lift B'); (try k_fold))))
  (k_steps; (repeat' ((refine unstop ?_; (first | ((with_reducible show wpAny _ _ (call (Value.ref _) [Value.int _ _, Value.int _ _]) _ _ _); (first | (refine' Ctr.useInt (plus_use ?hp _ _ _ _) ?k1 ?k2 ?k3 ?k4 ?kS ?k5 ?kd ?ku ?kC ?_; (case hp => with_reducible assumption); (( (case k1 => first | k_asm | fail "use: below"); (case k2 => first | k_asm | fail "use: the frame"); (case k3 => first | k_asm | fail "use: the part"); (case k4 => first | k_asm | fail "use: the ledger"); (case kS => first | lcg_sub | fail "use: what is handed in"); (case k5 => first | k_asm | fail "use: the top"); (case kd => first | k_room | fail "use: room"); (case ku => first | k_units | fail "use: units"); (case kC => first | assumption | fail "use: the table"))); ((intro t9 h9 tk9 F9 N9; (try dsimp only); (try k_fold)))) | (refine' Ctr.useInt (times_use ?hp _ _ _ _ ?h1 ?h2) ?k1 ?k2 ?k3 ?k4 ?kS ?k5 ?kd ?ku ?kC ?_; (case hp => with_reducible assumption); (( (case k1 => first | k_asm | fail "use: below"); (case k2 => first | k_asm | fail "use: the frame"); (case k3 => first | k_asm | fail "use: the part"); (case k4 => first | k_asm | fail "use: the ledger"); (case kS => first | lcg_sub | fail "use: what is handed in"); (case k5 => first | k_asm | fail "use: the top"); (case kd => first | k_room | fail "use: room"); (case ku => first | k_units | fail "use: units"); (case kC => first | assumption | fail "use: the table"))); (case h1 => with_reducible assumption); (case h2 => with_reducible assumption); ((intro t9 h9 tk9 F9 N9; (try dsimp only); (try k_fold)))))))); k_steps)))
  exact ret_int hret (by k_asm) (by k_asm) (by (exact kept_of (by assumption) (by assumption) (by assumption))) (by lcg_sub) rfl
end
-- F1
section
open PySem PySem.W PyProof.Rows PySem.Calls PySem.Spec
set_option linter.unusedVariables false
set_option maxRecDepth 100000
section
variable {prog : Program} {w : World} {A : Around} {E : Value → Shared → Prop} {s : Shared} {h₀ : Heap} {L : Addr} {m : Str → Option Value} {env : Env}
/-- a turn's end: the iterator and the name's cell stand as they stood; the rest of the ledger is as Z says -/
noncomputable def TurnZ (h₀ : Heap) (L : Addr) (m : Str → Option Value) (s₁ : Shared) (I : Addr) (oI : Obj) (K : Addr) (oK : Obj) (Z : Led → Prop) (f : Flow) (s₂ : Shared) : Prop :=
  f = .next ∧ ∃ h' tk news', s₂ = { s₁ with heap := h', toks := tk } ∧ Fr h₀ L h' m ∧ News h₀ L h' ((I, oI) :: (K, oK) :: news') ∧ LCg.Off1 I news' ∧ LCg.Off1 K news' ∧ Z news'
theorem turn_z {s₁ : Shared} {I K : Addr} {oI oK : Obj} {Z : Led → Prop} {h' : Heap} {tk : Nat} {all : Led} (F : Fr h₀ L h' m) (N : News h₀ L h' all) (news' : Led) (hs : ∀ p ∈ (I, oI) :: (K, oK) :: news', p ∈ all) (o1 : LCg.Off1 I news') (o2 : LCg.Off1 K news') (z : Z news') :
    TurnZ h₀ L m s₁ I oI K oK Z .next { s₁ with heap := h', toks := tk } := ⟨rfl, h', tk, news', rfl, F, fun p hp => N p (hs p hp), o1, o2, z⟩
noncomputable def ForSrc2 (prog : Program) (w : World) (A : Around) (h₀ : Heap) (L : Addr) (m : Str → Option Value) (env : Env) (x : Str) (body : List Stmt) (Q : Flow → Shared → Prop) (xv : Value) (s₁ : Shared) : Prop :=
  ∃ l nl v0 v1 K oK0 news Z1 Z2, xv = .ref l ∧ A.handled = none ∧ Fr h₀ L s₁.heap m ∧ News h₀ L s₁.heap ((K, oK0) :: news) ∧ (l, listOf #[v0, v1] nl) ∈ news ∧ (∃ cv, oK0.data = .cell cv) ∧ LCg.Off1 K news ∧ env.cells.lookup x = some K ∧
    (∀ nw, Z1 nw → (l, listOf #[v0, v1] nl) ∈ nw) ∧ (∀ nw, Z2 nw → (l, listOf #[v0, v1] nl) ∈ nw) ∧
    (∀ I oI oK h tk (E' : Value → Shared → Prop), oK.data = .cell (some v0) → Fr h₀ L h m → News h₀ L h ((I, oI) :: (K, oK) :: news) → LCg.Off1 I news → LCg.Off1 K news → @Ne Nat I K →
      wpAny (model prog w) A (execs body env) (TurnZ h₀ L m { s₁ with heap := h, toks := tk } I oI K oK Z1) E' { s₁ with heap := h, toks := tk }) ∧
    (∀ nw I oI oK h tk (E' : Value → Shared → Prop), Z1 nw → oK.data = .cell (some v1) → Fr h₀ L h m → News h₀ L h ((I, oI) :: (K, oK) :: nw) → LCg.Off1 I nw → LCg.Off1 K nw → @Ne Nat I K →
      wpAny (model prog w) A (execs body env) (TurnZ h₀ L m { s₁ with heap := h, toks := tk } I oI K oK Z2) E' { s₁ with heap := h, toks := tk }) ∧
    (∀ nw oK h tk, Z2 nw → Fr h₀ L h m → News h₀ L h ((K, oK) :: nw) → LCg.Off1 K nw → Q .next { s₁ with heap := h, toks := tk })
theorem for_cell2 {x : Str} {px pos : Pos} {iter : Expr} {body : List Stmt} {Q : Flow → Shared → Prop} (F₀ : Fr h₀ L s.heap m) (hkind : env.scope.kind = .function) (hx : env.kindOf x = some .cell)
    (h : wpAny (model prog w) A (eval iter env) (ForSrc2 prog w A h₀ L m env x body Q) E s)
    (hs : ∀ x, foldedSetIterable iter env x = pure x := by intro _; rfl) :
    wpAny (model prog w) A (exec (.For (.Name x px) iter body [] pos) env) Q E s := by
  refine wpAny_For (wpAny_mono h (fun xv s₁ h₁ => ?_) fun _ _ e => e) hs
  obtain ⟨l, nl, v0, v1, K, oK0, news, Z1, Z2, rfl, hh, F, N, hl, ⟨cv, hcv⟩, oK, hc, z1l, z2l, t0, t1, fin⟩ := h₁
  have hls : s₁.heap.IsList l #[v0, v1] := ⟨_, (N _ (.tail _ hl)).1, rfl, nl, rfl⟩
  have hlt : l < s₁.heap.objs.size := Heap.lt_size (N _ (.tail _ hl)).1
  refine wpAny_pyIter_list hls ?_
  have W := Walks.list (prog := prog) (w := w) hh s₁.heap.objs.size l (Nat.ne_of_lt hlt) #[v0, v1]
  generalize hI : s₁.heap.objs.size = I at *
  have hLI : L ≠ I := hI ▸ Nat.ne_of_lt F.ns.lt
  have hI₀ : h₀.get? I = none := hI ▸ next_is_new F
  have hKI : K ≠ I := hI ▸ Nat.ne_of_lt (Heap.lt_size (N _ (.head _)).1)
  have hKL : K ≠ L := (N _ (.head _)).2.1
  have hK₀ : h₀.get? K = none := (N _ (.head _)).2.2
  -- the state between the turns
  let J : Nat → Led → Shared → Prop := fun i nw s' => ∃ h' tk oK, s' = { s₁ with heap := h', toks := tk } ∧ (h'.IsListIter I l i ∧ h'.IsList l #[v0, v1]) ∧ Fr h₀ L h' m ∧ News h₀ L h' ((K, oK) :: nw) ∧ (∃ cv, oK.data = .cell cv) ∧ LCg.Off1 I nw ∧ LCg.Off1 K nw ∧ (l, listOf #[v0, v1] nl) ∈ nw
  have turn : ∀ (i : Nat) (v : Value) (nw : Led) (Z : Led → Prop) (Next : Shared → Prop) (R : Result → Shared → Prop) (E1 E2 E3 : Value → Shared → Prop) (O : Shared → Prop) (s' : Shared), i < 2 → (#[v0, v1] : Array Value)[i]? = some v → J i nw s' → (∀ nw, Z nw → (l, listOf #[v0, v1] nl) ∈ nw) →
      (∀ oI oK h tk (E' : Value → Shared → Prop), oK.data = .cell (some v) → Fr h₀ L h m → News h₀ L h ((I, oI) :: (K, oK) :: nw) → LCg.Off1 I nw → LCg.Off1 K nw → @Ne Nat I K →
        wpAny (model prog w) A (execs body env) (TurnZ h₀ L m { s₁ with heap := h, toks := tk } I oI K oK Z) E' { s₁ with heap := h, toks := tk }) →
      (∀ nw' s'', Z nw' → J (i + 1) nw' s'' → Next s'') →
      wpAny (model prog w) A (pyNext (.ref I)) (fun r s₂ => match r with
        | none => O s₂
        | some v => wpAny (model prog w) A (letOwnedTupleGo (.Name x px) (.ref I) v) (fun _ s₂' => wpAny (model prog w) A (assign (.Name x px) env v) (fun _ s₃ => wpAny (model prog w) A (execs body env) (fun f s₄ => match f with
            | .next | .cont => Next s₄
            | .brk => R (.ok .next) s₄
            | .ret v => R (.ok (.ret v)) s₄) E3 s₃) E2 s₂') E1 s₂) E1 s' := by
    rintro i v nw Z Next R E1 E2 E3 O s' hi hv ⟨h', tk, oK', rfl, hst, F', N', ⟨cv', hcv'⟩, oI1, oK1, hlm⟩ hz ht hnext
    refine W.item i _ _ _ (by simpa using hi) hst fun v' h₂ tk₂ hP hst₂ hk₂ => ?_
    obtain rfl : v' = v := by
      have hP' : (#[v0, v1] : Array Value)[i]? = some v' := hP
      rw [hv] at hP'; exact (Option.some.inj hP').symm
    refine wpAny_pure ?_
    have F₂ : Fr h₀ L h₂ m := LCg.fr_but F' hk₂ hLI hI₀
    have N₂ : News h₀ L h₂ ((K, oK') :: nw) := LCg.news_but N' hk₂ fun p hp => by
      rcases List.mem_cons.mp hp with rfl | hp
      · exact hKI
      · exact off1_mem oI1 p hp
    refine wpAny_assign_Name (wpAny_storeName_cell (c := K) (v₀ := cv') hkind hx hc ⟨oK', (N₂ _ (.head _)).1, hcv'⟩ fun h₃ hc₃ hs₃ => ?_)
    obtain ⟨oK2, heK, hoK⟩ := hc₃
    have lK : l ≠ K := off1_mem oK1 _ hlm
    have hst₃ : h₃.IsListIter I l (i + 1) ∧ h₃.IsList l #[v0, v1] := ⟨hst₂.1.at fun o e => hs₃.extBut _ _ hKI.symm e, hst₂.2.at fun o e => hs₃.extBut _ _ lK e⟩
    obtain ⟨oI, heI, hoI⟩ := hst₃.1
    have F₃ : Fr h₀ L h₃ m := F₂.change hs₃ hKL hK₀
    have N₃ : News h₀ L h₃ ((I, oI) :: (K, oK2) :: nw) := fun p hp => by
      rcases List.mem_cons.mp hp with rfl | hp
      · exact ⟨heI, hLI.symm, hI₀⟩
      · rcases List.mem_cons.mp hp with rfl | hp
        · exact ⟨heK, hKL, hK₀⟩
        · have z := N₂ p (.tail _ hp)
          exact ⟨hs₃.extBut _ _ (off1_mem oK1 p hp) z.1, z.2⟩
    refine wpAny_mono (ht oI oK2 h₃ _ E3 hoK F₃ N₃ oI1 oK1 hKI.symm) (fun f s₄ hf => ?_) fun _ _ e => e
    obtain ⟨rfl, h₄, tk₄, nw', rfl, F₄, N₄, oI4, oK4, z4⟩ := hf
    refine hnext nw' _ z4 ⟨h₄, tk₄, oK2, rfl, ⟨⟨oI, (N₄ _ (.head _)).1, hoI⟩, ⟨_, (N₄ _ (.tail _ (.tail _ (hz _ z4)))).1, rfl, nl, rfl⟩⟩, F₄, fun p hp => N₄ p (.tail _ hp), ⟨_, hoK⟩, oI4, oK4, hz _ z4⟩
  let In : Nat → Shared → Prop := fun n s' => (n = 2 ∧ J 0 news s') ∨ (n = 1 ∧ ∃ nw, Z1 nw ∧ J 1 nw s') ∨ (n = 0 ∧ ∃ nw, Z2 nw ∧ J 2 nw s')
  let R : Result → Shared → Prop := fun r s' => match r with | .ok f => Q f s' | .error e => cameBackBy (model prog w) A env E e s'
  have start : In 2 { s₁ with heap := s₁.heap.push { cls := .type "list_iterator", data := .fields #[.ref l, .int 0 0] } } := by
    have g : (s₁.heap.push { cls := .type "list_iterator", data := .fields #[.ref l, .int 0 0] }).get? I = some { cls := .type "list_iterator", data := .fields #[.ref l, .int 0 0] } := by
      rw [← hI]; exact Heap.get?_push_size _ rfl
    refine .inl ⟨rfl, _, s₁.toks, oK0, rfl, ⟨⟨_, g, rfl, rfl⟩, hls.push _⟩, F.push _, N.pushKeep _, ⟨cv, hcv⟩, off1_all fun p hp => ?_, oK, hl⟩
    · rw [← hI]; exact Nat.ne_of_lt (Heap.lt_size (N p (.tail _ hp)).1)
  refine codeAny_forLoop_any (R := R) In ?_ 2 start
  · rintro n s' (⟨rfl, hJ⟩ | ⟨rfl, nw, hz, hJ⟩ | ⟨rfl, nw, hz, hJ⟩)
    · exact turn 0 v0 news Z1 (fun s' => ∃ m, m < 2 ∧ In m s') R _ _ _ _ s' (by decide) rfl hJ z1l (fun oI oK h tk E' => t0 I oI oK h tk E') fun nw' s'' z j => ⟨1, by decide, .inr (.inl ⟨rfl, nw', z, j⟩)⟩
    · exact turn 1 v1 nw Z2 (fun s' => ∃ m, m < 1 ∧ In m s') R _ _ _ _ s' (by decide) rfl hJ z2l (fun oI oK h tk E' a b c d e f => t1 nw I oI oK h tk E' hz a b c d e f) fun nw' s'' z j => ⟨0, by decide, .inr (.inr ⟨rfl, nw', z, j⟩)⟩
    · obtain ⟨h', tk, oK', rfl, hst, F', N', hcv', oI1, oK1, hlm⟩ := hJ
      refine W.done _ _ _ hst fun h₁ tk₁ hk₁ => wpAny_execs_nil ?_
      exact fin nw oK' h₁ _ hz (LCg.fr_but F' hk₁ hLI hI₀) (LCg.news_but N' hk₁ fun p hp => by
        rcases List.mem_cons.mp hp with rfl | hp
        · exact hKI
        · exact off1_mem oI1 p hp) oK1
end
end
-- F2
section
open PySem PySem.W PyProof.Rows PySem.Calls PySem.Spec
set_option linter.unusedVariables false
set_option maxRecDepth 100000
/-- the names of the list hold whatever u says; the others hold what m says -/
noncomputable def forget : List Str → (Str → Option Value) → (Str → Option Value) → Str → Option Value
  | [], _, m => m
  | n :: r, u, m => fun y => if y = n then u y else forget r u m y
theorem forget_at {u m : Str → Option Value} {y : Str} : ∀ {ns : List Str}, (y ∉ ns → u y = m y) → forget ns u m y = u y
  | [], h => (h (by simp)).symm
  | n :: r, h => by
    by_cases e : y = n
    · simp [forget, e]
    · simp only [forget, if_neg e]
      exact forget_at fun hy => h (by simp [e, hy])
theorem forget_eq {u m : Str → Option Value} {ns : List Str} (h : ∀ y, y ∉ ns → u y = m y) : forget ns u m = u := funext fun y => forget_at (h y)
theorem forget_out {u m : Str → Option Value} {y : Str} : ∀ {ns : List Str}, y ∉ ns → forget ns u m y = m y
  | [], _ => rfl
  | n :: r, h => by
    simp only [List.mem_cons, not_or] at h
    simp only [forget, if_neg h.1]
    exact forget_out h.2
section
variable {prog : Program} {w : World} {A : Around} {E : Value → Shared → Prop} {s : Shared} {h₀ : Heap} {L : Addr} {m : Str → Option Value} {env : Env}
/-- a turn's end: the iterator stands as it stood; names outside ns hold what they held; the rest of the ledger is as J says -/
noncomputable def TurnJ (h₀ : Heap) (L : Addr) (m : Str → Option Value) (ns : List Str) (s₁ : Shared) (its : Led) (J : Led → Prop) (f : Flow) (s₂ : Shared) : Prop :=
  f = .next ∧ ∃ h' tk m' nw, s₂ = { s₁ with heap := h', toks := tk } ∧ Fr h₀ L h' m' ∧ News h₀ L h' (its ++ nw) ∧ (∀ p ∈ its, LCg.Off1 p.1 nw) ∧ (∀ y, y ∉ ns → m' y = m y) ∧ J nw
theorem turn_j {ns : List Str} {s₁ : Shared} {its : Led} {J : Led → Prop} {h' : Heap} {tk : Nat} {m' : Str → Option Value} {all : Led} (F : Fr h₀ L h' m') (N : News h₀ L h' all) (nw : Led) (hs : ∀ p ∈ its ++ nw, p ∈ all) (o : ∀ p ∈ its, LCg.Off1 p.1 nw)
    (hm : ∀ y, y ∉ ns → m' y = m y) (j : J nw) : TurnJ h₀ L m ns s₁ its J .next { s₁ with heap := h', toks := tk } := ⟨rfl, h', tk, m', nw, rfl, F, fun p hp => N p (hs p hp), o, hm, j⟩
noncomputable def TextSrc (prog : Program) (w : World) (A : Around) (h₀ : Heap) (L : Addr) (m : Str → Option Value) (env : Env) (x : Str) (ns : List Str) (body : List Stmt) (Q : Flow → Shared → Prop) (xv : Value) (s₁ : Shared) : Prop :=
  ∃ X t news, ∃ J : Nat → Led → Prop, xv = .str X t ∧ X.cps.all (· < 128) = true ∧ A.handled = none ∧ Fr h₀ L s₁.heap m ∧ News h₀ L s₁.heap news ∧ J 0 news ∧
    (∀ i c u m' nw I oI h tk (E' : Value → Shared → Prop), X.cps[i]? = some c → J i nw → Fr h₀ L h (fun y => if y = x then some (.str ⟨#[c]⟩ u) else forget ns m' m y) → News h₀ L h ((I, oI) :: nw) → LCg.Off1 I nw →
      wpAny (model prog w) A (execs body env) (TurnJ h₀ L m (x :: ns) { s₁ with heap := h, toks := tk } [(I, oI)] (J (i + 1))) E' { s₁ with heap := h, toks := tk }) ∧
    (∀ m' nw h tk, J X.cps.size nw → Fr h₀ L h (forget (x :: ns) m' m) → News h₀ L h nw → Q .next { s₁ with heap := h, toks := tk })
theorem for_text {x : Str} {px pos : Pos} {iter : Expr} {body : List Stmt} {Q : Flow → Shared → Prop} (ns : List Str) (F₀ : Fr h₀ L s.heap m) (hL : env.locals = L) (hx : env.kindOf x = some .local)
    (hp : (env.scope.kind == .class || (env.scope.kind == .module && env.locals != env.globals)) = false)
    (h : wpAny (model prog w) A (eval iter env) (TextSrc prog w A h₀ L m env x ns body Q) E s)
    (hs : ∀ x, foldedSetIterable iter env x = pure x := by intro _; rfl) :
    wpAny (model prog w) A (exec (.For (.Name x px) iter body [] pos) env) Q E s := by
  subst hL
  refine wpAny_For (wpAny_mono h (fun xv s₁ h₁ => ?_) fun _ _ e => e) hs
  obtain ⟨X, t, news, J, rfl, hA, hh, F, N, j0, turn, fin⟩ := h₁
  refine wpAny_pyIter_ascii hA ?_
  have W := Walks.strAscii (prog := prog) (w := w) hh s₁.heap.objs.size X t
  have hLI : env.locals ≠ s₁.heap.objs.size := Nat.ne_of_lt F.ns.lt
  have hI₀ : h₀.get? s₁.heap.objs.size = none := next_is_new F
  have offI : LCg.Off1 s₁.heap.objs.size news := off1_all fun p hp => Nat.ne_of_lt (Heap.lt_size (N p hp).1)
  have gI : (s₁.heap.push { cls := .type "str_ascii_iterator", data := .fields #[.str X t, .int 0 0] }).get? s₁.heap.objs.size = some { cls := .type "str_ascii_iterator", data := .fields #[.str X t, .int 0 0] } := Heap.get?_push_size _ rfl
  have F1 := F.push { cls := .type "str_ascii_iterator", data := .fields #[.str X t, .int 0 0] }
  have N1 : News h₀ env.locals (s₁.heap.push { cls := .type "str_ascii_iterator", data := .fields #[.str X t, .int 0 0] }) news := N.grown fun _ _ e => Heap.get?_push_of_some _ e
  generalize s₁.heap.push { cls := .type "str_ascii_iterator", data := .fields #[.str X t, .int 0 0] } = hp1 at *
  generalize s₁.heap.objs.size = I at *
  let R : Result → Shared → Prop := fun r s' => match r with | .ok f => Q f s' | .error e => cameBackBy (model prog w) A env E e s'
  let In : Nat → Shared → Prop := fun k s' => ∃ h' tk m' nw i, s' = { s₁ with heap := h', toks := tk } ∧ i ≤ X.cps.size ∧ k = X.cps.size - i ∧ h'.IsStrIter I "str_ascii_iterator" X t i ∧ Fr h₀ env.locals h' (forget (x :: ns) m' m) ∧ News h₀ env.locals h' nw ∧ LCg.Off1 I nw ∧ J i nw
  refine codeAny_forLoop_any (R := R) In ?_ X.cps.size ⟨_, s₁.toks, m, news, 0, rfl, Nat.zero_le _, rfl, ⟨_, gI, rfl, rfl⟩, ?_, N1, offI, j0⟩
  · rintro k s' ⟨h', tk, m', nw, i, rfl, hi, rfl, hst, F', N', oI, j⟩
    by_cases hlt : i < X.cps.size
    · refine W.item i _ _ _ hlt hst fun v h₂ tk₂ hP hst₂ hk₂ => ?_
      obtain ⟨c, u, hc, rfl⟩ := hP
      refine wpAny_pure ?_
      have F₂ : Fr h₀ env.locals h₂ (forget (x :: ns) m' m) := LCg.fr_but F' hk₂ hLI hI₀
      have N₂ : News h₀ env.locals h₂ nw := LCg.news_but N' hk₂ fun p hp => off1_mem oI p hp
      refine wpAny_assign_Name (wpAny_storeName_local hx F₂.ns (fun h₃ hn₃ hs₃ => ?_) hp)
      have F₃ := F₂.set hn₃ hs₃
      have eq : (fun z => if z = x then some (Value.str ⟨#[c]⟩ u) else forget (x :: ns) m' m z) = fun z => if z = x then some (Value.str ⟨#[c]⟩ u) else forget ns m' m z := by
        funext z
        by_cases e : z = x
        · simp [e]
        · simp [e, forget]
      rw [eq] at F₃
      obtain ⟨oI', heI, hoI⟩ := hst₂
      have N₃ : News h₀ env.locals h₃ ((I, oI') :: nw) := fun p hp => by
        rcases List.mem_cons.mp hp with rfl | hp
        · exact ⟨hs₃.extBut _ _ (Ne.symm hLI) heI, Ne.symm hLI, hI₀⟩
        · have z := N₂ p hp
          exact ⟨hs₃.extBut _ _ z.2.1 z.1, z.2⟩
      refine wpAny_mono (turn i c u m' nw I oI' h₃ _ _ hc j F₃ N₃ oI) (fun f s₄ hf => ?_) fun _ _ e => e
      obtain ⟨rfl, h₄, tk₄, m₄, nw₄, rfl, F₄, N₄, oI₄, hm₄, j₄⟩ := hf
      refine ⟨X.cps.size - (i + 1), Nat.sub_lt_sub_left hlt (Nat.lt_succ_self i), h₄, tk₄, m₄, nw₄, i + 1, rfl, hlt, rfl, ⟨oI', (N₄ _ (.head _)).1, hoI⟩, ?_, fun p hp => N₄ p (.tail _ hp), oI₄ _ (.head _), j₄⟩
      rw [forget_eq hm₄]; exact F₄
    · obtain rfl : i = X.cps.size := Nat.le_antisymm hi (Nat.not_lt.mp hlt)
      refine W.done _ _ _ hst fun h₂ tk₂ hk₂ => wpAny_execs_nil ?_
      exact fin m' nw h₂ tk₂ j (LCg.fr_but F' hk₂ hLI hI₀) (LCg.news_but N' hk₂ fun p hp => off1_mem oI p hp)
  · rw [forget_eq fun _ _ => rfl]; exact F1
noncomputable def EnumSrc (prog : Program) (w : World) (A : Around) (h₀ : Heap) (L : Addr) (m : Str → Option Value) (env : Env) (a b : Str) (ns : List Str) (body : List Stmt) (Q : Flow → Shared → Prop) (xv : Value) (s₁ : Shared) : Prop :=
  ∃ e it l items n news, ∃ J : Nat → Led → Prop, xv = .ref e ∧ A.handled = none ∧ Fr h₀ L s₁.heap m ∧ News h₀ L s₁.heap news ∧ e ≠ it ∧ (IsEnum s₁.heap e it 0 .none ∧ s₁.heap.IsListIter it l 0) ∧ (∀ c ∈ [e, it], h₀.get? c = none ∧ c ≠ L ∧ ∀ p ∈ news, p.1 ≠ c) ∧ J 0 news ∧
    (∀ i nw, J i nw → (l, listOf items n) ∈ nw) ∧
    (∀ i v t m' nw oe oi h tk (E' : Value → Shared → Prop), items[i]? = some v → J i nw → Fr h₀ L h (fun y => if y = b then some v else if y = a then some (.int i t) else forget ns m' m y) → News h₀ L h ((e, oe) :: (it, oi) :: nw) → LCg.Off1 e nw → LCg.Off1 it nw → @Ne Nat e it →
      wpAny (model prog w) A (execs body env) (TurnJ h₀ L m (a :: b :: ns) { s₁ with heap := h, toks := tk } [(e, oe), (it, oi)] (J (i + 1))) E' { s₁ with heap := h, toks := tk }) ∧
    (∀ m' nw h tk, J items.size nw → Fr h₀ L h (forget (a :: b :: ns) m' m) → News h₀ L h nw → Q .next { s₁ with heap := h, toks := tk })
theorem for_enum {a b : Str} {pa pb tp pos : Pos} {kk : Nat} {iter : Expr} {body : List Stmt} {Q : Flow → Shared → Prop} (ns : List Str) (F₀ : Fr h₀ L s.heap m) (hL : env.locals = L) (ha : env.kindOf a = some .local) (hb : env.kindOf b = some .local)
    (hp : (env.scope.kind == .class || (env.scope.kind == .module && env.locals != env.globals)) = false)
    (h : wpAny (model prog w) A (eval iter env) (EnumSrc prog w A h₀ L m env a b ns body Q) E s)
    (hs : ∀ x, foldedSetIterable iter env x = pure x := by intro _; rfl) :
    wpAny (model prog w) A (exec (.For (.Tuple [.Name a pa, .Name b pb] kk tp) iter body [] pos) env) Q E s := by
  subst hL
  refine wpAny_For (wpAny_mono h (fun xv s₁ h₁ => ?_) fun _ _ e => e) hs
  obtain ⟨e, it, l, items, n, news, J, rfl, hh, F, N, hei, ⟨he, hit⟩, own, j0, hlm, turn, fin⟩ := h₁
  refine wpAny_pyIter_enum he ?_
  have nl : ∀ i nw, J i nw → LCg.Off1 e nw → LCg.Off1 it nw → l ≠ e ∧ l ≠ it := fun i nw j o1 o2 => ⟨off1_mem o1 _ (hlm i nw j), off1_mem o2 _ (hlm i nw j)⟩
  have oe0 : LCg.Off1 e news := off1_all fun p hp => (own e (by simp)).2.2 p hp
  have oi0 : LCg.Off1 it news := off1_all fun p hp => (own it (by simp)).2.2 p hp
  obtain ⟨hle, hli⟩ := nl 0 news j0 oe0 oi0
  have W := WalksT.enumerate (prog := prog) (w := w) hh e it l hei hle hli items
  have e₀ := (own e (by simp)).1
  have i₀ := (own it (by simp)).1
  have eL := (own e (by simp)).2.1
  have iL := (own it (by simp)).2.1
  let R : Result → Shared → Prop := fun r s' => match r with | .ok f => Q f s' | .error e => cameBackBy (model prog w) A env E e s'
  let In : Nat → Shared → Prop := fun k s' => ∃ h' tk m' nw i, s' = { s₁ with heap := h', toks := tk } ∧ i ≤ items.size ∧ k = items.size - i ∧ (∃ old, IsEnum h' e it i old) ∧ h'.IsListIter it l i ∧ Fr h₀ env.locals h' (forget (a :: b :: ns) m' m) ∧ News h₀ env.locals h' nw ∧ LCg.Off1 e nw ∧ LCg.Off1 it nw ∧ J i nw
  have but : ∀ {h' h₂ : Heap} {m' : Str → Option Value} {nw : Led}, Fr h₀ env.locals h' m' → News h₀ env.locals h' nw → LCg.Off1 e nw → LCg.Off1 it nw → (∀ c o, c ∉ [e, it] → h'.get? c = some o → h₂.get? c = some o) → Fr h₀ env.locals h₂ m' ∧ News h₀ env.locals h₂ nw := by
    intro h' h₂ m' nw F' N' o1 o2 hk
    refine ⟨⟨F'.ns.at' fun o x => hk _ o (by simp [Ne.symm eL, Ne.symm iL]) x, fun c o x => hk c o ?_ (F'.keep c o x), F'.above⟩, fun p hp => ⟨hk _ _ ?_ (N' p hp).1, (N' p hp).2⟩⟩
    · intro hm
      simp only [List.mem_cons, List.not_mem_nil, or_false] at hm
      rcases hm with rfl | rfl
      · rw [e₀] at x; cases x
      · rw [i₀] at x; cases x
    · intro hm
      simp only [List.mem_cons, List.not_mem_nil, or_false] at hm
      rcases hm with q | q
      · exact off1_mem o1 p hp q
      · exact off1_mem o2 p hp q
  refine codeAny_forLoop_any (R := R) In ?_ items.size ⟨s₁.heap, s₁.toks, m, news, 0, rfl, Nat.zero_le _, rfl, ⟨_, he⟩, hit, ?_, N, oe0, oi0, j0⟩
  · rintro k s' ⟨h', tk, m', nw, i, rfl, hi, rfl, hen, hit', F', N', o1, o2, j⟩
    have hl : h'.IsList l items := ⟨_, (N' _ (hlm i nw j)).1, rfl, n, rfl⟩
    by_cases hlt : i < items.size
    · refine W.item i _ _ _ hlt ⟨hen, hit', hl⟩ fun T vals h₂ tk₂ hPt hTge hT hMid hk₂ => ?_
      obtain ⟨t, x, hx, rfl⟩ := hPt
      obtain ⟨F₂, N₂⟩ := but F' N' o1 o2 hk₂
      have hTwr := W.apart _ _ _ hMid
      refine W.go _ _ _ _ _ _ _ _ hMid fun h₃ hst₃ hk₃ => ?_
      obtain ⟨F₃, N₃⟩ := but F₂ N₂ o1 o2 hk₃
      have hT₃ : h₃.IsTuple T #[.int i t, x] := by
        obtain ⟨o, y, r⟩ := hT
        exact ⟨o, hk₃ _ _ hTwr y, r⟩
      refine kcp_assign (env := env) hh hT₃ ha hb hp F₃.ns fun h₄ tk₄ hn₄ hk₄ => ?_
      have F₄ : Fr h₀ env.locals h₄ _ := ⟨hn₄, fun c o y => hk₄ c o (Nat.ne_of_lt (Nat.lt_of_lt_of_le (Heap.lt_size y) F.above)) (F₃.keep c o y), F.above⟩
      have N₄ : News h₀ env.locals h₄ nw := fun p hp => ⟨hk₄ _ _ (N₃ p hp).2.1 (N₃ p hp).1, (N₃ p hp).2⟩
      have eq : (fun z => if z = b then some x else if z = a then some (Value.int i t) else forget (a :: b :: ns) m' m z) = fun z => if z = b then some x else if z = a then some (Value.int i t) else forget ns m' m z := by
        funext z
        by_cases q1 : z = b
        · simp [q1]
        · by_cases q2 : z = a
          · simp [q2]
          · simp [q1, q2, forget]
      rw [eq] at F₄
      obtain ⟨⟨old, qe⟩, qi, ql⟩ := hst₃
      obtain ⟨oe, he₄⟩ : ∃ oe, h₃.get? e = some oe := ⟨_, qe⟩
      obtain ⟨oi, hi₄, hoi⟩ := qi
      have N₅ : News h₀ env.locals h₄ ((e, oe) :: (it, oi) :: nw) := fun p hp => by
        rcases List.mem_cons.mp hp with rfl | hp
        · exact ⟨hk₄ _ _ eL he₄, eL, e₀⟩
        · rcases List.mem_cons.mp hp with rfl | hp
          · exact ⟨hk₄ _ _ iL hi₄, iL, i₀⟩
          · exact N₄ p hp
      refine wpAny_mono (turn i x t m' nw oe oi h₄ _ _ hx j F₄ N₅ o1 o2 hei) (fun f s₄ hf => ?_) fun _ _ e => e
      obtain ⟨rfl, h₅, tk₅, m₅, nw₅, rfl, F₅, N₆, oI₅, hm₅, j₅⟩ := hf
      refine ⟨items.size - (i + 1), Nat.sub_lt_sub_left hlt (Nat.lt_succ_self i), h₅, tk₅, m₅, nw₅, i + 1, rfl, hlt, rfl, ⟨old, ?_⟩, ⟨oi, (N₆ (it, oi) (.tail _ (.head _))).1, hoi⟩, ?_, fun p hp => N₆ p (.tail _ (.tail _ hp)), oI₅ (e, oe) (.head _), oI₅ (it, oi) (.tail _ (.head _)), j₅⟩
      · show h₅.get? e = some _
        rw [(N₆ (e, oe) (.head _)).1]
        have q : h₃.get? e = some _ := qe
        rw [he₄] at q; exact q
      · rw [forget_eq hm₅]; exact F₅
    · obtain rfl : i = items.size := Nat.le_antisymm hi (Nat.not_lt.mp hlt)
      refine W.done _ _ _ ⟨hen, hit', hl⟩ fun h₂ tk₂ hk₂ => wpAny_execs_nil ?_
      obtain ⟨F₂, N₂⟩ := but F' N' o1 o2 hk₂
      exact fin m' nw h₂ tk₂ j F₂ N₂
  · rw [forget_eq fun _ _ => rfl]; exact F
theorem call_enum_src {a b : Str} {ns : List Str} {body : List Stmt} {Q : Flow → Shared → Prop} {l : Addr} {items : Array Value} {n : Nat} {news : Led} (J : Nat → Led → Prop) (hh : A.handled = none) (F : Fr h₀ L s.heap m) (N : News h₀ L s.heap news) (j0 : J 0 news)
    (hl : ∀ i nw, J i nw → (l, listOf items n) ∈ nw)
    (turn : ∀ e it i v t m' nw oe oi h tk (E' : Value → Shared → Prop), items[i]? = some v → J i nw → Fr h₀ L h (fun y => if y = b then some v else if y = a then some (.int i t) else forget ns m' m y) → News h₀ L h ((e, oe) :: (it, oi) :: nw) → LCg.Off1 e nw → LCg.Off1 it nw → @Ne Nat e it →
      wpAny (model prog w) A (execs body env) (TurnJ h₀ L m (a :: b :: ns) { s with heap := h, toks := tk } [(e, oe), (it, oi)] (J (i + 1))) E' { s with heap := h, toks := tk })
    (fin : ∀ m' nw h tk, J items.size nw → Fr h₀ L h (forget (a :: b :: ns) m' m) → News h₀ L h nw → Q .next { s with heap := h, toks := tk }) :
    wpAny (model prog w) A (call (.type "enumerate") [.ref l]) (EnumSrc prog w A h₀ L m env a b ns body Q) E s := by
  have hls : s.heap.IsList l items := ⟨_, (N _ (hl 0 news j0)).1, rfl, n, rfl⟩
  refine call_enumerate_list hls fun h' he hit hsz hk => ?_
  have big : ∀ c, s.heap.objs.size ≤ c → h₀.get? c = none ∧ c ≠ L ∧ ∀ p ∈ news, p.1 ≠ c := fun c hc => by
    refine ⟨?_, ?_, fun p hp => ?_⟩
    · cases e : h₀.get? c with
      | none => rfl
      | some o => exact absurd (Heap.lt_size (F.keep c o e)) (Nat.not_lt.mpr hc)
    · exact Nat.ne_of_gt (Nat.lt_of_lt_of_le F.ns.lt hc)
    · exact Nat.ne_of_lt (Nat.lt_of_lt_of_le (Heap.lt_size (N p hp).1) hc)
  refine ⟨_, _, l, items, n, news, J, rfl, hh, F.keeps hk, N.grown hk, Nat.succ_ne_self _, ⟨he, hit⟩, fun c hc => big c ?_, j0, hl, fun i v t m' nw oe oi h tk E' => turn _ _ i v t m' nw oe oi h tk E', fin⟩
  simp only [List.mem_cons, List.not_mem_nil, or_false] at hc
  rcases hc with rfl | rfl
  · exact Nat.le_succ _
  · exact Nat.le_refl _
end
end
-- F3
section
open PySem PySem.W PyProof.Rows PySem.Calls PySem.Spec
set_option linter.unusedVariables false
set_option maxRecDepth 100000
section
variable {prog : Program} {w : World} {A : Around} {E : Value → Shared → Prop} {s : Shared} {h₀ : Heap} {L : Addr} {m : Str → Option Value} {env : Env}
/-- a turn's end where the word speaks of the names too -/
noncomputable def TurnM (h₀ : Heap) (L : Addr) (m : Str → Option Value) (ns : List Str) (s₁ : Shared) (its : Led) (J : (Str → Option Value) → Led → Prop) (f : Flow) (s₂ : Shared) : Prop :=
  f = .next ∧ ∃ h' tk m' nw, s₂ = { s₁ with heap := h', toks := tk } ∧ Fr h₀ L h' m' ∧ News h₀ L h' (its ++ nw) ∧ (∀ p ∈ its, LCg.Off1 p.1 nw) ∧ (∀ y, y ∉ ns → m' y = m y) ∧ J m' nw
theorem turn_m {ns : List Str} {s₁ : Shared} {its : Led} {J : (Str → Option Value) → Led → Prop} {h' : Heap} {tk : Nat} {m' : Str → Option Value} {all : Led} (F : Fr h₀ L h' m') (N : News h₀ L h' all) (nw : Led) (hs : ∀ p ∈ its ++ nw, p ∈ all) (o : ∀ p ∈ its, LCg.Off1 p.1 nw)
    (hm : ∀ y, y ∉ ns → m' y = m y) (j : J m' nw) : TurnM h₀ L m ns s₁ its J .next { s₁ with heap := h', toks := tk } := ⟨rfl, h', tk, m', nw, rfl, F, fun p hp => N p (hs p hp), o, hm, j⟩
noncomputable def RangeSrc (prog : Program) (w : World) (A : Around) (h₀ : Heap) (L : Addr) (m : Str → Option Value) (env : Env) (x : Str) (ns : List Str) (body : List Stmt) (Q : Flow → Shared → Prop) (xv : Value) (s₁ : Shared) : Prop :=
  ∃ r a b t u v n news, ∃ J : Nat → (Str → Option Value) → Led → Prop, xv = .ref r ∧ A.handled = none ∧ Fr h₀ L s₁.heap m ∧ News h₀ L s₁.heap news ∧ IsRange s₁.heap r a b 1 t u v ∧ Builtin.Range.small a b 1 = true ∧ Builtin.Range.rangeSize a b 1 = ((n : Nat) : Int) ∧ J 0 m news ∧
    (∀ i t m' nw I oI h tk (E' : Value → Shared → Prop), i < n → J i m' nw → Fr h₀ L h (fun y => if y = x then some (.int (a + (i : Int)) t) else forget ns m' m y) → News h₀ L h ((I, oI) :: nw) → LCg.Off1 I nw →
      wpAny (model prog w) A (execs body env) (TurnM h₀ L m (x :: ns) { s₁ with heap := h, toks := tk } [(I, oI)] (J (i + 1))) E' { s₁ with heap := h, toks := tk }) ∧
    (∀ m' nw h tk, J n m' nw → Fr h₀ L h (forget (x :: ns) m' m) → News h₀ L h nw → Q .next { s₁ with heap := h, toks := tk })
theorem for_range {x : Str} {px pos : Pos} {iter : Expr} {body : List Stmt} {Q : Flow → Shared → Prop} (ns : List Str) (F₀ : Fr h₀ L s.heap m) (hL : env.locals = L) (hx : env.kindOf x = some .local)
    (hp : (env.scope.kind == .class || (env.scope.kind == .module && env.locals != env.globals)) = false)
    (h : wpAny (model prog w) A (eval iter env) (RangeSrc prog w A h₀ L m env x ns body Q) E s)
    (hs : ∀ x, foldedSetIterable iter env x = pure x := by intro _; rfl) :
    wpAny (model prog w) A (exec (.For (.Name x px) iter body [] pos) env) Q E s := by
  subst hL
  refine wpAny_For (wpAny_mono h (fun xv s₁ h₁ => ?_) fun _ _ e => e) hs
  obtain ⟨r, a, b, t, u, v, n, news, J, rfl, hh, F, N, hr, hsm, hn, j0, turn, fin⟩ := h₁
  refine wpAny_pyIter_range hr hsm ?_
  generalize hS2 : ({ s₁ with heap := s₁.heap.push _ } : Shared) = s₂
  have eS : ∃ g, s₂ = { s₁ with heap := g } := ⟨_, hS2.symm⟩
  have hit : IsRangeIter s₂.heap s₁.heap.objs.size a n 1 := by rw [← hS2, ← hn]; exact Heap.get?_push_size _ rfl
  have F2 : Fr h₀ env.locals s₂.heap m := by rw [← hS2]; exact F.push _
  have N2 : News h₀ env.locals s₂.heap news := by rw [← hS2]; exact N.grown fun _ _ e => Heap.get?_push_of_some _ e
  have offI : LCg.Off1 s₁.heap.objs.size news := off1_all fun p hp => Nat.ne_of_lt (Heap.lt_size (N p hp).1)
  have hLI : env.locals ≠ s₁.heap.objs.size := Nat.ne_of_lt F.ns.lt
  have hI₀ : h₀.get? s₁.heap.objs.size = none := next_is_new F
  clear hS2
  obtain ⟨g, rfl⟩ := eS
  have W := Walks.range (prog := prog) (w := w) hh s₁.heap.objs.size a 1 n
  generalize s₁.heap.objs.size = I at *
  let R : Result → Shared → Prop := fun r s' => match r with | .ok f => Q f s' | .error e => cameBackBy (model prog w) A env E e s'
  let In : Nat → Shared → Prop := fun k s' => ∃ h' tk m' nw i, s' = { s₁ with heap := h', toks := tk } ∧ i ≤ n ∧ k = n - i ∧ IsRangeIter h' I (a + (i : Nat) * 1) ((n : Int) - (i : Nat)) 1 ∧ Fr h₀ env.locals h' m' ∧ (∀ y, y ∉ x :: ns → m' y = m y) ∧ News h₀ env.locals h' nw ∧ LCg.Off1 I nw ∧ J i m' nw
  refine codeAny_forLoop_any (R := R) In ?_ n ⟨_, s₁.toks, m, news, 0, rfl, Nat.zero_le _, rfl, by simpa using hit, F2, fun _ _ => rfl, N2, offI, j0⟩
  rintro k s' ⟨h', tk, m', nw, i, rfl, hi, rfl, hst, F', hm', N', oI, j⟩
  by_cases hlt : i < n
  · refine W.item i _ _ _ hlt hst fun v h₂ tk₂ hP hst₂ hk₂ => ?_
    obtain ⟨u, rfl⟩ := hP
    refine wpAny_pure ?_
    have F₂ : Fr h₀ env.locals h₂ m' := LCg.fr_but F' hk₂ hLI hI₀
    have N₂ : News h₀ env.locals h₂ nw := LCg.news_but N' hk₂ fun p hp => off1_mem oI p hp
    refine wpAny_assign_Name (wpAny_storeName_local hx F₂.ns (fun h₃ hn₃ hs₃ => ?_) hp)
    have F₃ := F₂.set hn₃ hs₃
    have eq : (fun z => if z = x then some (Value.int (a + i * 1) u) else m' z) = fun z => if z = x then some (Value.int (a + (i : Int)) u) else forget ns m' m z := by
      funext z
      by_cases e : z = x
      · simp [e]
      · simp only [if_neg e]
        exact (forget_at fun hz => hm' z (by simp [e, hz])).symm
    rw [eq] at F₃
    obtain ⟨oI', heI⟩ : ∃ o, h₂.get? I = some o := ⟨_, hst₂⟩
    have N₃ : News h₀ env.locals h₃ ((I, oI') :: nw) := fun p hp => by
      rcases List.mem_cons.mp hp with rfl | hp
      · exact ⟨hs₃.extBut _ _ (Ne.symm hLI) heI, Ne.symm hLI, hI₀⟩
      · have z := N₂ p hp
        exact ⟨hs₃.extBut _ _ z.2.1 z.1, z.2⟩
    refine wpAny_mono (turn i u m' nw I oI' h₃ _ _ hlt j F₃ N₃ oI) (fun f s₄ hf => ?_) fun _ _ e => e
    obtain ⟨rfl, h₄, tk₄, m₄, nw₄, rfl, F₄, N₄, oI₄, hm₄, j₄⟩ := hf
    refine ⟨n - (i + 1), Nat.sub_lt_sub_left hlt (Nat.lt_succ_self i), h₄, tk₄, m₄, nw₄, i + 1, rfl, hlt, rfl, ?_, F₄, hm₄, fun p hp => N₄ p (.tail _ hp), oI₄ _ (.head _), j₄⟩
    show h₄.get? I = some _
    rw [(N₄ (I, oI') (.head _)).1, ← heI]
    exact hst₂
  · obtain rfl : i = n := Nat.le_antisymm hi (Nat.not_lt.mp hlt)
    refine W.done _ _ _ hst fun h₂ tk₂ hk₂ => wpAny_execs_nil ?_
    refine fin m' nw h₂ tk₂ j ?_ (LCg.news_but N' hk₂ fun p hp => off1_mem oI p hp)
    rw [forget_eq hm']
    exact LCg.fr_but F' hk₂ hLI hI₀
end
end
-- P0
section
open PySem PySem.W PyProof.Rows
set_option linter.unusedVariables false
noncomputable abbrev M4 := Int × Int × Int × Int
noncomputable def gstep (g : M4) (l : Bool) : M4 := if l then (g.1, g.1 + g.2.1, g.2.2.1, g.2.2.1 + g.2.2.2) else (g.1 + g.2.1, g.2.1, g.2.2.1 + g.2.2.2, g.2.2.2)
noncomputable def gridOf (ws : List Bool) : M4 := ws.foldl gstep (1, 0, 0, 1)
noncomputable def sgn (b : Bool) : Nat := if b then 76 else 82
noncomputable def txt (ws : List Bool) : Str := ⟨(ws.map sgn).toArray⟩
noncomputable def HasGrid (led : Led) (v : Value) (g : M4) : Prop := ∃ G r0 r1 n0 n1 n2 t0 t1 t2 t3, v = .ref G ∧ (G, listOf #[.ref r0, .ref r1] n0) ∈ led ∧ (r0, listOf #[.int g.1 t0, .int g.2.1 t1] n1) ∈ led ∧ (r1, listOf #[.int g.2.2.1 t2, .int g.2.2.2 t3] n2) ∈ led
theorem HasGrid.mono {led led' : Led} {v : Value} {g : M4} (h : HasGrid led v g) (hs : ∀ p ∈ led, p ∈ led') : HasGrid led' v g := by
  obtain ⟨G, r0, r1, n0, n1, n2, t0, t1, t2, t3, e, h1, h2, h3⟩ := h
  exact ⟨G, r0, r1, n0, n1, n2, t0, t1, t2, t3, e, hs _ h1, hs _ h2, hs _ h3⟩
noncomputable abbrev RGrids (ws : List Bool) (v : Value) (add : Led) : Prop := ∃ G vs n, v = .ref G ∧ (G, listOf vs n) ∈ add ∧ vs.size = ws.length + 1 ∧ ∀ i, i ≤ ws.length → ∃ gv, vs[i]? = some gv ∧ HasGrid add gv (gridOf (ws.take i))
theorem txt_size (ws : List Bool) : (txt ws).cps.size = ws.length := by simp [txt]
theorem txt_ascii (ws : List Bool) : (txt ws).cps.all (· < 128) = true := by
  simp only [txt, List.all_toArray, List.all_map, List.all_eq_true]
  intro b _
  cases b <;> decide
theorem txt_at {ws : List Bool} {i c : Nat} (h : (txt ws).cps[i]? = some c) : ∃ b, ws[i]? = some b ∧ c = sgn b := by
  simp only [txt, List.getElem?_toArray, List.getElem?_map] at h
  cases e : ws[i]? with
  | none => rw [e] at h; cases h
  | some b => rw [e] at h; exact ⟨b, rfl, (Option.some.inj h).symm⟩
theorem gridOf_succ {ws : List Bool} {i : Nat} {b : Bool} (h : ws[i]? = some b) : gridOf (ws.take (i + 1)) = gstep (gridOf (ws.take i)) b := by
  rw [List.take_add_one, h]
  simp [gridOf]
/-- 0 and the powers of two bound a grid's cells -/
noncomputable def GB (k : Int) (g : M4) : Prop := (0 ≤ g.1 ∧ g.1 ≤ k) ∧ (0 ≤ g.2.1 ∧ g.2.1 ≤ k) ∧ (0 ≤ g.2.2.1 ∧ g.2.2.1 ≤ k) ∧ (0 ≤ g.2.2.2 ∧ g.2.2.2 ≤ k)
theorem GB.step {k : Int} {g : M4} (h : GB k g) (b : Bool) : GB (2 * k) (gstep g b) := by
  obtain ⟨⟨a1, a2⟩, ⟨b1, b2⟩, ⟨c1, c2⟩, ⟨d1, d2⟩⟩ := h
  have up : ∀ {x : Int}, 0 ≤ x → x ≤ k → x ≤ 2 * k := fun {x} h1 h2 => by omega
  have ad : ∀ {x y : Int}, x ≤ k → y ≤ k → x + y ≤ 2 * k := fun {x y} h1 h2 => by omega
  cases b
  · exact ⟨⟨Int.add_nonneg a1 b1, ad a2 b2⟩, ⟨b1, up b1 b2⟩, ⟨Int.add_nonneg c1 d1, ad c2 d2⟩, ⟨d1, up d1 d2⟩⟩
  · exact ⟨⟨a1, up a1 a2⟩, ⟨Int.add_nonneg a1 b1, ad a2 b2⟩, ⟨c1, up c1 c2⟩, ⟨Int.add_nonneg c1 d1, ad c2 d2⟩⟩
noncomputable def allWays : Nat → List (List Bool)
  | 0 => [[]]
  | n + 1 => [] :: (allWays n).flatMap fun ws => [true :: ws, false :: ws]
theorem mem_allWays : ∀ (n : Nat) (ws : List Bool), ws.length ≤ n → ws ∈ allWays n
  | 0, [], _ => by simp [allWays]
  | n + 1, [], _ => by simp [allWays]
  | n + 1, b :: ws, h => by
    have := mem_allWays n ws (by simpa using h)
    simp only [allWays, List.mem_cons, List.mem_flatMap]
    refine .inr ⟨ws, this, ?_⟩
    cases b <;> simp
/-- what holds of every way of at most six steps, looked at one by one -/
noncomputable def okWay (ws : List Bool) : Bool :=
  let g := gridOf ws
  decide (0 < g.1 ∧ g.1 ≤ 30 ∧ 0 < g.2.2.2 ∧ g.2.2.2 ≤ 30 ∧ 0 ≤ g.2.1 ∧ g.2.1 ≤ 30 ∧ 0 ≤ g.2.2.1 ∧ g.2.2.1 ≤ 30 ∧ g.2.2.2 * g.1 - g.2.2.1 * g.2.1 = 1 ∧ Int.gcd g.2.1 g.1 = 1 ∧ Int.gcd (g.2.2.1 * g.2.1) g.1 = 1 ∧ 0 ≤ g.2.2.1 * g.2.1 ∧ g.2.2.1 * g.2.1 ≤ 900 ∧ (g.2.2.1 = 0 → g.1 = 1 ∧ g.2.2.2 = 1) ∧ Int.gcd (g.2.2.1 + g.2.2.2) (g.1 + g.2.1) = 1 ∧ g.1 * g.2.2.2 - g.2.1 * g.2.2.1 = 1)
theorem okWays : (allWays 6).all okWay = true := by decide +kernel
theorem okWay_of {ws : List Bool} (h : ws.length ≤ 6) : okWay ws = true := List.all_eq_true.mp okWays ws (mem_allWays 6 ws h)
end
-- C2
section
open PySem PySem.W PyProof.Rows PySem.Calls PySem.Spec
set_option linter.unusedVariables false
set_option maxRecDepth 100000
noncomputable def Apt (l tab : Led) : Prop := ∀ p ∈ l, LCg.Off1 p.1 tab
theorem apt_cons {a : Addr} {o : Obj} {l tab : Led} (h : LCg.Off1 a tab) (k : Apt l tab) : Apt ((a, o) :: l) tab := fun p hp => by
  rcases List.mem_cons.mp hp with rfl | hp
  · exact h
  · exact k p hp
theorem apt_nil {tab : Led} : Apt [] tab := fun _ h => nomatch h
theorem apt_ap {l tab : Led} (h : Apt l tab) : ∀ p ∈ l, ∀ q ∈ tab, p.1 ≠ q.1 := fun p hp q hq e => off1_mem (h p hp) q hq e.symm
/-- a call that changes a part of the ledger -/
theorem Ctr.useG {w : World} {D : Nat} {f : Addr} {vs : List Value} {led all : Led} (others : Led) {R : Value → Led → Prop} (C : Ctr w D f vs led R)
    {p : Program} {loose : List Str} {mean : ExcName → Option Value} {mg mb : Str → Option Value} {dp un : Nat} {gd : Option (List Code)} {cn : Str} {nms : List (Str × NameKind)} {ig ic : Bool} {mo : List (Str × Const)} {a : Addr} {ccd : Value} {cl : List (Str × Addr)} {outer : List Env} {A₀ : Around} {base h₀ : Heap} {L : Addr} {m : Str → Option Value} {s : Shared} {Q E : Value → Shared → Prop}
    (B : Below A₀ base outer h₀) (F : Fr h₀ L s.heap m) (X : (hd.heap_1 w.params).In h₀) (N : News h₀ L s.heap all) (hs : ∀ p ∈ led, p ∈ all) (ho : ∀ p ∈ others, p ∈ all) (ha : Apt others led) (T : Top p loose mean mg mb h₀) (hd : dp + D < recursionLimit) (hu : un + 8 * D < cLine) (hC : CodeHd base 197 193)
    (ret : ∀ v h' tk' led', Fr h₀ L h' m → News h₀ L h' (led' ++ others) → Apt others led' → R v led' → Q v { s with heap := h', toks := tk' }) :
    wpAny (model PySem.Challenge.rw_xm0031_01.row.prog w) (ktrTop dp un gd cn { kind := .function, names := nms, isGenerator := ig, isCoroutine := ic, more := mo } L a ccd cl outer) (call (.ref f) vs) Q E s := by
  refine C _ _ _ _ _ _ _ _ _ _ _ _ _ _ _ _ _ _ _ _ _ _ _ _ _ B F X (fun p hp => N p (hs p hp)) T hd hu hC ?_
  intro v h' tk' led' F' N' K' hR
  have K : ∀ q ∈ others, h'.get? q.1 = some q.2 ∧ ∀ p ∈ led', p.1 ≠ q.1 := fun q hq => K' q.1 q.2 (N q (ho q hq)).1 fun p hp e => off1_mem (ha q hq) p hp e
  refine ret v h' tk' led' F' (fun q hq => ?_) (fun q hq => off1_all fun p hp => (K q hq).2 p hp) hR
  rcases List.mem_append.mp hq with hq | hq
  · exact N' q hq
  · exact ⟨(K q hq).1, (N q (ho q hq)).2⟩
section
variable {prog : Program} {w : World} {A : Around} {E : Value → Shared → Prop} {s : Shared} {h₀ : Heap} {L : Addr} {m : Str → Option Value} {env : Env}
theorem comp_ind {elt : Expr} {x : Str} {scope : Scope} {cl : List (Str × Addr)} {S : Led → Prop} {P : Nat → Value → Prop} {Fin : List Value → Led → Prop} {news : Led} (J : Nat → List Value → Led → Prop) {n : Nat} (j0 : J 0 [] news)
    (turn : ∀ i ys nw v I oI C oC D m₂ h tk (E' : Value → Shared → Prop), i < n → J i ys nw → P i v → LCg.NsObj oC m₂ → m₂ x = some v → Fr h₀ L h m → News h₀ L h ((I, oI) :: (C, oC) :: (D, LCg.lst ys) :: nw) → LCg.Off3 I C D nw → ((@Ne Nat I C) ∧ (@Ne Nat I D) ∧ (@Ne Nat C D)) →
      wpAny (model prog w) A (eval elt (compEnvC scope cl C env)) (LCg.CompEnd h₀ L m { s with heap := h, toks := tk } I oI C oC D (LCg.lst ys) S (fun y news' => J (i + 1) (ys ++ [y]) news')) E' { s with heap := h, toks := tk })
    (fin : ∀ ys nw, J n ys nw → Fin ys nw) : LCg.CompRest prog w A h₀ L m env elt x scope cl s S P Fin n 0 [] news := by
  have key : ∀ k i ys nw, i + k = n → J i ys nw → LCg.CompRest prog w A h₀ L m env elt x scope cl s S P Fin k i ys nw := by
    intro k
    induction k with
    | zero =>
      intro i ys nw hi j
      obtain rfl : i = n := by omega
      exact LCg.CompRest.zero (fin ys nw j)
    | succ k ih =>
      intro i ys nw hi j
      refine LCg.CompRest.succ ?_
      intro v I oI C oC D m₂ h tk E' hv hC hx F N off ne
      refine wpAny_mono (turn i ys nw v I oI C oC D m₂ h tk E' (by omega) j hv hC hx F N off ne) (fun y s₂ hq => ?_) fun _ _ e => e
      obtain ⟨h', tk', nw', e, F', N', off', hS, hj⟩ := hq
      exact ⟨h', tk', nw', e, F', N', off', hS, ih (i + 1) _ _ (by omega) hj⟩
  exact key n 0 [] news (Nat.zero_add n) j0
noncomputable def SrcTx (prog : Program) (w : World) (A : Around) (h₀ : Heap) (L : Addr) (m : Str → Option Value) (env : Env) (elt : Expr) (x : Str) (scope : Scope) (cl : List (Str × Addr)) (Fin : Shared → List Value → Led → Prop) (xv : Value) (s₁ : Shared) : Prop :=
  ∃ X t news, xv = .str X t ∧ X.cps.all (· < 128) = true ∧ A.handled = none ∧ Fr h₀ L s₁.heap m ∧ News h₀ L s₁.heap news ∧ X.cps.size ≤ sizeLine ∧
    ∀ s₂ : Shared, (∃ h, s₂ = { s₁ with heap := h }) → LCg.CompRest prog w A h₀ L m env elt x scope cl s₂ (fun _ => True) (SignAt X) (Fin s₂) X.cps.size 0 [] news
theorem comp_text {elt iter : Expr} {x : Str} {px : Pos} {scope : Scope} {cl : List (Str × Addr)} {pos : Pos} {Q : Value → Shared → Prop} (F₀ : Fr h₀ L s.heap m)
    (hclos : closureFor scope env = pure cl) (hcell : ∀ y ∈ scope.names, y.2 ≠ .cell) (hkind : scope.kind = .function)
    (hnames : ∀ y ∈ scope.names, y.2 = .local → scope.names.lookup y.1 = some .local) (hx : scope.names.lookup x = some .local)
    (h : wpAny (model prog w) A (eval iter env) (SrcTx prog w A h₀ L m env elt x scope cl (fun s₂ => LCg.FinE h₀ L m s₂ Q)) E s)
    (hs : ∀ x, foldedSetIterable iter env x = pure x := by intro _; rfl) :
    wpAny (model prog w) A (eval (.ListComp elt [⟨.Name x px, iter, [], 0⟩] scope pos) env) Q E s := by
  rw [eval_ListComp]
  refine wpAny_comprehension_free (use := none) rfl hs hclos hkind hnames (wpAny_mono h (fun xv s₁ h₁ => ?_) fun _ _ e => e)
  obtain ⟨X, t, news, rfl, hA, hh, F, N, hsz, R⟩ := h₁
  refine wpAny_pyIter_ascii hA ?_
  refine LCg.block_U (Walks.strAscii hh s₁.heap.objs.size X t) hsz (fun i h st => by obtain ⟨o, e, _⟩ := st; exact ⟨o, e⟩) (fun i h h' o nw st e e' k N S => ?_) hcell hkind hx ⟨_, Heap.get?_push_size _ rfl, rfl, rfl⟩ (fun b hb => ?_)
    (F.keeps fun _ _ e => Heap.get?_push_of_some _ e) (N.grown fun _ _ e => Heap.get?_push_of_some _ e) (Nat.ne_of_lt F.ns.lt) (next_is_new F) (fun p hp => Nat.ne_of_lt (Heap.lt_size (N p hp).1)) trivial (R _ ⟨_, rfl⟩) ?_
  · obtain ⟨o', q, r⟩ := st
    rw [e] at q; cases q
    exact ⟨o, e', r⟩
  · rw [List.mem_singleton.mp hb]
    show s₁.heap.objs.size < (s₁.heap.push _).objs.size
    rw [Heap.size_push]; exact Nat.lt_succ_self _
  · intro D C h' tk m' ys news' F' N' o1 hn hC₀ hD₀ hCL hDL hCD offC fin
    refine ⟨m', hn, fun h'' hs'' => fin D h'' tk (F'.change hs'' hCL hC₀) (fun p hp => ?_) o1⟩
    refine ⟨hs''.extBut _ _ ?_ (N' p hp).1, (N' p hp).2⟩
    rcases List.mem_cons.mp hp with rfl | hp
    · exact Ne.symm hCD
    · exact offC p hp
end
/-- the texts of a way's signs -/
noncomputable def steps (ws : List Bool) : List Str := ws.map fun b => ⟨#[sgn b]⟩
theorem steps_signs (ws : List Bool) : signs (txt ws) = steps ws := by
  simp [signs, txt, steps, List.map_map, Function.comp_def]
theorem join_steps (ws : List Bool) : Txt.join (Str.ofString "") (steps ws) = txt ws := by
  have : Str.ofString "" = ⟨#[]⟩ := by decide
  rw [this, ← steps_signs]
  unfold Txt.join
  rw [StrLaws.glued_eq_join]
  exact join_nil_signs _
end
theorem walk_off_G2 : True := by
  w_top off
  trivial
-- G2
section
local macro_rules | `(tactic| walk_at "no such key 0") => `(tactic| skip)
open PySem PySem.W PyProof.Rows
set_option linter.unusedVariables false
set_option maxRecDepth 100000
set_option maxHeartbeats 1600000
local macro_rules | `(tactic| walk_at "CompSrc") => `(tactic| (k_here; k_dflt (refine LCg.CompSrc.range (n := 2) (by rfl) (by k_asm) (by k_asm) (by assumption) (by first | decide | rfl) (by first | rfl | decide) (by first | size_fits | exact Nat.le_of_ble_eq_true rfl) ?_; intro g'; refine' plain_rest2 ?_ ?_ ?_; all_goals (intros; try k_fold))))
section
variable {prog : Program} {A : Around} {E : Value → Shared → Prop} {s₁ : Shared} {h₀ : Heap} {L : Addr} {m : Str → Option Value} {env : Env}
noncomputable abbrev Row1 (fd : Addr) (X Y : Int) (rest nw : Led) : Prop := ∃ q u v n n', nw = (fd, listOf #[.ref q] n) :: (q, listOf #[.int X u, .int Y v] n') :: rest ∧ LCg.Off1 q rest ∧ LCg.Off1 fd ((q, listOf #[.int X u, .int Y v] n') :: rest)
noncomputable abbrev Row2 (fd : Addr) (X Y X' Y' : Int) (rest nw : Led) : Prop := ∃ q q' u v u' v' n n' n'', nw = (fd, listOf #[.ref q, .ref q'] n) :: (q', listOf #[.int X' u', .int Y' v'] n'') :: (q, listOf #[.int X u, .int Y v] n') :: rest ∧ LCg.Off1 q rest ∧
  LCg.Off1 q' ((q, listOf #[.int X u, .int Y v] n') :: rest) ∧ LCg.Off1 fd ((q', listOf #[.int X' u', .int Y' v'] n'') :: (q, listOf #[.int X u, .int Y v] n') :: rest)
theorem gp_src {w : World} {x : Str} {body : List Stmt} {Q : Flow → Shared → Prop} {fd K l r0 r1 : Addr} {nl nf : Nat} {a1 a2 : Addr × Obj} {oK0 : Obj} {rest : Led} {X0 Y0 X1 Y1 : Int}
    (hh : A.handled = none) (F : Fr h₀ L s₁.heap m) (N : News h₀ L s₁.heap ((fd, listOf #[] nf) :: a1 :: a2 :: (K, oK0) :: rest)) (hl : (l, listOf #[.ref r0, .ref r1] nl) ∈ rest) (hcv : ∃ cv, oK0.data = .cell cv) (hc : env.cells.lookup x = some K)
    (oK : LCg.Off1 K ((fd, listOf #[] nf) :: rest)) (ofd : LCg.Off1 fd rest)
    (t0 : ∀ I oI oK h tk (E' : Value → Shared → Prop), oK.data = .cell (some (.ref r0)) → Fr h₀ L h m → News h₀ L h ((I, oI) :: (K, oK) :: (fd, listOf #[] nf) :: rest) → LCg.Off1 I ((fd, listOf #[] nf) :: rest) → LCg.Off1 K ((fd, listOf #[] nf) :: rest) → @Ne Nat I K → LCg.Off1 fd rest →
      wpAny (model prog w) A (execs body env) (TurnZ h₀ L m { s₁ with heap := h, toks := tk } I oI K oK (Row1 fd X0 Y0 rest)) E' { s₁ with heap := h, toks := tk })
    (t1 : ∀ q u v n n' I oI oK h tk (E' : Value → Shared → Prop), oK.data = .cell (some (.ref r1)) → Fr h₀ L h m → News h₀ L h ((I, oI) :: (K, oK) :: (fd, listOf #[.ref q] n) :: (q, listOf #[.int X0 u, .int Y0 v] n') :: rest) →
      LCg.Off1 I ((fd, listOf #[.ref q] n) :: (q, listOf #[.int X0 u, .int Y0 v] n') :: rest) → LCg.Off1 K ((fd, listOf #[.ref q] n) :: (q, listOf #[.int X0 u, .int Y0 v] n') :: rest) → @Ne Nat I K → LCg.Off1 q rest → LCg.Off1 fd ((q, listOf #[.int X0 u, .int Y0 v] n') :: rest) →
      wpAny (model prog w) A (execs body env) (TurnZ h₀ L m { s₁ with heap := h, toks := tk } I oI K oK (Row2 fd X0 Y0 X1 Y1 rest)) E' { s₁ with heap := h, toks := tk })
    (fin : ∀ q q' u v u' v' n n' n'' h tk, Fr h₀ L h m → News h₀ L h ((fd, listOf #[.ref q, .ref q'] n) :: (q', listOf #[.int X1 u', .int Y1 v'] n'') :: (q, listOf #[.int X0 u, .int Y0 v] n') :: rest) → LCg.Off1 q rest → LCg.Off1 q' ((q, listOf #[.int X0 u, .int Y0 v] n') :: rest) →
      LCg.Off1 fd ((q', listOf #[.int X1 u', .int Y1 v'] n'') :: (q, listOf #[.int X0 u, .int Y0 v] n') :: rest) → Q .next { s₁ with heap := h, toks := tk }) :
    ForSrc2 prog w A h₀ L m env x body Q (.ref l) s₁ := by
  refine ⟨l, nl, .ref r0, .ref r1, K, oK0, (fd, listOf #[] nf) :: rest, Row1 fd X0 Y0 rest, Row2 fd X0 Y0 X1 Y1 rest, rfl, hh, F, news_sub N (fun p hp => ?_), .tail _ hl, hcv, oK, hc, ?_, ?_, ?_, ?_, ?_⟩
  · simp only [List.mem_cons] at hp ⊢
    rcases hp with h | h | h <;> simp [h]
  · rintro nw ⟨q, u, v, n, n', rfl, _⟩
    exact .tail _ (.tail _ hl)
  · rintro nw ⟨q, q', u, v, u', v', n, n', n'', rfl, _⟩
    exact .tail _ (.tail _ (.tail _ hl))
  · exact fun I oI oK h tk E' hK F N o1 o2 ne => t0 I oI oK h tk E' hK F N o1 o2 ne ofd
  · rintro nw I oI oK h tk E' ⟨q, u, v, n, n', rfl, e1, e2⟩ hK F N o1 o2 ne
    exact t1 q u v n n' I oI oK h tk E' hK F N o1 o2 ne e1 e2
  · rintro nw oK h tk ⟨q, q', u, v, u', v', n, n', n'', rfl, e1, e2, e3⟩ F N o2
    exact fin q q' u v u' v' n n' n'' h tk F (fun p hp => N p (.tail _ hp)) e1 e2 e3
theorem row1_end {I K fd q : Addr} {oI oK : Obj} {b : Addr × Obj} {rest : Led} {X Y : Int} {u v : Tok} {h' : Heap} {tk : Nat}
    (F : Fr h₀ L h' m) (N : News h₀ L h' ((q, LCg.lst [.int X u, .int Y v]) :: b :: (I, oI) :: (K, oK) :: (fd, listOf (#[].push (.ref q)) (0 + 1)) :: rest))
    (a1 : LCg.Off1 q (b :: (I, oI) :: (K, oK) :: (fd, listOf #[] 0) :: rest)) (o1 : LCg.Off1 I ((fd, listOf #[] 0) :: rest)) (o2 : LCg.Off1 K ((fd, listOf #[] 0) :: rest)) (o3 : LCg.Off1 fd rest) :
    TurnZ h₀ L m s₁ I oI K oK (Row1 fd X Y rest) .next { s₁ with heap := h', toks := tk } := by
  obtain ⟨a0, a1, a2, a3, a4⟩ := a1
  refine turn_z F N ((fd, listOf #[.ref q] 1) :: (q, LCg.lst [.int X u, .int Y v]) :: rest) (fun p hp => ?_) ⟨o1.1, Ne.symm a1, o1.2⟩ ⟨o2.1, Ne.symm a2, o2.2⟩ ⟨q, u, v, 1, _, rfl, a4, Ne.symm a3, o3⟩
  simp only [List.mem_cons] at hp ⊢
  rcases hp with h | h | h | h | h
  · simp [h]
  · simp [h]
  · exact .inr (.inr (.inr (.inr (.inl h))))
  · simp [h]
  · simp [h]
theorem row2_end {I K fd q q' : Addr} {oI oK : Obj} {b : Addr × Obj} {rest : Led} {X Y X' Y' : Int} {u v u' v' : Tok} {n n' : Nat} {h' : Heap} {tk : Nat}
    (F : Fr h₀ L h' m) (N : News h₀ L h' ((q', LCg.lst [.int X' u', .int Y' v']) :: b :: (I, oI) :: (K, oK) :: (fd, listOf (#[.ref q].push (.ref q')) (n + 1)) :: (q, listOf #[.int X u, .int Y v] n') :: rest))
    (a1 : LCg.Off1 q' (b :: (I, oI) :: (K, oK) :: (fd, listOf #[.ref q] n) :: (q, listOf #[.int X u, .int Y v] n') :: rest)) (o1 : LCg.Off1 I ((fd, listOf #[.ref q] n) :: (q, listOf #[.int X u, .int Y v] n') :: rest))
    (o2 : LCg.Off1 K ((fd, listOf #[.ref q] n) :: (q, listOf #[.int X u, .int Y v] n') :: rest)) (o3 : LCg.Off1 q rest) (o4 : LCg.Off1 fd ((q, listOf #[.int X u, .int Y v] n') :: rest)) :
    TurnZ h₀ L m s₁ I oI K oK (Row2 fd X Y X' Y' rest) .next { s₁ with heap := h', toks := tk } := by
  obtain ⟨a0, a1, a2, a3, a4⟩ := a1
  refine turn_z F N ((fd, listOf #[.ref q, .ref q'] (n + 1)) :: (q', LCg.lst [.int X' u', .int Y' v']) :: (q, listOf #[.int X u, .int Y v] n') :: rest) (fun p hp => ?_) ⟨o1.1, Ne.symm a1, o1.2⟩ ⟨o2.1, Ne.symm a2, o2.2⟩ ⟨q, q', u, v, u', v', n + 1, n', _, rfl, o3, a4, Ne.symm a3, o4⟩
  simp only [List.mem_cons] at hp ⊢
  rcases hp with h | h | h | h | h | h
  · simp [h]
  · simp [h]
  · exact .inr (.inr (.inr (.inr (.inl h))))
  · simp [h]
  · simp [h]
  · simp [h]
end
theorem ctr_grid_product (w : World) (o r0 r1 gr s0 s1 fp cp ft ct : Addr) (fdp fdt : FuncData) (ocp oct : Obj) (a b c d e f g h : Int) (ta tb tc td te tf tg th : Tok) (n0 n1 n2 n3 n4 n5 : Nat) (hP : IsPlus w fp cp fdp ocp) (hT : IsTimes w ft ct fdt oct)
    (ha : -1000 ≤ a) (ha' : a ≤ 1000) (hb : -1000 ≤ b) (hb' : b ≤ 1000) (hc : -1000 ≤ c) (hc' : c ≤ 1000) (hd : -1000 ≤ d) (hd' : d ≤ 1000) :
    CtrR w 14 80 [.ref o, .ref gr, .ref fp, .ref ft] [(o, listOf #[.ref r0, .ref r1] n4), (r0, listOf #[.int a ta, .int b tb] n0), (r1, listOf #[.int c tc, .int d td] n5), (gr, listOf #[.ref s0, .ref s1] n1), (s0, listOf #[.int e te, .int f tf] n2), (s1, listOf #[.int g tg, .int h th] n3), (fp, fnObj fdp), (cp, ocp), (ft, fnObj fdt), (ct, oct)]
      (RGrid (0 + a * e + b * g) (0 + a * f + b * h) (0 + c * e + d * g) (0 + c * f + d * h)) := by
  unfold CtrR Ctr; k_fill
  intro p loose mean mg mb dp un gd cn nms9 ig9 ic9 mo9 a9 ccd cl outer A₀ base h₀ L m s Q E B F X N T hdp hun hC hret
  refine wpAny_call ?_
  (k_dflt (first | (refine' def_in ?k1 ?k2 ?k3 ?k4 ?k5 ?kA ?kF ?kK ?k6 ?k7 ?k8 ?k9 ?kB ?_ ?c2 ?c3 ?c4 ?c5; (case kA => exact rfl); (case kF => exact rfl); (case kK => exact rfl); (case k1 => k_asm); (case k2 => k_asm); (case k3 => k_asm); (case k4 => k_asm); (case k5 => k_asm); (case k6 => k_is); (case k7 => k_is); (case k8 => k_room); (case k9 => exact BindsTo.of_eq rfl); (case c5 => decide); (case kB => exact locs rfl); (case c2 => exact rfl); (case c3 => exact rfl); (case c4 => exact rfl); k_whole; intro g' L' h' H' FG' F' N' B' X' T'; (try dsimp only); (try k_lift B'); (try k_fold)) | (refine' def_inC ?k1 ?k2 ?k3 ?k4 ?k5 ?kA ?kF ?kK ?k6 ?k7 ?k8 ?k9 ?kB ?kD ?_ ?c2 ?c3 ?c4; (case kA => exact rfl); (case kF => exact rfl); (case kK => exact rfl); (case k1 => k_asm); (case k2 => k_asm); (case k3 => k_asm); (case k4 => k_asm); (case k5 => k_asm); (case k6 => k_is); (case k7 => k_is); (case k8 => k_room); (case k9 => exact BindsTo.of_eq rfl); (case kB => exact rfl); (case kD => decide +kernel); (case c2 => exact rfl); (case c3 => exact rfl); (case c4 => exact rfl); k_whole; intro g' L' h' tk' cells' H' FG' F' N' Y' B' X' T' l1; (try (replace l1 := allLt_of l1)); k_cells Y'; (try simp only [List.cons_append, List.nil_append] at N'); (try dsimp only); (try k_lift B'); (try k_fold))))
  (k_steps; (repeat' ((refine unstop ?_; (first | ((with_reducible show wpAny _ _ (call (Value.ref 87) [_, _, Value.int 1 _, _, _]) _ _ _); (refine' Ctr.useInt (ctr_row_by_column1 _ _ _ _ _ _ _ _ _ _ _ _ _ _ _ _ _ _ _ _ _ _ _ _ _ _ _ _ _ _ ?hP ?hT ?h1 ?h2 ?h3 ?h4) ?k1 ?k2 ?k3 ?k4 ?kS ?k5 ?kd ?ku ?kC ?_; (case hP => with_reducible assumption); (case hT => with_reducible assumption); (( (case k1 => first | k_asm | fail "use: below"); (case k2 => first | k_asm | fail "use: the frame"); (case k3 => first | k_asm | fail "use: the part"); (case k4 => first | k_asm | fail "use: the ledger"); (case kS => first | lcg_sub | fail "use: what is handed in"); (case k5 => first | k_asm | fail "use: the top"); (case kd => first | k_room | fail "use: room"); (case ku => first | k_units | fail "use: units"); (case kC => first | assumption | fail "use: the table"))); (case h1 => with_reducible assumption); (case h2 => with_reducible assumption); (case h3 => with_reducible assumption); (case h4 => with_reducible assumption); ((intro t9 h9 tk9 F9 N9; (try dsimp only); (try k_fold))))) | ((with_reducible show wpAny _ _ (call (Value.ref 87) [_, _, Value.int 0 _, _, _]) _ _ _); (refine' Ctr.useInt (ctr_row_by_column0 _ _ _ _ _ _ _ _ _ _ _ _ _ _ _ _ _ _ _ _ _ _ _ _ _ _ _ _ _ _ ?hP ?hT ?h1 ?h2 ?h3 ?h4) ?k1 ?k2 ?k3 ?k4 ?kS ?k5 ?kd ?ku ?kC ?_; (case hP => with_reducible assumption); (case hT => with_reducible assumption); (( (case k1 => first | k_asm | fail "use: below"); (case k2 => first | k_asm | fail "use: the frame"); (case k3 => first | k_asm | fail "use: the part"); (case k4 => first | k_asm | fail "use: the ledger"); (case kS => first | lcg_sub | fail "use: what is handed in"); (case k5 => first | k_asm | fail "use: the top"); (case kd => first | k_room | fail "use: room"); (case ku => first | k_units | fail "use: units"); (case kC => first | assumption | fail "use: the table"))); (case h1 => with_reducible assumption); (case h2 => with_reducible assumption); (case h3 => with_reducible assumption); (case h4 => with_reducible assumption); ((intro t9 h9 tk9 F9 N9; (try dsimp only); (try k_fold))))) | ((with_reducible show wpAny _ _ (call (Value.ref 65) _) _ _ _); (refine' Ctr.useTup (ctr_grid_shape _ _ _ _ _ _ _ _) ?k1 ?k2 ?k3 ?k4 ?kS ?k5 ?kd ?ku ?kC ?_; (( (case k1 => first | k_asm | fail "use: below"); (case k2 => first | k_asm | fail "use: the frame"); (case k3 => first | k_asm | fail "use: the part"); (case k4 => first | k_asm | fail "use: the ledger"); (case kS => first | lcg_sub | fail "use: what is handed in"); (case k5 => first | k_asm | fail "use: the top"); (case kd => first | k_room | fail "use: room"); (case ku => first | k_units | fail "use: units"); (case kC => first | assumption | fail "use: the table"))); ((intro D9 n9 t9 u9 h9 tk9 F9 N9 P9; (try dsimp only); (try k_fold))))))); k_steps)))
  (k_steps; (repeat' ((refine unstop ?_; (first | ((with_reducible show wpAny _ _ (call (Value.ref 87) [_, _, Value.int 1 _, _, _]) _ _ _); (refine' Ctr.useInt (ctr_row_by_column1 _ _ _ _ _ _ _ _ _ _ _ _ _ _ _ _ _ _ _ _ _ _ _ _ _ _ _ _ _ _ ?hP ?hT ?h1 ?h2 ?h3 ?h4) ?k1 ?k2 ?k3 ?k4 ?kS ?k5 ?kd ?ku ?kC ?_; (case hP => with_reducible assumption); (case hT => with_reducible assumption); (( (case k1 => first | k_asm | fail "use: below"); (case k2 => first | k_asm | fail "use: the frame"); (case k3 => first | k_asm | fail "use: the part"); (case k4 => first | k_asm | fail "use: the ledger"); (case kS => first | lcg_sub | fail "use: what is handed in"); (case k5 => first | k_asm | fail "use: the top"); (case kd => first | k_room | fail "use: room"); (case ku => first | k_units | fail "use: units"); (case kC => first | assumption | fail "use: the table"))); (case h1 => with_reducible assumption); (case h2 => with_reducible assumption); (case h3 => with_reducible assumption); (case h4 => with_reducible assumption); ((intro t9 h9 tk9 F9 N9; (try dsimp only); (try k_fold))))) | ((with_reducible show wpAny _ _ (call (Value.ref 87) [_, _, Value.int 0 _, _, _]) _ _ _); (refine' Ctr.useInt (ctr_row_by_column0 _ _ _ _ _ _ _ _ _ _ _ _ _ _ _ _ _ _ _ _ _ _ _ _ _ _ _ _ _ _ ?hP ?hT ?h1 ?h2 ?h3 ?h4) ?k1 ?k2 ?k3 ?k4 ?kS ?k5 ?kd ?ku ?kC ?_; (case hP => with_reducible assumption); (case hT => with_reducible assumption); (( (case k1 => first | k_asm | fail "use: below"); (case k2 => first | k_asm | fail "use: the frame"); (case k3 => first | k_asm | fail "use: the part"); (case k4 => first | k_asm | fail "use: the ledger"); (case kS => first | lcg_sub | fail "use: what is handed in"); (case k5 => first | k_asm | fail "use: the top"); (case kd => first | k_room | fail "use: room"); (case ku => first | k_units | fail "use: units"); (case kC => first | assumption | fail "use: the table"))); (case h1 => with_reducible assumption); (case h2 => with_reducible assumption); (case h3 => with_reducible assumption); (case h4 => with_reducible assumption); ((intro t9 h9 tk9 F9 N9; (try dsimp only); (try k_fold))))) | ((with_reducible show wpAny _ _ (call (Value.ref 65) _) _ _ _); (refine' Ctr.useTup (ctr_grid_shape _ _ _ _ _ _ _ _) ?k1 ?k2 ?k3 ?k4 ?kS ?k5 ?kd ?ku ?kC ?_; (( (case k1 => first | k_asm | fail "use: below"); (case k2 => first | k_asm | fail "use: the frame"); (case k3 => first | k_asm | fail "use: the part"); (case k4 => first | k_asm | fail "use: the ledger"); (case kS => first | lcg_sub | fail "use: what is handed in"); (case k5 => first | k_asm | fail "use: the top"); (case kd => first | k_room | fail "use: room"); (case ku => first | k_units | fail "use: units"); (case kC => first | assumption | fail "use: the table"))); ((intro D9 n9 t9 u9 h9 tk9 F9 N9 P9; (try dsimp only); (try k_fold))))))); k_steps)))
  refine for_cell2 (by k_asm) rfl (by rfl) ?_
  (k_steps; (repeat' ((refine unstop ?_; (first | ((with_reducible show wpAny _ _ (call (Value.ref 87) [_, _, Value.int 1 _, _, _]) _ _ _); (refine' Ctr.useInt (ctr_row_by_column1 _ _ _ _ _ _ _ _ _ _ _ _ _ _ _ _ _ _ _ _ _ _ _ _ _ _ _ _ _ _ ?hP ?hT ?h1 ?h2 ?h3 ?h4) ?k1 ?k2 ?k3 ?k4 ?kS ?k5 ?kd ?ku ?kC ?_; (case hP => with_reducible assumption); (case hT => with_reducible assumption); (( (case k1 => first | k_asm | fail "use: below"); (case k2 => first | k_asm | fail "use: the frame"); (case k3 => first | k_asm | fail "use: the part"); (case k4 => first | k_asm | fail "use: the ledger"); (case kS => first | lcg_sub | fail "use: what is handed in"); (case k5 => first | k_asm | fail "use: the top"); (case kd => first | k_room | fail "use: room"); (case ku => first | k_units | fail "use: units"); (case kC => first | assumption | fail "use: the table"))); (case h1 => with_reducible assumption); (case h2 => with_reducible assumption); (case h3 => with_reducible assumption); (case h4 => with_reducible assumption); ((intro t9 h9 tk9 F9 N9; (try dsimp only); (try k_fold))))) | ((with_reducible show wpAny _ _ (call (Value.ref 87) [_, _, Value.int 0 _, _, _]) _ _ _); (refine' Ctr.useInt (ctr_row_by_column0 _ _ _ _ _ _ _ _ _ _ _ _ _ _ _ _ _ _ _ _ _ _ _ _ _ _ _ _ _ _ ?hP ?hT ?h1 ?h2 ?h3 ?h4) ?k1 ?k2 ?k3 ?k4 ?kS ?k5 ?kd ?ku ?kC ?_; (case hP => with_reducible assumption); (case hT => with_reducible assumption); (( (case k1 => first | k_asm | fail "use: below"); (case k2 => first | k_asm | fail "use: the frame"); (case k3 => first | k_asm | fail "use: the part"); (case k4 => first | k_asm | fail "use: the ledger"); (case kS => first | lcg_sub | fail "use: what is handed in"); (case k5 => first | k_asm | fail "use: the top"); (case kd => first | k_room | fail "use: room"); (case ku => first | k_units | fail "use: units"); (case kC => first | assumption | fail "use: the table"))); (case h1 => with_reducible assumption); (case h2 => with_reducible assumption); (case h3 => with_reducible assumption); (case h4 => with_reducible assumption); ((intro t9 h9 tk9 F9 N9; (try dsimp only); (try k_fold))))) | ((with_reducible show wpAny _ _ (call (Value.ref 65) _) _ _ _); (refine' Ctr.useTup (ctr_grid_shape _ _ _ _ _ _ _ _) ?k1 ?k2 ?k3 ?k4 ?kS ?k5 ?kd ?ku ?kC ?_; (( (case k1 => first | k_asm | fail "use: below"); (case k2 => first | k_asm | fail "use: the frame"); (case k3 => first | k_asm | fail "use: the part"); (case k4 => first | k_asm | fail "use: the ledger"); (case kS => first | lcg_sub | fail "use: what is handed in"); (case k5 => first | k_asm | fail "use: the top"); (case kd => first | k_room | fail "use: room"); (case ku => first | k_units | fail "use: units"); (case kC => first | assumption | fail "use: the table"))); ((intro D9 n9 t9 u9 h9 tk9 F9 N9 P9; (try dsimp only); (try k_fold))))))); k_steps)))
  (k_steps; (repeat' ((refine unstop ?_; (first | ((with_reducible show wpAny _ _ (call (Value.ref 87) [_, _, Value.int 1 _, _, _]) _ _ _); (refine' Ctr.useInt (ctr_row_by_column1 _ _ _ _ _ _ _ _ _ _ _ _ _ _ _ _ _ _ _ _ _ _ _ _ _ _ _ _ _ _ ?hP ?hT ?h1 ?h2 ?h3 ?h4) ?k1 ?k2 ?k3 ?k4 ?kS ?k5 ?kd ?ku ?kC ?_; (case hP => with_reducible assumption); (case hT => with_reducible assumption); (( (case k1 => first | k_asm | fail "use: below"); (case k2 => first | k_asm | fail "use: the frame"); (case k3 => first | k_asm | fail "use: the part"); (case k4 => first | k_asm | fail "use: the ledger"); (case kS => first | lcg_sub | fail "use: what is handed in"); (case k5 => first | k_asm | fail "use: the top"); (case kd => first | k_room | fail "use: room"); (case ku => first | k_units | fail "use: units"); (case kC => first | assumption | fail "use: the table"))); (case h1 => with_reducible assumption); (case h2 => with_reducible assumption); (case h3 => with_reducible assumption); (case h4 => with_reducible assumption); ((intro t9 h9 tk9 F9 N9; (try dsimp only); (try k_fold))))) | ((with_reducible show wpAny _ _ (call (Value.ref 87) [_, _, Value.int 0 _, _, _]) _ _ _); (refine' Ctr.useInt (ctr_row_by_column0 _ _ _ _ _ _ _ _ _ _ _ _ _ _ _ _ _ _ _ _ _ _ _ _ _ _ _ _ _ _ ?hP ?hT ?h1 ?h2 ?h3 ?h4) ?k1 ?k2 ?k3 ?k4 ?kS ?k5 ?kd ?ku ?kC ?_; (case hP => with_reducible assumption); (case hT => with_reducible assumption); (( (case k1 => first | k_asm | fail "use: below"); (case k2 => first | k_asm | fail "use: the frame"); (case k3 => first | k_asm | fail "use: the part"); (case k4 => first | k_asm | fail "use: the ledger"); (case kS => first | lcg_sub | fail "use: what is handed in"); (case k5 => first | k_asm | fail "use: the top"); (case kd => first | k_room | fail "use: room"); (case ku => first | k_units | fail "use: units"); (case kC => first | assumption | fail "use: the table"))); (case h1 => with_reducible assumption); (case h2 => with_reducible assumption); (case h3 => with_reducible assumption); (case h4 => with_reducible assumption); ((intro t9 h9 tk9 F9 N9; (try dsimp only); (try k_fold))))) | ((with_reducible show wpAny _ _ (call (Value.ref 65) _) _ _ _); (refine' Ctr.useTup (ctr_grid_shape _ _ _ _ _ _ _ _) ?k1 ?k2 ?k3 ?k4 ?kS ?k5 ?kd ?ku ?kC ?_; (( (case k1 => first | k_asm | fail "use: below"); (case k2 => first | k_asm | fail "use: the frame"); (case k3 => first | k_asm | fail "use: the part"); (case k4 => first | k_asm | fail "use: the ledger"); (case kS => first | lcg_sub | fail "use: what is handed in"); (case k5 => first | k_asm | fail "use: the top"); (case kd => first | k_room | fail "use: room"); (case ku => first | k_units | fail "use: units"); (case kC => first | assumption | fail "use: the table"))); ((intro D9 n9 t9 u9 h9 tk9 F9 N9 P9; (try dsimp only); (try k_fold))))))); k_steps)))
  refine gp_src (X0 := 0 + a * e + b * g) (Y0 := 0 + a * f + b * h) (X1 := 0 + c * e + d * g) (Y1 := 0 + c * f + d * h) rfl (by k_asm) (by k_asm) (by k_mem) ⟨_, by assumption⟩ (by rfl) (by walk_at "ctr off") (by walk_at "ctr off") ?_ ?_ ?_
  · intro I oI oK hh9 tk E' hK F N o1 o2 ne ofd
    (k_steps; (repeat' ((refine unstop ?_; (first | ((with_reducible show wpAny _ _ (call (Value.ref 87) [_, _, Value.int 1 _, _, _]) _ _ _); (refine' Ctr.useInt (ctr_row_by_column1 _ _ _ _ _ _ _ _ _ _ _ _ _ _ _ _ _ _ _ _ _ _ _ _ _ _ _ _ _ _ ?hP ?hT ?h1 ?h2 ?h3 ?h4) ?k1 ?k2 ?k3 ?k4 ?kS ?k5 ?kd ?ku ?kC ?_; (case hP => with_reducible assumption); (case hT => with_reducible assumption); (( (case k1 => first | k_asm | fail "use: below"); (case k2 => first | k_asm | fail "use: the frame"); (case k3 => first | k_asm | fail "use: the part"); (case k4 => first | k_asm | fail "use: the ledger"); (case kS => first | lcg_sub | fail "use: what is handed in"); (case k5 => first | k_asm | fail "use: the top"); (case kd => first | k_room | fail "use: room"); (case ku => first | k_units | fail "use: units"); (case kC => first | assumption | fail "use: the table"))); (case h1 => with_reducible assumption); (case h2 => with_reducible assumption); (case h3 => with_reducible assumption); (case h4 => with_reducible assumption); ((intro t9 h9 tk9 F9 N9; (try dsimp only); (try k_fold))))) | ((with_reducible show wpAny _ _ (call (Value.ref 87) [_, _, Value.int 0 _, _, _]) _ _ _); (refine' Ctr.useInt (ctr_row_by_column0 _ _ _ _ _ _ _ _ _ _ _ _ _ _ _ _ _ _ _ _ _ _ _ _ _ _ _ _ _ _ ?hP ?hT ?h1 ?h2 ?h3 ?h4) ?k1 ?k2 ?k3 ?k4 ?kS ?k5 ?kd ?ku ?kC ?_; (case hP => with_reducible assumption); (case hT => with_reducible assumption); (( (case k1 => first | k_asm | fail "use: below"); (case k2 => first | k_asm | fail "use: the frame"); (case k3 => first | k_asm | fail "use: the part"); (case k4 => first | k_asm | fail "use: the ledger"); (case kS => first | lcg_sub | fail "use: what is handed in"); (case k5 => first | k_asm | fail "use: the top"); (case kd => first | k_room | fail "use: room"); (case ku => first | k_units | fail "use: units"); (case kC => first | assumption | fail "use: the table"))); (case h1 => with_reducible assumption); (case h2 => with_reducible assumption); (case h3 => with_reducible assumption); (case h4 => with_reducible assumption); ((intro t9 h9 tk9 F9 N9; (try dsimp only); (try k_fold))))) | ((with_reducible show wpAny _ _ (call (Value.ref 65) _) _ _ _); (refine' Ctr.useTup (ctr_grid_shape _ _ _ _ _ _ _ _) ?k1 ?k2 ?k3 ?k4 ?kS ?k5 ?kd ?ku ?kC ?_; (( (case k1 => first | k_asm | fail "use: below"); (case k2 => first | k_asm | fail "use: the frame"); (case k3 => first | k_asm | fail "use: the part"); (case k4 => first | k_asm | fail "use: the ledger"); (case kS => first | lcg_sub | fail "use: what is handed in"); (case k5 => first | k_asm | fail "use: the top"); (case kd => first | k_room | fail "use: room"); (case ku => first | k_units | fail "use: units"); (case kC => first | assumption | fail "use: the table"))); ((intro D9 n9 t9 u9 h9 tk9 F9 N9 P9; (try dsimp only); (try k_fold))))))); k_steps)))
    (k_steps; (repeat' ((refine unstop ?_; (first | ((with_reducible show wpAny _ _ (call (Value.ref 87) [_, _, Value.int 1 _, _, _]) _ _ _); (refine' Ctr.useInt (ctr_row_by_column1 _ _ _ _ _ _ _ _ _ _ _ _ _ _ _ _ _ _ _ _ _ _ _ _ _ _ _ _ _ _ ?hP ?hT ?h1 ?h2 ?h3 ?h4) ?k1 ?k2 ?k3 ?k4 ?kS ?k5 ?kd ?ku ?kC ?_; (case hP => with_reducible assumption); (case hT => with_reducible assumption); (( (case k1 => first | k_asm | fail "use: below"); (case k2 => first | k_asm | fail "use: the frame"); (case k3 => first | k_asm | fail "use: the part"); (case k4 => first | k_asm | fail "use: the ledger"); (case kS => first | lcg_sub | fail "use: what is handed in"); (case k5 => first | k_asm | fail "use: the top"); (case kd => first | k_room | fail "use: room"); (case ku => first | k_units | fail "use: units"); (case kC => first | assumption | fail "use: the table"))); (case h1 => with_reducible assumption); (case h2 => with_reducible assumption); (case h3 => with_reducible assumption); (case h4 => with_reducible assumption); ((intro t9 h9 tk9 F9 N9; (try dsimp only); (try k_fold))))) | ((with_reducible show wpAny _ _ (call (Value.ref 87) [_, _, Value.int 0 _, _, _]) _ _ _); (refine' Ctr.useInt (ctr_row_by_column0 _ _ _ _ _ _ _ _ _ _ _ _ _ _ _ _ _ _ _ _ _ _ _ _ _ _ _ _ _ _ ?hP ?hT ?h1 ?h2 ?h3 ?h4) ?k1 ?k2 ?k3 ?k4 ?kS ?k5 ?kd ?ku ?kC ?_; (case hP => with_reducible assumption); (case hT => with_reducible assumption); (( (case k1 => first | k_asm | fail "use: below"); (case k2 => first | k_asm | fail "use: the frame"); (case k3 => first | k_asm | fail "use: the part"); (case k4 => first | k_asm | fail "use: the ledger"); (case kS => first | lcg_sub | fail "use: what is handed in"); (case k5 => first | k_asm | fail "use: the top"); (case kd => first | k_room | fail "use: room"); (case ku => first | k_units | fail "use: units"); (case kC => first | assumption | fail "use: the table"))); (case h1 => with_reducible assumption); (case h2 => with_reducible assumption); (case h3 => with_reducible assumption); (case h4 => with_reducible assumption); ((intro t9 h9 tk9 F9 N9; (try dsimp only); (try k_fold))))) | ((with_reducible show wpAny _ _ (call (Value.ref 65) _) _ _ _); (refine' Ctr.useTup (ctr_grid_shape _ _ _ _ _ _ _ _) ?k1 ?k2 ?k3 ?k4 ?kS ?k5 ?kd ?ku ?kC ?_; (( (case k1 => first | k_asm | fail "use: below"); (case k2 => first | k_asm | fail "use: the frame"); (case k3 => first | k_asm | fail "use: the part"); (case k4 => first | k_asm | fail "use: the ledger"); (case kS => first | lcg_sub | fail "use: what is handed in"); (case k5 => first | k_asm | fail "use: the top"); (case kd => first | k_room | fail "use: room"); (case ku => first | k_units | fail "use: units"); (case kC => first | assumption | fail "use: the table"))); ((intro D9 n9 t9 u9 h9 tk9 F9 N9 P9; (try dsimp only); (try k_fold))))))); k_steps)))
    exact row1_end (by k_asm) (by k_asm) (by assumption) o1 o2 ofd
  · intro q u v n n' I oI oK hh9 tk E' hK F N o1 o2 ne oq ofd
    (k_steps; (repeat' ((refine unstop ?_; (first | ((with_reducible show wpAny _ _ (call (Value.ref 87) [_, _, Value.int 1 _, _, _]) _ _ _); (refine' Ctr.useInt (ctr_row_by_column1 _ _ _ _ _ _ _ _ _ _ _ _ _ _ _ _ _ _ _ _ _ _ _ _ _ _ _ _ _ _ ?hP ?hT ?h1 ?h2 ?h3 ?h4) ?k1 ?k2 ?k3 ?k4 ?kS ?k5 ?kd ?ku ?kC ?_; (case hP => with_reducible assumption); (case hT => with_reducible assumption); (( (case k1 => first | k_asm | fail "use: below"); (case k2 => first | k_asm | fail "use: the frame"); (case k3 => first | k_asm | fail "use: the part"); (case k4 => first | k_asm | fail "use: the ledger"); (case kS => first | lcg_sub | fail "use: what is handed in"); (case k5 => first | k_asm | fail "use: the top"); (case kd => first | k_room | fail "use: room"); (case ku => first | k_units | fail "use: units"); (case kC => first | assumption | fail "use: the table"))); (case h1 => with_reducible assumption); (case h2 => with_reducible assumption); (case h3 => with_reducible assumption); (case h4 => with_reducible assumption); ((intro t9 h9 tk9 F9 N9; (try dsimp only); (try k_fold))))) | ((with_reducible show wpAny _ _ (call (Value.ref 87) [_, _, Value.int 0 _, _, _]) _ _ _); (refine' Ctr.useInt (ctr_row_by_column0 _ _ _ _ _ _ _ _ _ _ _ _ _ _ _ _ _ _ _ _ _ _ _ _ _ _ _ _ _ _ ?hP ?hT ?h1 ?h2 ?h3 ?h4) ?k1 ?k2 ?k3 ?k4 ?kS ?k5 ?kd ?ku ?kC ?_; (case hP => with_reducible assumption); (case hT => with_reducible assumption); (( (case k1 => first | k_asm | fail "use: below"); (case k2 => first | k_asm | fail "use: the frame"); (case k3 => first | k_asm | fail "use: the part"); (case k4 => first | k_asm | fail "use: the ledger"); (case kS => first | lcg_sub | fail "use: what is handed in"); (case k5 => first | k_asm | fail "use: the top"); (case kd => first | k_room | fail "use: room"); (case ku => first | k_units | fail "use: units"); (case kC => first | assumption | fail "use: the table"))); (case h1 => with_reducible assumption); (case h2 => with_reducible assumption); (case h3 => with_reducible assumption); (case h4 => with_reducible assumption); ((intro t9 h9 tk9 F9 N9; (try dsimp only); (try k_fold))))) | ((with_reducible show wpAny _ _ (call (Value.ref 65) _) _ _ _); (refine' Ctr.useTup (ctr_grid_shape _ _ _ _ _ _ _ _) ?k1 ?k2 ?k3 ?k4 ?kS ?k5 ?kd ?ku ?kC ?_; (( (case k1 => first | k_asm | fail "use: below"); (case k2 => first | k_asm | fail "use: the frame"); (case k3 => first | k_asm | fail "use: the part"); (case k4 => first | k_asm | fail "use: the ledger"); (case kS => first | lcg_sub | fail "use: what is handed in"); (case k5 => first | k_asm | fail "use: the top"); (case kd => first | k_room | fail "use: room"); (case ku => first | k_units | fail "use: units"); (case kC => first | assumption | fail "use: the table"))); ((intro D9 n9 t9 u9 h9 tk9 F9 N9 P9; (try dsimp only); (try k_fold))))))); k_steps)))
    (k_steps; (repeat' ((refine unstop ?_; (first | ((with_reducible show wpAny _ _ (call (Value.ref 87) [_, _, Value.int 1 _, _, _]) _ _ _); (refine' Ctr.useInt (ctr_row_by_column1 _ _ _ _ _ _ _ _ _ _ _ _ _ _ _ _ _ _ _ _ _ _ _ _ _ _ _ _ _ _ ?hP ?hT ?h1 ?h2 ?h3 ?h4) ?k1 ?k2 ?k3 ?k4 ?kS ?k5 ?kd ?ku ?kC ?_; (case hP => with_reducible assumption); (case hT => with_reducible assumption); (( (case k1 => first | k_asm | fail "use: below"); (case k2 => first | k_asm | fail "use: the frame"); (case k3 => first | k_asm | fail "use: the part"); (case k4 => first | k_asm | fail "use: the ledger"); (case kS => first | lcg_sub | fail "use: what is handed in"); (case k5 => first | k_asm | fail "use: the top"); (case kd => first | k_room | fail "use: room"); (case ku => first | k_units | fail "use: units"); (case kC => first | assumption | fail "use: the table"))); (case h1 => with_reducible assumption); (case h2 => with_reducible assumption); (case h3 => with_reducible assumption); (case h4 => with_reducible assumption); ((intro t9 h9 tk9 F9 N9; (try dsimp only); (try k_fold))))) | ((with_reducible show wpAny _ _ (call (Value.ref 87) [_, _, Value.int 0 _, _, _]) _ _ _); (refine' Ctr.useInt (ctr_row_by_column0 _ _ _ _ _ _ _ _ _ _ _ _ _ _ _ _ _ _ _ _ _ _ _ _ _ _ _ _ _ _ ?hP ?hT ?h1 ?h2 ?h3 ?h4) ?k1 ?k2 ?k3 ?k4 ?kS ?k5 ?kd ?ku ?kC ?_; (case hP => with_reducible assumption); (case hT => with_reducible assumption); (( (case k1 => first | k_asm | fail "use: below"); (case k2 => first | k_asm | fail "use: the frame"); (case k3 => first | k_asm | fail "use: the part"); (case k4 => first | k_asm | fail "use: the ledger"); (case kS => first | lcg_sub | fail "use: what is handed in"); (case k5 => first | k_asm | fail "use: the top"); (case kd => first | k_room | fail "use: room"); (case ku => first | k_units | fail "use: units"); (case kC => first | assumption | fail "use: the table"))); (case h1 => with_reducible assumption); (case h2 => with_reducible assumption); (case h3 => with_reducible assumption); (case h4 => with_reducible assumption); ((intro t9 h9 tk9 F9 N9; (try dsimp only); (try k_fold))))) | ((with_reducible show wpAny _ _ (call (Value.ref 65) _) _ _ _); (refine' Ctr.useTup (ctr_grid_shape _ _ _ _ _ _ _ _) ?k1 ?k2 ?k3 ?k4 ?kS ?k5 ?kd ?ku ?kC ?_; (( (case k1 => first | k_asm | fail "use: below"); (case k2 => first | k_asm | fail "use: the frame"); (case k3 => first | k_asm | fail "use: the part"); (case k4 => first | k_asm | fail "use: the ledger"); (case kS => first | lcg_sub | fail "use: what is handed in"); (case k5 => first | k_asm | fail "use: the top"); (case kd => first | k_room | fail "use: room"); (case ku => first | k_units | fail "use: units"); (case kC => first | assumption | fail "use: the table"))); ((intro D9 n9 t9 u9 h9 tk9 F9 N9 P9; (try dsimp only); (try k_fold))))))); k_steps)))
    exact row2_end (by k_asm) (by k_asm) (by assumption) o1 o2 oq ofd
  · intro q q' u v u' v' n n' n'' hh9 tk F N oq oq' ofd
    (k_steps; (repeat' ((refine unstop ?_; (first | ((with_reducible show wpAny _ _ (call (Value.ref 87) [_, _, Value.int 1 _, _, _]) _ _ _); (refine' Ctr.useInt (ctr_row_by_column1 _ _ _ _ _ _ _ _ _ _ _ _ _ _ _ _ _ _ _ _ _ _ _ _ _ _ _ _ _ _ ?hP ?hT ?h1 ?h2 ?h3 ?h4) ?k1 ?k2 ?k3 ?k4 ?kS ?k5 ?kd ?ku ?kC ?_; (case hP => with_reducible assumption); (case hT => with_reducible assumption); (( (case k1 => first | k_asm | fail "use: below"); (case k2 => first | k_asm | fail "use: the frame"); (case k3 => first | k_asm | fail "use: the part"); (case k4 => first | k_asm | fail "use: the ledger"); (case kS => first | lcg_sub | fail "use: what is handed in"); (case k5 => first | k_asm | fail "use: the top"); (case kd => first | k_room | fail "use: room"); (case ku => first | k_units | fail "use: units"); (case kC => first | assumption | fail "use: the table"))); (case h1 => with_reducible assumption); (case h2 => with_reducible assumption); (case h3 => with_reducible assumption); (case h4 => with_reducible assumption); ((intro t9 h9 tk9 F9 N9; (try dsimp only); (try k_fold))))) | ((with_reducible show wpAny _ _ (call (Value.ref 87) [_, _, Value.int 0 _, _, _]) _ _ _); (refine' Ctr.useInt (ctr_row_by_column0 _ _ _ _ _ _ _ _ _ _ _ _ _ _ _ _ _ _ _ _ _ _ _ _ _ _ _ _ _ _ ?hP ?hT ?h1 ?h2 ?h3 ?h4) ?k1 ?k2 ?k3 ?k4 ?kS ?k5 ?kd ?ku ?kC ?_; (case hP => with_reducible assumption); (case hT => with_reducible assumption); (( (case k1 => first | k_asm | fail "use: below"); (case k2 => first | k_asm | fail "use: the frame"); (case k3 => first | k_asm | fail "use: the part"); (case k4 => first | k_asm | fail "use: the ledger"); (case kS => first | lcg_sub | fail "use: what is handed in"); (case k5 => first | k_asm | fail "use: the top"); (case kd => first | k_room | fail "use: room"); (case ku => first | k_units | fail "use: units"); (case kC => first | assumption | fail "use: the table"))); (case h1 => with_reducible assumption); (case h2 => with_reducible assumption); (case h3 => with_reducible assumption); (case h4 => with_reducible assumption); ((intro t9 h9 tk9 F9 N9; (try dsimp only); (try k_fold))))) | ((with_reducible show wpAny _ _ (call (Value.ref 65) _) _ _ _); (refine' Ctr.useTup (ctr_grid_shape _ _ _ _ _ _ _ _) ?k1 ?k2 ?k3 ?k4 ?kS ?k5 ?kd ?ku ?kC ?_; (( (case k1 => first | k_asm | fail "use: below"); (case k2 => first | k_asm | fail "use: the frame"); (case k3 => first | k_asm | fail "use: the part"); (case k4 => first | k_asm | fail "use: the ledger"); (case kS => first | lcg_sub | fail "use: what is handed in"); (case k5 => first | k_asm | fail "use: the top"); (case kd => first | k_room | fail "use: room"); (case ku => first | k_units | fail "use: units"); (case kC => first | assumption | fail "use: the table"))); ((intro D9 n9 t9 u9 h9 tk9 F9 N9 P9; (try dsimp only); (try k_fold))))))); k_steps)))
    (k_steps; (repeat' ((refine unstop ?_; (first | ((with_reducible show wpAny _ _ (call (Value.ref 87) [_, _, Value.int 1 _, _, _]) _ _ _); (refine' Ctr.useInt (ctr_row_by_column1 _ _ _ _ _ _ _ _ _ _ _ _ _ _ _ _ _ _ _ _ _ _ _ _ _ _ _ _ _ _ ?hP ?hT ?h1 ?h2 ?h3 ?h4) ?k1 ?k2 ?k3 ?k4 ?kS ?k5 ?kd ?ku ?kC ?_; (case hP => with_reducible assumption); (case hT => with_reducible assumption); (( (case k1 => first | k_asm | fail "use: below"); (case k2 => first | k_asm | fail "use: the frame"); (case k3 => first | k_asm | fail "use: the part"); (case k4 => first | k_asm | fail "use: the ledger"); (case kS => first | lcg_sub | fail "use: what is handed in"); (case k5 => first | k_asm | fail "use: the top"); (case kd => first | k_room | fail "use: room"); (case ku => first | k_units | fail "use: units"); (case kC => first | assumption | fail "use: the table"))); (case h1 => with_reducible assumption); (case h2 => with_reducible assumption); (case h3 => with_reducible assumption); (case h4 => with_reducible assumption); ((intro t9 h9 tk9 F9 N9; (try dsimp only); (try k_fold))))) | ((with_reducible show wpAny _ _ (call (Value.ref 87) [_, _, Value.int 0 _, _, _]) _ _ _); (refine' Ctr.useInt (ctr_row_by_column0 _ _ _ _ _ _ _ _ _ _ _ _ _ _ _ _ _ _ _ _ _ _ _ _ _ _ _ _ _ _ ?hP ?hT ?h1 ?h2 ?h3 ?h4) ?k1 ?k2 ?k3 ?k4 ?kS ?k5 ?kd ?ku ?kC ?_; (case hP => with_reducible assumption); (case hT => with_reducible assumption); (( (case k1 => first | k_asm | fail "use: below"); (case k2 => first | k_asm | fail "use: the frame"); (case k3 => first | k_asm | fail "use: the part"); (case k4 => first | k_asm | fail "use: the ledger"); (case kS => first | lcg_sub | fail "use: what is handed in"); (case k5 => first | k_asm | fail "use: the top"); (case kd => first | k_room | fail "use: room"); (case ku => first | k_units | fail "use: units"); (case kC => first | assumption | fail "use: the table"))); (case h1 => with_reducible assumption); (case h2 => with_reducible assumption); (case h3 => with_reducible assumption); (case h4 => with_reducible assumption); ((intro t9 h9 tk9 F9 N9; (try dsimp only); (try k_fold))))) | ((with_reducible show wpAny _ _ (call (Value.ref 65) _) _ _ _); (refine' Ctr.useTup (ctr_grid_shape _ _ _ _ _ _ _ _) ?k1 ?k2 ?k3 ?k4 ?kS ?k5 ?kd ?ku ?kC ?_; (( (case k1 => first | k_asm | fail "use: below"); (case k2 => first | k_asm | fail "use: the frame"); (case k3 => first | k_asm | fail "use: the part"); (case k4 => first | k_asm | fail "use: the ledger"); (case kS => first | lcg_sub | fail "use: what is handed in"); (case k5 => first | k_asm | fail "use: the top"); (case kd => first | k_room | fail "use: room"); (case ku => first | k_units | fail "use: units"); (case kC => first | assumption | fail "use: the table"))); ((intro D9 n9 t9 u9 h9 tk9 F9 N9 P9; (try dsimp only); (try k_fold))))))); k_steps)))
    exact ret_grid hret (by k_asm) (by k_asm) (by (exact kept_of (by assumption) (by assumption) (by assumption))) (by lcg_sub) (by k_mem) (by k_mem) (by k_mem) rfl rfl rfl rfl (by walk_at "ctr off") (by walk_at "ctr off") (by walk_at "ctr off") (by k_ne) (by k_ne) (by k_ne)
end
theorem walk_off_L1 : True := by
  w_top off
  trivial
-- L1
section
open PySem PySem.W PyProof.Rows
set_option linter.unusedVariables false
set_option maxRecDepth 100000
set_option maxHeartbeats 8000000
section
variable {prog : Program} {w : World} {A A₀ : Around} {s : Shared} {K : Frag} {L : Addr} {h₀ base : Heap} {m mg mb : Str → Option Value} {news : Led} {p : Program} {loose : List Str} {mean : ExcName → Option Value}
theorem lam_in {env : Env} {outer : List Env} {R : Result → Shared → Prop} {name qual : Str} {params : Arguments} {body : Expr} {scope : Scope} {cl : List (Str × Addr)} {pm ctv : Value} {c' : Addr} {f : Addr} {args : Args} {binds : List (Str × Value)}
    (B : Below A₀ base outer h₀) (F : Fr h₀ L s.heap m) (X₀ : K.In h₀) (N : News h₀ L s.heap news) (T : Top p loose mean mg mb h₀) (hA : A.frames = some (env :: outer)) (hf : env.frame = some L) (hke : env.scope.kind = .function)
    (ho : (f, kla_obj name qual params body scope cl pm c' ctv) ∈ news) (hcd : s.heap.CodeRec (.ref c') qual) (hroom : A.depth < recursionLimit)
    (hbind : bindArgs (kla_fn name qual params body scope cl pm (.ref c') ctv) args = pure binds) (hloc : ∀ y ∈ binds, scope.names.lookup y.1 = some .local)
    (h : ∀ g L' h₁, Hide s.heap news g → Fr h₀ L g m → Fr g L' h₁ (fun y => binds.reverse.lookup y) → News g L' h₁ news → Below A base (env :: outer) g → K.In g → Top p loose mean mg mb g →
      wpAny (model prog w) (A.deeper (envX qual scope L' f (.ref c') cl)) (eval body (envX qual scope L' f (.ref c') cl))
        (fun v s' => LeaveK h₀ L m g R v s')
        (fun e s' => wpAny (model prog w) (A.deeper (envX qual scope L' f (.ref c') cl)) (leaving (envX qual scope L' f (.ref c') cl) e) (fun _ s'' => R (.error e) s'') (fun e' s'' => R (.error e') s'') s')
        { s with heap := h₁, toks := s.toks + binds.length })
    (hco : scope.isCoroutine = false) (hgen : scope.isGenerator = false) (hk : scope.kind = .function)
    (hcell : ∀ x ∈ scope.names, x.2 ≠ .cell) : codeAny (model prog w) A (.call (.ref f) args) R s := by
  have G := groundX (R := R) B F N hA hf hke
  have old : ∀ {oD : Obj} {h₁ : Heap} {b : Addr} {o : Obj}, Heap.SameBut s.heap.objs.size (s.heap.push oD) h₁ → s.heap.get? b = some o → h₁.get? b = some o :=
    fun hsb e => hsb.extBut _ _ (Nat.ne_of_lt (Heap.lt_size e)) (Heap.get?_push_of_some _ e)
  refine kla_callFunE hroom (N _ ho).1 rfl hco hgen rfl hcd ?_
  rw [hbind]
  refine wpAny_pure (wpAny_newFunctionEnv hcell hloc (fun h₁ hns hsb => ?_) hk)
  refine ⟨((T.nolimit).keeps F.keep).fresh _ hsb, kla_codeExpr ?_⟩
  refine wpAny_mono (h _ s.heap.objs.size h₁ hide_all G.1 ?_ ?_ G.2.1 (X₀.keeps G.2.2.1) (T.keeps G.2.2.1)) (fun v s' hl => G.2.2.2 v s' hl) fun _ _ y => y
  · exact ⟨hns, fun b o e => old hsb (of_hideAll _ e), Nat.le_of_eq (hideAll_size _ _)⟩
  · exact fun q hq => ⟨old hsb (N q hq).1, Nat.ne_of_lt (Heap.lt_size (N q hq).1), hideAll_none _ (List.mem_map_of_mem hq)⟩
end
noncomputable abbrev lamPars (p1 p2 : Pos) : Arguments := { posonlyargs := [], args := [{ arg := "one", annotation := none, pos := p1 }, { arg := "other", annotation := none, pos := p2 }], vararg := none, kwonlyargs := [], kw_defaults := [], kwarg := none, defaults := [] }
noncomputable abbrev lamBody (op : Operator) (p1 p2 p3 : Pos) : Expr := .BinOp (.Name "one" p1) op (.Name "other" p2) p3
noncomputable abbrev lamScope : Scope := { kind := .function, names := [(Str.ofString "one", .local), (Str.ofString "other", .local)], isGenerator := false, isCoroutine := false, more := [] }
theorem lam_plus {w : World} {f c : Addr} {pm ctv : Value} {oc : Obj} {vs : Array Value} {t : Tok} {name qual : Str} {p1 p2 p3 p4 p5 : Pos} (hd : oc.data = .fields vs) (hv : vs[1]? = some (.str qual t)) :
    IsPlus w f c (kla_fn name qual (lamPars p1 p2) (lamBody .Add p3 p4 p5) lamScope [] pm (.ref c) ctv) oc := by
  intro x y tx ty
  unfold CtrR Ctr; k_fill
  intro p loose mean mg mb dp un gd cn nms9 ig9 ic9 mo9 a9 ccd cl outer A₀ base h₀ L m s Q E B F X N T hdp hun hC hret
  refine wpAny_call ?_
  (k_dflt (refine' lam_in ?k1 ?k2 ?k3 ?k4 ?k5 ?kA ?kF ?kK ?k6 ?k7 ?k8 ?k9 ?kB ?_ ?c2 ?c3 ?c4 ?c5; (case kA => exact rfl); (case kF => exact rfl); (case kK => exact rfl); (case k1 => k_asm); (case k2 => k_asm); (case k3 => k_asm); (case k4 => k_asm); (case k5 => k_asm); (case k6 => k_mem); (case k7 => exact codeRec_news (by k_asm) (by k_mem) (by assumption) (by assumption)); (case k8 => k_room); (case k9 => exact rfl); (case c5 => decide); (case kB => exact locs rfl); (case c2 => exact rfl); (case c3 => exact rfl); (case c4 => exact rfl); k_whole; intro g' L' h' H' FG' F' N' B' X' T'; (try dsimp only); (try k_lift B'); (try k_fold)))
  k_steps
  exact ret_int hret (by k_asm) (by k_asm) (by (exact kept_of (by assumption) (by assumption) (by assumption))) (by lcg_sub) rfl
theorem lam_times {w : World} {f c : Addr} {pm ctv : Value} {oc : Obj} {vs : Array Value} {t : Tok} {name qual : Str} {p1 p2 p3 p4 p5 : Pos} (hd : oc.data = .fields vs) (hv : vs[1]? = some (.str qual t)) :
    IsTimes w f c (kla_fn name qual (lamPars p1 p2) (lamBody .Mult p3 p4 p5) lamScope [] pm (.ref c) ctv) oc := by
  intro x y tx ty hx1 hx2
  unfold CtrR Ctr; k_fill
  intro p loose mean mg mb dp un gd cn nms9 ig9 ic9 mo9 a9 ccd cl outer A₀ base h₀ L m s Q E B F X N T hdp hun hC hret
  refine wpAny_call ?_
  (k_dflt (refine' lam_in ?k1 ?k2 ?k3 ?k4 ?k5 ?kA ?kF ?kK ?k6 ?k7 ?k8 ?k9 ?kB ?_ ?c2 ?c3 ?c4 ?c5; (case kA => exact rfl); (case kF => exact rfl); (case kK => exact rfl); (case k1 => k_asm); (case k2 => k_asm); (case k3 => k_asm); (case k4 => k_asm); (case k5 => k_asm); (case k6 => k_mem); (case k7 => exact codeRec_news (by k_asm) (by k_mem) (by assumption) (by assumption)); (case k8 => k_room); (case k9 => exact rfl); (case c5 => decide); (case kB => exact locs rfl); (case c2 => exact rfl); (case c3 => exact rfl); (case c4 => exact rfl); k_whole; intro g' L' h' H' FG' F' N' B' X' T'; (try dsimp only); (try k_lift B'); (try k_fold)))
  k_steps
  exact ret_int hret (by k_asm) (by k_asm) (by (exact kept_of (by assumption) (by assumption) (by assumption))) (by lcg_sub) rfl
end
local macro_rules | `(tactic| walk_at "exec For Name Name cons nil") => `(tactic| (k_here; k_dflt (refine for_text [Str.ofString "step_grid"] (F₀ := by k_asm) (by rfl) (by rfl) (by rfl) ?_)))
local macro_rules | `(tactic| k_all) => `(tactic| first | exact off1_mem (by with_reducible assumption))
theorem walk_off_FG : True := by
  w_top off
  trivial
-- FG
section
open PySem PySem.W PyProof.Rows
set_option linter.unusedVariables false
set_option maxRecDepth 100000
set_option maxHeartbeats 8000000
theorem last_at {ini : List Value} {x : Value} : (ini ++ [x])[((-1 : Int) + ((ini ++ [x]).length : Int)).toNat]? = some x := by
  have : ((-1 : Int) + ((ini ++ [x]).length : Int)).toNat = ini.length := by simp only [List.length_append, List.length_singleton]; omega
  rw [this, List.getElem?_append_right (Nat.le_refl _)]
  simp
theorem last_in {ini : List Value} {x : Value} : -((ini ++ [x]).length : Int) ≤ -1 := by simp only [List.length_append, List.length_singleton]; omega
local macro_rules | `(tactic| walk_at "subscriptTail Name UnaryOp ref int") => `(tactic| (k_here; k_dflt (refine kim_back (by k_asm) (by k_mem) rfl rfl (by decide) last_in (by decide) last_at ?_)))
/-- the ledger between two turns -/
noncomputable abbrev GrJ (ws : List Bool) (G : Addr) (tab : Led) (i : Nat) (nw : Led) : Prop := ∃ ini n g r0 r1 n0 n1 n2 t0 t1 t2 t3 rest, nw = (G, listOf (ini ++ [Value.ref g]).toArray n) :: (g, listOf #[.ref r0, .ref r1] n0) :: (r0, listOf #[.int (gridOf (ws.take i)).1 t0, .int (gridOf (ws.take i)).2.1 t1] n1) :: (r1, listOf #[.int (gridOf (ws.take i)).2.2.1 t2, .int (gridOf (ws.take i)).2.2.2 t3] n2) :: (tab ++ rest) ∧
  ini.length = i ∧ (∀ j, j < i → ∃ gv, ini[j]? = some gv ∧ HasGrid rest gv (gridOf (ws.take j))) ∧ LCg.Off1 G ((g, listOf #[.ref r0, .ref r1] n0) :: (r0, listOf #[.int (gridOf (ws.take i)).1 t0, .int (gridOf (ws.take i)).2.1 t1] n1) :: (r1, listOf #[.int (gridOf (ws.take i)).2.2.1 t2, .int (gridOf (ws.take i)).2.2.2 t3] n2) :: (tab ++ rest)) ∧ Apt ((g, listOf #[.ref r0, .ref r1] n0) :: (r0, listOf #[.int (gridOf (ws.take i)).1 t0, .int (gridOf (ws.take i)).2.1 t1] n1) :: (r1, listOf #[.int (gridOf (ws.take i)).2.2.1 t2, .int (gridOf (ws.take i)).2.2.2 t3] n2) :: rest) tab
section
variable {prog : Program} {A : Around} {E : Value → Shared → Prop} {s₁ : Shared} {h₀ : Heap} {L : Addr} {m : Str → Option Value} {env : Env}
theorem grids_src {w : World} {x : Str} {ns : List Str} {body : List Stmt} {Q : Flow → Shared → Prop} {ws : List Bool} {t : Tok} {G g r0 r1 : Addr} {n n0 n1 n2 : Nat} {t0 t1 t2 t3 : Tok} {tab : Led} (hh : A.handled = none) (F : Fr h₀ L s₁.heap m)
    (N : News h₀ L s₁.heap ((G, listOf #[.ref g] n) :: (g, listOf #[.ref r0, .ref r1] n0) :: (r0, listOf #[.int 1 t0, .int 0 t1] n1) :: (r1, listOf #[.int 0 t2, .int 1 t3] n2) :: tab))
    (oG : LCg.Off1 G ((g, listOf #[.ref r0, .ref r1] n0) :: (r0, listOf #[.int 1 t0, .int 0 t1] n1) :: (r1, listOf #[.int 0 t2, .int 1 t3] n2) :: tab))
    (og : LCg.Off1 g tab) (o0 : LCg.Off1 r0 tab) (o1 : LCg.Off1 r1 tab)
    (turn : ∀ i b u m' I oI h tk (ini : List Value) n g r0 r1 n0 n1 n2 t0 t1 t2 t3 (rest : Led) (E' : Value → Shared → Prop), ws[i]? = some b → ini.length = i → (∀ j, j < i → ∃ gv, ini[j]? = some gv ∧ HasGrid rest gv (gridOf (ws.take j))) →
      LCg.Off1 G ((g, listOf #[.ref r0, .ref r1] n0) :: (r0, listOf #[.int (gridOf (ws.take i)).1 t0, .int (gridOf (ws.take i)).2.1 t1] n1) :: (r1, listOf #[.int (gridOf (ws.take i)).2.2.1 t2, .int (gridOf (ws.take i)).2.2.2 t3] n2) :: (tab ++ rest)) →
      Apt ((g, listOf #[.ref r0, .ref r1] n0) :: (r0, listOf #[.int (gridOf (ws.take i)).1 t0, .int (gridOf (ws.take i)).2.1 t1] n1) :: (r1, listOf #[.int (gridOf (ws.take i)).2.2.1 t2, .int (gridOf (ws.take i)).2.2.2 t3] n2) :: rest) tab → Fr h₀ L h (fun y => if y = x then some (.str ⟨#[sgn b]⟩ u) else forget ns m' m y) →
      News h₀ L h ((I, oI) :: (G, listOf (ini ++ [Value.ref g]).toArray n) :: (g, listOf #[.ref r0, .ref r1] n0) :: (r0, listOf #[.int (gridOf (ws.take i)).1 t0, .int (gridOf (ws.take i)).2.1 t1] n1) :: (r1, listOf #[.int (gridOf (ws.take i)).2.2.1 t2, .int (gridOf (ws.take i)).2.2.2 t3] n2) :: (tab ++ rest)) →
      LCg.Off1 I ((G, listOf (ini ++ [Value.ref g]).toArray n) :: (g, listOf #[.ref r0, .ref r1] n0) :: (r0, listOf #[.int (gridOf (ws.take i)).1 t0, .int (gridOf (ws.take i)).2.1 t1] n1) :: (r1, listOf #[.int (gridOf (ws.take i)).2.2.1 t2, .int (gridOf (ws.take i)).2.2.2 t3] n2) :: (tab ++ rest)) →
      wpAny (model prog w) A (execs body env) (TurnJ h₀ L m (x :: ns) { s₁ with heap := h, toks := tk } [(I, oI)] (GrJ ws G tab (i + 1))) E' { s₁ with heap := h, toks := tk })
    (fin : ∀ m' h tk nw, GrJ ws G tab ws.length nw → Fr h₀ L h (forget (x :: ns) m' m) → News h₀ L h nw → Q .next { s₁ with heap := h, toks := tk }) :
    TextSrc prog w A h₀ L m env x ns body Q (.str (txt ws) t) s₁ := by
  refine ⟨txt ws, t, _, GrJ ws G tab, rfl, txt_ascii ws, hh, F, N, ⟨[], n, g, r0, r1, n0, n1, n2, t0, t1, t2, t3, [], by simp [gridOf], rfl, fun j hj => absurd hj (Nat.not_lt_zero _), by simpa [gridOf] using oG, by simpa [gridOf] using apt_cons og (apt_cons o0 (apt_cons o1 apt_nil))⟩, ?_, ?_⟩
  · rintro i c u m' nw I oI h tk E' hc ⟨ini, n, g, r0, r1, n0, n1, n2, t0, t1, t2, t3, rest, rfl, hi, hj, oG, ap⟩ F N oI
    obtain ⟨b, hb, rfl⟩ := txt_at hc
    exact turn i b u m' I _ h tk ini n g r0 r1 n0 n1 n2 t0 t1 t2 t3 rest E' hb hi hj oG ap F N oI
  · intro m' nw h tk j F N
    rw [txt_size] at j
    exact fin m' h tk nw j F N
end
theorem bnd_of {ws : List Bool} (h : ws.length ≤ 6) : ((-1000 ≤ (gridOf ws).1 ∧ (gridOf ws).1 ≤ 1000) ∧ (-1000 ≤ (gridOf ws).2.1 ∧ (gridOf ws).2.1 ≤ 1000)) ∧ ((-1000 ≤ (gridOf ws).2.2.1 ∧ (gridOf ws).2.2.1 ≤ 1000) ∧ (-1000 ≤ (gridOf ws).2.2.2 ∧ (gridOf ws).2.2.2 ≤ 1000)) := by
  have h := okWay_of h
  simp only [okWay, decide_eq_true_eq] at h
  omega
theorem take_le {ws : List Bool} {i : Nat} (h : ws.length ≤ 6) : (ws.take i).length ≤ 6 := Nat.le_trans (List.length_take_le i ws |> fun _ => by rw [List.length_take]; omega) h
section
variable {s₁ : Shared} {h₀ : Heap} {L : Addr} {m : Str → Option Value}
theorem gr_end {ns : List Str} {ws : List Bool} {b : Bool} {i n k n0 n1 n2 k0 k1 k2 tk : Nat} {I G g r0 r1 g' q0 q1 : Addr} {oI : Obj} {ini : List Value} {t0 t1 t2 t3 u0 u1 u2 u3 : Tok} {a' b' c' d' : Int} {tab rest all : Led} {h' : Heap} {m' : Str → Option Value}
    (hb : ws[i]? = some b) (hi : ini.length = i) (hj : ∀ j, j < i → ∃ gv, ini[j]? = some gv ∧ HasGrid rest gv (gridOf (ws.take j))) (F : Fr h₀ L h' m') (N : News h₀ L h' all)
    (sI : (I, oI) ∈ all) (sG : (G, listOf ((ini ++ [Value.ref g]).toArray.push (.ref g')) k) ∈ all) (sg' : (g', listOf #[.ref q0, .ref q1] k0) ∈ all) (s0' : (q0, listOf #[.int a' u0, .int b' u1] k1) ∈ all) (s1' : (q1, listOf #[.int c' u2, .int d' u3] k2) ∈ all)
    (sg : ∀ p ∈ (g, listOf #[.ref r0, .ref r1] n0) :: (r0, listOf #[.int (gridOf (ws.take i)).1 t0, .int (gridOf (ws.take i)).2.1 t1] n1) :: (r1, listOf #[.int (gridOf (ws.take i)).2.2.1 t2, .int (gridOf (ws.take i)).2.2.2 t3] n2) :: (tab ++ rest), p ∈ all)
    (oG : LCg.Off1 G ((g, listOf #[.ref r0, .ref r1] n0) :: (r0, listOf #[.int (gridOf (ws.take i)).1 t0, .int (gridOf (ws.take i)).2.1 t1] n1) :: (r1, listOf #[.int (gridOf (ws.take i)).2.2.1 t2, .int (gridOf (ws.take i)).2.2.2 t3] n2) :: (tab ++ rest)))
    (oI' : LCg.Off1 I ((G, listOf (ini ++ [Value.ref g]).toArray n) :: (g, listOf #[.ref r0, .ref r1] n0) :: (r0, listOf #[.int (gridOf (ws.take i)).1 t0, .int (gridOf (ws.take i)).2.1 t1] n1) :: (r1, listOf #[.int (gridOf (ws.take i)).2.2.1 t2, .int (gridOf (ws.take i)).2.2.2 t3] n2) :: (tab ++ rest)))
    (eg : a' = (gstep (gridOf (ws.take i)) b).1 ∧ b' = (gstep (gridOf (ws.take i)) b).2.1 ∧ c' = (gstep (gridOf (ws.take i)) b).2.2.1 ∧ d' = (gstep (gridOf (ws.take i)) b).2.2.2)
    (ne1 : @Ne Nat g' G) (ne2 : @Ne Nat q0 G) (ne3 : @Ne Nat q1 G) (ne4 : @Ne Nat g' I) (ne5 : @Ne Nat q0 I) (ne6 : @Ne Nat q1 I) (hm : ∀ y, y ∉ ns → m' y = m y)
    (ap : Apt ((g, listOf #[.ref r0, .ref r1] n0) :: (r0, listOf #[.int (gridOf (ws.take i)).1 t0, .int (gridOf (ws.take i)).2.1 t1] n1) :: (r1, listOf #[.int (gridOf (ws.take i)).2.2.1 t2, .int (gridOf (ws.take i)).2.2.2 t3] n2) :: rest) tab) (p1 : LCg.Off1 g' tab) (p2 : LCg.Off1 q0 tab) (p3 : LCg.Off1 q1 tab) :
    TurnJ h₀ L m ns s₁ [(I, oI)] (GrJ ws G tab (i + 1)) .next { s₁ with heap := h', toks := tk } := by
  obtain ⟨rfl, rfl, rfl, rfl⟩ := eg
  rw [show (ini ++ [Value.ref g]).toArray.push (.ref g') = ((ini ++ [Value.ref g]) ++ [Value.ref g']).toArray from by simp] at sG
  rw [← gridOf_succ hb] at s0' s1'
  refine turn_j F N ((G, listOf ((ini ++ [Value.ref g]) ++ [Value.ref g']).toArray k) :: (g', listOf #[.ref q0, .ref q1] k0) :: (q0, listOf #[.int (gridOf (ws.take (i + 1))).1 u0, .int (gridOf (ws.take (i + 1))).2.1 u1] k1) :: (q1, listOf #[.int (gridOf (ws.take (i + 1))).2.2.1 u2, .int (gridOf (ws.take (i + 1))).2.2.2 u3] k2) :: (tab ++ ((g, listOf #[.ref r0, .ref r1] n0) :: (r0, listOf #[.int (gridOf (ws.take i)).1 t0, .int (gridOf (ws.take i)).2.1 t1] n1) :: (r1, listOf #[.int (gridOf (ws.take i)).2.2.1 t2, .int (gridOf (ws.take i)).2.2.2 t3] n2) :: rest))) (fun p hp => ?_) (fun p hp => ?_) hm ⟨ini ++ [Value.ref g], k, g', q0, q1, k0, k1, k2, u0, u1, u2, u3, (g, listOf #[.ref r0, .ref r1] n0) :: (r0, listOf #[.int (gridOf (ws.take i)).1 t0, .int (gridOf (ws.take i)).2.1 t1] n1) :: (r1, listOf #[.int (gridOf (ws.take i)).2.2.1 t2, .int (gridOf (ws.take i)).2.2.2 t3] n2) :: rest, rfl, by simp [hi], ?_, ?_, apt_cons p1 (apt_cons p2 (apt_cons p3 ap))⟩
  · simp only [List.cons_append, List.nil_append, List.mem_cons, List.mem_append] at hp
    rcases hp with rfl | rfl | rfl | rfl | rfl | hp | rfl | rfl | rfl | hp
    · exact sI
    · exact sG
    · exact sg'
    · exact s0'
    · exact s1'
    · exact sg p (.tail _ (.tail _ (.tail _ (List.mem_append.mpr (.inl hp)))))
    · exact sg _ (.head _)
    · exact sg _ (.tail _ (.head _))
    · exact sg _ (.tail _ (.tail _ (.head _)))
    · exact sg p (.tail _ (.tail _ (.tail _ (List.mem_append.mpr (.inr hp)))))
  · rw [List.mem_singleton.mp hp]
    refine ⟨oI'.1, ne4, ne5, ne6, off1_sub oI'.2 fun p hp => ?_⟩
    simp only [List.mem_cons, List.mem_append] at hp ⊢
    rcases hp with h | h | h | h | h <;> simp [h]
  · intro j hj'
    rcases Nat.lt_or_ge j i with h | h
    · obtain ⟨gv, h1, h2⟩ := hj j h
      exact ⟨gv, by rw [List.getElem?_append_left (by omega)]; exact h1, h2.mono fun p hp => by simp [hp]⟩
    · obtain rfl : j = i := by omega
      refine ⟨.ref g, by rw [List.getElem?_append_right (by omega)]; simp [hi], g, r0, r1, n0, n1, n2, t0, t1, t2, t3, rfl, ?_, ?_, ?_⟩ <;> simp
  · refine ⟨ne1, ne2, ne3, off1_sub oG fun p hp => ?_⟩
    simp only [List.mem_cons, List.mem_append] at hp ⊢
    rcases hp with h | h | h | h | h <;> simp [h]
end
local macro_rules | `(tactic| walk_at "call builtin:list.append") => `(tactic| (k_here; (with_reducible show wpAny _ _ (call (Value.builtin _) [Value.ref _, Value.ref _]) _ _ _); k_dflt (refine' append_K ?k1 ?k2 ?k3 ?_ ?z; (case k1 => k_asm); (case k2 => k_asm); (case k3 => k_upd); (case z => with_reducible assumption); k_whole); intro h' F' N'))
theorem grow_size {ini : List Value} {x : Value} {i : Nat} {ws : List Bool} {b : Bool} (hi : ini.length = i) (hw : ws.length ≤ 6) (hb : ws[i]? = some b) : (ini ++ [x]).toArray.size ≤ sizeLine := by
  have : i < ws.length := (List.getElem?_eq_some_iff.mp hb).1
  rw [PySem.sizeLine_eq]
  simp only [List.size_toArray, List.length_append, List.length_singleton]
  omega
noncomputable abbrev lamQ : Str := Str.ofString "_law_grids.<locals>.<lambda>"
theorem gr_grids {ws : List Bool} {G g r0 r1 : Addr} {n n0 n1 n2 : Nat} {t0 t1 t2 t3 : Tok} {ini : List Value} {rest : Led} (hi : ini.length = ws.length) (hj : ∀ j, j < ws.length → ∃ gv, ini[j]? = some gv ∧ HasGrid rest gv (gridOf (ws.take j))) :
    RGrids ws (.ref G) ((G, listOf (ini ++ [Value.ref g]).toArray n) :: (g, listOf #[.ref r0, .ref r1] n0) :: (r0, listOf #[.int (gridOf ws).1 t0, .int (gridOf ws).2.1 t1] n1) :: (r1, listOf #[.int (gridOf ws).2.2.1 t2, .int (gridOf ws).2.2.2 t3] n2) :: rest) := by
  refine ⟨G, _, n, rfl, .head _, by simp [hi], fun i hle => ?_⟩
  rcases Nat.lt_or_ge i ws.length with h | h
  · obtain ⟨gv, h1, h2⟩ := hj i h
    exact ⟨gv, by rw [List.getElem?_toArray, List.getElem?_append_left (by omega)]; exact h1, h2.mono fun p hp => by simp [hp]⟩
  · obtain rfl : i = ws.length := by omega
    refine ⟨.ref g, by rw [List.getElem?_toArray, List.getElem?_append_right (by omega)]; simp [hi], g, r0, r1, n0, n1, n2, t0, t1, t2, t3, rfl, ?_, ?_, ?_⟩ <;> simp
theorem gr_apart {G : Addr} {o : Obj} {a b c : Addr × Obj} {tab rest : Led} (oG : LCg.Off1 G (a :: b :: c :: (tab ++ rest))) (ap : Apt (a :: b :: c :: rest) tab) : ∀ p ∈ (G, o) :: a :: b :: c :: rest, ∀ q ∈ tab, p.1 ≠ q.1 :=
  apt_ap (apt_cons (off1_sub oG fun p hp => by simp [hp]) ap)
theorem gr_subs {x a b c : Addr × Obj} {tab rest : Led} : ∀ p ∈ (x :: a :: b :: c :: rest) ++ tab, p ∈ x :: a :: b :: c :: (tab ++ rest) := fun p hp => by
  simp only [List.cons_append, List.mem_cons, List.mem_append] at hp ⊢
  rcases hp with h | h | h | h | h | h <;> simp [h]
noncomputable abbrev tabFull (ca cb : Addr) : Obj := tabObj #[rawInt 145, rawInt 0, .ref ca, rawInt 146, rawInt 0, .ref cb]
theorem ctr_grids_hit (w : World) (ws : List Bool) (t : Tok) (ca cb : Addr) (oca ocb : Obj) (va vb : Array Value) (ta tb : Tok) (hw : ws.length ≤ 6) (da : oca.data = .fields va) (db : ocb.data = .fields vb) (ea : va[1]? = some (.str lamQ ta)) (eb : vb[1]? = some (.str lamQ tb)) :
    CtrR w 20 198 [.str (txt ws) t] [(193, tabFull ca cb), (ca, oca), (cb, ocb)] (RGrids ws) := by
  unfold CtrR Ctr; k_fill
  intro p loose mean mg mb dp un gd cn nms9 ig9 ic9 mo9 a9 ccd cl outer A₀ base h₀ L m s Q E B F X N T hdp hun hC hret
  refine wpAny_call ?_
  (k_dflt (first | (refine' def_in ?k1 ?k2 ?k3 ?k4 ?k5 ?kA ?kF ?kK ?k6 ?k7 ?k8 ?k9 ?kB ?_ ?c2 ?c3 ?c4 ?c5; (case kA => exact rfl); (case kF => exact rfl); (case kK => exact rfl); (case k1 => k_asm); (case k2 => k_asm); (case k3 => k_asm); (case k4 => k_asm); (case k5 => k_asm); (case k6 => k_is); (case k7 => k_is); (case k8 => k_room); (case k9 => exact BindsTo.of_eq rfl); (case c5 => decide); (case kB => exact locs rfl); (case c2 => exact rfl); (case c3 => exact rfl); (case c4 => exact rfl); k_whole; intro g' L' h' H' FG' F' N' B' X' T'; (try dsimp only); (try k_lift B'); (try k_fold)) | (refine' def_inC ?k1 ?k2 ?k3 ?k4 ?k5 ?kA ?kF ?kK ?k6 ?k7 ?k8 ?k9 ?kB ?kD ?_ ?c2 ?c3 ?c4; (case kA => exact rfl); (case kF => exact rfl); (case kK => exact rfl); (case k1 => k_asm); (case k2 => k_asm); (case k3 => k_asm); (case k4 => k_asm); (case k5 => k_asm); (case k6 => k_is); (case k7 => k_is); (case k8 => k_room); (case k9 => exact BindsTo.of_eq rfl); (case kB => exact rfl); (case kD => decide +kernel); (case c2 => exact rfl); (case c3 => exact rfl); (case c4 => exact rfl); k_whole; intro g' L' h' tk' cells' H' FG' F' N' Y' B' X' T' l1; (try (replace l1 := allLt_of l1)); k_cells Y'; (try simp only [List.cons_append, List.nil_append] at N'); (try dsimp only); (try k_lift B'); (try k_fold))))
  (k_steps; (repeat' ((refine unstop ?_; (first | ((with_reducible show wpAny _ _ (call (Value.ref 80) _) _ _ _); (refine' Ctr.useGrid (ctr_grid_product _ _ _ _ _ _ _ _ _ _ _ _ _ _ _ _ _ _ _ _ _ _ _ _ _ _ _ _ _ _ _ _ _ _ _ _ _ (lam_plus ?d1 ?v1) (lam_times ?d2 ?v2) ?b1 ?b2 ?b3 ?b4 ?b5 ?b6 ?b7 ?b8) ?k1 ?k2 ?k3 ?k4 ?kS ?k5 ?kd ?ku ?kC ?_; (case k1 => first | k_asm | fail "use: below"); (case k2 => first | k_asm | fail "use: the frame"); (case k3 => first | k_asm | fail "use: the part"); (case k4 => first | k_asm | fail "use: the ledger"); (case kS => first | (((repeat (refine sub_cons ?_ ?_; k_mem)); exact sub_nil)) | fail "use: what is handed in"); (case k5 => first | k_asm | fail "use: the top"); (case kd => first | k_room | fail "use: room"); (case ku => first | k_units | fail "use: units"); (case kC => first | assumption | fail "use: the table"); (case d1 => assumption); (case d2 => assumption); (case v1 => first | assumption | exact ea); (case v2 => first | assumption | exact eb); (case b1 => with_reducible assumption); (case b2 => with_reducible assumption); (case b3 => with_reducible assumption); (case b4 => with_reducible assumption); (case b5 => with_reducible assumption); (case b6 => with_reducible assumption); (case b7 => with_reducible assumption); (case b8 => with_reducible assumption); ((intro g9 q9 p9 n0 n1 n2 t0 t1 t2 t3 h9 tk9 F9 N9 og9 o09 o19 e3 e4 e5; (try dsimp only); (try k_fold))))) | ((with_reducible show wpAny _ _ (call (Value.ref 70) _) _ _ _); (refine' Ctr.useGrid (ctr_unit_grid _ _) ?k1 ?k2 ?k3 ?k4 ?kS ?k5 ?kd ?ku ?kC ?_; (( (case k1 => first | k_asm | fail "use: below"); (case k2 => first | k_asm | fail "use: the frame"); (case k3 => first | k_asm | fail "use: the part"); (case k4 => first | k_asm | fail "use: the ledger"); (case kS => first | lcg_sub | fail "use: what is handed in"); (case k5 => first | k_asm | fail "use: the top"); (case kd => first | k_room | fail "use: room"); (case ku => first | k_units | fail "use: units"); (case kC => first | assumption | fail "use: the table"))); ((intro g9 q9 p9 n0 n1 n2 t0 t1 t2 t3 h9 tk9 F9 N9 og9 o09 o19 e3 e4 e5; (try dsimp only); (try k_fold))))))); k_steps)))
  refine grids_src rfl (by k_asm) (by k_asm) (by walk_at "ctr off") (by walk_at "ctr off") (by walk_at "ctr off") (by walk_at "ctr off") ?_ ?_
  · intro i b u m' I oI hp tk ini n g r0 r1 n0 n1 n2 t0 t1 t2 t3 rest E' hb hi hj oG ap F N oI9
    simp only [forget, List.cons_append, List.nil_append] at F N oG oI9
    obtain ⟨⟨⟨x1, x2⟩, x3, x4⟩, ⟨x5, x6⟩, x7, x8⟩ := bnd_of (ws := ws.take i) (take_le hw)
    have z9 := grow_size (x := Value.ref g) hi hw hb
    cases b
    · simp only [sgn, Bool.false_eq_true, if_false] at F
      (k_steps; (repeat' ((refine unstop ?_; (first | ((with_reducible show wpAny _ _ (call (Value.ref 80) _) _ _ _); (refine' Ctr.useGrid (ctr_grid_product _ _ _ _ _ _ _ _ _ _ _ _ _ _ _ _ _ _ _ _ _ _ _ _ _ _ _ _ _ _ _ _ _ _ _ _ _ (lam_plus ?d1 ?v1) (lam_times ?d2 ?v2) ?b1 ?b2 ?b3 ?b4 ?b5 ?b6 ?b7 ?b8) ?k1 ?k2 ?k3 ?k4 ?kS ?k5 ?kd ?ku ?kC ?_; (case k1 => first | k_asm | fail "use: below"); (case k2 => first | k_asm | fail "use: the frame"); (case k3 => first | k_asm | fail "use: the part"); (case k4 => first | k_asm | fail "use: the ledger"); (case kS => first | (((repeat (refine sub_cons ?_ ?_; k_mem)); exact sub_nil)) | fail "use: what is handed in"); (case k5 => first | k_asm | fail "use: the top"); (case kd => first | k_room | fail "use: room"); (case ku => first | k_units | fail "use: units"); (case kC => first | assumption | fail "use: the table"); (case d1 => assumption); (case d2 => assumption); (case v1 => first | assumption | exact ea); (case v2 => first | assumption | exact eb); (case b1 => with_reducible assumption); (case b2 => with_reducible assumption); (case b3 => with_reducible assumption); (case b4 => with_reducible assumption); (case b5 => with_reducible assumption); (case b6 => with_reducible assumption); (case b7 => with_reducible assumption); (case b8 => with_reducible assumption); ((intro g9 q9 p9 n0 n1 n2 t0 t1 t2 t3 h9 tk9 F9 N9 og9 o09 o19 e3 e4 e5; (try dsimp only); (try k_fold))))) | ((with_reducible show wpAny _ _ (call (Value.ref 70) _) _ _ _); (refine' Ctr.useGrid (ctr_unit_grid _ _) ?k1 ?k2 ?k3 ?k4 ?kS ?k5 ?kd ?ku ?kC ?_; (( (case k1 => first | k_asm | fail "use: below"); (case k2 => first | k_asm | fail "use: the frame"); (case k3 => first | k_asm | fail "use: the part"); (case k4 => first | k_asm | fail "use: the ledger"); (case kS => first | lcg_sub | fail "use: what is handed in"); (case k5 => first | k_asm | fail "use: the top"); (case kd => first | k_room | fail "use: room"); (case ku => first | k_units | fail "use: units"); (case kC => first | assumption | fail "use: the table"))); ((intro g9 q9 p9 n0 n1 n2 t0 t1 t2 t3 h9 tk9 F9 N9 og9 o09 o19 e3 e4 e5; (try dsimp only); (try k_fold))))))); k_steps)))
      refine gr_end hb hi hj (by k_asm) (by k_asm) (by k_mem) (by k_mem) (by k_mem) (by k_mem) (by k_mem) (by ((intro p9 hp9; repeat (first | exact hp9 | refine List.Mem.tail _ ?_)))) oG oI9 (by simp [gstep]) (by k_ne) (by k_ne) (by k_ne) (by k_ne) (by k_ne) (by k_ne) ?_ ap (by walk_at "ctr off") (by walk_at "ctr off") (by walk_at "ctr off")
      · intro y hy
        simp only [List.mem_cons, List.not_mem_nil, or_false, not_or] at hy
        simp only [if_neg hy.1, if_neg hy.2]
    · simp only [sgn, if_true] at F
      (k_steps; (repeat' ((refine unstop ?_; (first | ((with_reducible show wpAny _ _ (call (Value.ref 80) _) _ _ _); (refine' Ctr.useGrid (ctr_grid_product _ _ _ _ _ _ _ _ _ _ _ _ _ _ _ _ _ _ _ _ _ _ _ _ _ _ _ _ _ _ _ _ _ _ _ _ _ (lam_plus ?d1 ?v1) (lam_times ?d2 ?v2) ?b1 ?b2 ?b3 ?b4 ?b5 ?b6 ?b7 ?b8) ?k1 ?k2 ?k3 ?k4 ?kS ?k5 ?kd ?ku ?kC ?_; (case k1 => first | k_asm | fail "use: below"); (case k2 => first | k_asm | fail "use: the frame"); (case k3 => first | k_asm | fail "use: the part"); (case k4 => first | k_asm | fail "use: the ledger"); (case kS => first | (((repeat (refine sub_cons ?_ ?_; k_mem)); exact sub_nil)) | fail "use: what is handed in"); (case k5 => first | k_asm | fail "use: the top"); (case kd => first | k_room | fail "use: room"); (case ku => first | k_units | fail "use: units"); (case kC => first | assumption | fail "use: the table"); (case d1 => assumption); (case d2 => assumption); (case v1 => first | assumption | exact ea); (case v2 => first | assumption | exact eb); (case b1 => with_reducible assumption); (case b2 => with_reducible assumption); (case b3 => with_reducible assumption); (case b4 => with_reducible assumption); (case b5 => with_reducible assumption); (case b6 => with_reducible assumption); (case b7 => with_reducible assumption); (case b8 => with_reducible assumption); ((intro g9 q9 p9 n0 n1 n2 t0 t1 t2 t3 h9 tk9 F9 N9 og9 o09 o19 e3 e4 e5; (try dsimp only); (try k_fold))))) | ((with_reducible show wpAny _ _ (call (Value.ref 70) _) _ _ _); (refine' Ctr.useGrid (ctr_unit_grid _ _) ?k1 ?k2 ?k3 ?k4 ?kS ?k5 ?kd ?ku ?kC ?_; (( (case k1 => first | k_asm | fail "use: below"); (case k2 => first | k_asm | fail "use: the frame"); (case k3 => first | k_asm | fail "use: the part"); (case k4 => first | k_asm | fail "use: the ledger"); (case kS => first | lcg_sub | fail "use: what is handed in"); (case k5 => first | k_asm | fail "use: the top"); (case kd => first | k_room | fail "use: room"); (case ku => first | k_units | fail "use: units"); (case kC => first | assumption | fail "use: the table"))); ((intro g9 q9 p9 n0 n1 n2 t0 t1 t2 t3 h9 tk9 F9 N9 og9 o09 o19 e3 e4 e5; (try dsimp only); (try k_fold))))))); k_steps)))
      refine gr_end hb hi hj (by k_asm) (by k_asm) (by k_mem) (by k_mem) (by k_mem) (by k_mem) (by k_mem) (by ((intro p9 hp9; repeat (first | exact hp9 | refine List.Mem.tail _ ?_)))) oG oI9 (by simp [gstep]) (by k_ne) (by k_ne) (by k_ne) (by k_ne) (by k_ne) (by k_ne) ?_ ap (by walk_at "ctr off") (by walk_at "ctr off") (by walk_at "ctr off")
      · intro y hy
        simp only [List.mem_cons, List.not_mem_nil, or_false, not_or] at hy
        simp only [if_neg hy.1, if_neg hy.2]
  · intro m' hp tk nw j F N
    simp only [forget] at F
    obtain ⟨ini, n, g, r0, r1, n0, n1, n2, t0, t1, t2, t3, rest, rfl, hi, hj, oG, ap⟩ := j
    rw [List.take_length] at *
    dsimp only
    (k_steps; (repeat' ((refine unstop ?_; (first | ((with_reducible show wpAny _ _ (call (Value.ref 80) _) _ _ _); (refine' Ctr.useGrid (ctr_grid_product _ _ _ _ _ _ _ _ _ _ _ _ _ _ _ _ _ _ _ _ _ _ _ _ _ _ _ _ _ _ _ _ _ _ _ _ _ (lam_plus ?d1 ?v1) (lam_times ?d2 ?v2) ?b1 ?b2 ?b3 ?b4 ?b5 ?b6 ?b7 ?b8) ?k1 ?k2 ?k3 ?k4 ?kS ?k5 ?kd ?ku ?kC ?_; (case k1 => first | k_asm | fail "use: below"); (case k2 => first | k_asm | fail "use: the frame"); (case k3 => first | k_asm | fail "use: the part"); (case k4 => first | k_asm | fail "use: the ledger"); (case kS => first | (((repeat (refine sub_cons ?_ ?_; k_mem)); exact sub_nil)) | fail "use: what is handed in"); (case k5 => first | k_asm | fail "use: the top"); (case kd => first | k_room | fail "use: room"); (case ku => first | k_units | fail "use: units"); (case kC => first | assumption | fail "use: the table"); (case d1 => assumption); (case d2 => assumption); (case v1 => first | assumption | exact ea); (case v2 => first | assumption | exact eb); (case b1 => with_reducible assumption); (case b2 => with_reducible assumption); (case b3 => with_reducible assumption); (case b4 => with_reducible assumption); (case b5 => with_reducible assumption); (case b6 => with_reducible assumption); (case b7 => with_reducible assumption); (case b8 => with_reducible assumption); ((intro g9 q9 p9 n0 n1 n2 t0 t1 t2 t3 h9 tk9 F9 N9 og9 o09 o19 e3 e4 e5; (try dsimp only); (try k_fold))))) | ((with_reducible show wpAny _ _ (call (Value.ref 70) _) _ _ _); (refine' Ctr.useGrid (ctr_unit_grid _ _) ?k1 ?k2 ?k3 ?k4 ?kS ?k5 ?kd ?ku ?kC ?_; (( (case k1 => first | k_asm | fail "use: below"); (case k2 => first | k_asm | fail "use: the frame"); (case k3 => first | k_asm | fail "use: the part"); (case k4 => first | k_asm | fail "use: the ledger"); (case kS => first | lcg_sub | fail "use: what is handed in"); (case k5 => first | k_asm | fail "use: the top"); (case kd => first | k_room | fail "use: room"); (case ku => first | k_units | fail "use: units"); (case kC => first | assumption | fail "use: the table"))); ((intro g9 q9 p9 n0 n1 n2 t0 t1 t2 t3 h9 tk9 F9 N9 og9 o09 o19 e3 e4 e5; (try dsimp only); (try k_fold))))))); k_steps)))
    refine ret_add hret (by k_asm) (by k_asm) (by (exact kept_of (by assumption) (by assumption) (by assumption))) _ gr_subs (gr_apart oG ap) (gr_grids hi hj)
end
local macro_rules | `(tactic| walk_at "subscriptTail Name UnaryOp ref int") => `(tactic| (k_here; k_dflt (refine kim_back (by k_asm) (by k_mem) rfl rfl (by decide) last_in (by decide) last_at ?_)))
theorem walk_off_FH : True := by
  w_top off
  trivial
-- FH
section
local macro_rules | `(tactic| walk_at "no such key 0") => `(tactic| skip)
open PySem PySem.W PyProof.Rows
set_option linter.unusedVariables false
set_option maxRecDepth 100000
set_option maxHeartbeats 8000000
theorem grow0 {x : Value} : ([] ++ [x]).toArray.size ≤ sizeLine := by rw [PySem.sizeLine_eq]; simp
theorem lt_allLt_ne {c D a : Addr} {o : Obj} {l : Led} (hc : c < D) (h : AllLt c l) (hm : (a, o) ∈ l) : @Ne Nat a D := Nat.ne_of_lt (Nat.lt_trans (allLt_lt h hm) hc)
local macro_rules | `(tactic| k_ne) => `(tactic| (refine neN ?_; (try dsimp only); first | exact lt_allLt_ne (by with_reducible assumption) (by with_reducible assumption) (by k_mem) | (refine Ne.symm ?_; exact lt_allLt_ne (by with_reducible assumption) (by with_reducible assumption) (by k_mem)) | fail))
local macro_rules | `(tactic| walk_at "call builtin:list.append") => `(tactic| (k_here; (with_reducible show wpAny _ _ (call (Value.builtin _) [Value.ref _, Value.ref _]) _ _ _); k_dflt (refine' append_K ?k1 ?k2 ?k3 ?_ ?z; (case k1 => k_asm); (case k2 => k_asm); (case k3 => k_upd); (case z => first | with_reducible assumption | exact grow0); k_whole); intro h' F' N'))
noncomputable abbrev NewJ (ws : List Bool) (G : Addr) (i : Nat) (nw : Led) : Prop := ∃ ca cb oca ocb va vb ta tb, oca.data = .fields va ∧ ocb.data = .fields vb ∧ va[1]? = some (.str lamQ ta) ∧ vb[1]? = some (.str lamQ tb) ∧ GrJ ws G [(193, tabFull ca cb), (ca, oca), (cb, ocb)] i nw
noncomputable abbrev RNew (ws : List Bool) (v : Value) (led' : Led) : Prop := ∃ ca cb oca ocb va vb ta tb gr, led' = (193, tabFull ca cb) :: (ca, oca) :: (cb, ocb) :: gr ∧ oca.data = .fields va ∧ ocb.data = .fields vb ∧ va[1]? = some (.str lamQ ta) ∧ vb[1]? = some (.str lamQ tb) ∧ RGrids ws v gr
section
variable {prog : Program} {A : Around} {E : Value → Shared → Prop} {s₁ : Shared} {h₀ : Heap} {L : Addr} {m : Str → Option Value} {env : Env}
theorem grids_src2 {w : World} {x : Str} {ns : List Str} {body : List Stmt} {Q : Flow → Shared → Prop} {ws : List Bool} {t : Tok} {G g r0 r1 : Addr} {n n0 n1 n2 : Nat} {t0 t1 t2 t3 : Tok} (hw0 : 0 < ws.length) (hh : A.handled = none) (F : Fr h₀ L s₁.heap m)
    (N : News h₀ L s₁.heap [(G, listOf #[.ref g] n), (g, listOf #[.ref r0, .ref r1] n0), (r0, listOf #[.int 1 t0, .int 0 t1] n1), (r1, listOf #[.int 0 t2, .int 1 t3] n2), (193, tabObj #[])])
    (oG : LCg.Off1 G [(g, listOf #[.ref r0, .ref r1] n0), (r0, listOf #[.int 1 t0, .int 0 t1] n1), (r1, listOf #[.int 0 t2, .int 1 t3] n2), (193, tabObj #[])])
    (turn0 : ∀ b u m' I oI h tk (E' : Value → Shared → Prop), ws[0]? = some b → Fr h₀ L h (fun y => if y = x then some (.str ⟨#[sgn b]⟩ u) else forget ns m' m y) →
      News h₀ L h [(I, oI), (G, listOf ([] ++ [Value.ref g]).toArray n), (g, listOf #[.ref r0, .ref r1] n0), (r0, listOf #[.int 1 t0, .int 0 t1] n1), (r1, listOf #[.int 0 t2, .int 1 t3] n2), (193, tabObj #[])] →
      LCg.Off1 I [(G, listOf ([] ++ [Value.ref g]).toArray n), (g, listOf #[.ref r0, .ref r1] n0), (r0, listOf #[.int 1 t0, .int 0 t1] n1), (r1, listOf #[.int 0 t2, .int 1 t3] n2), (193, tabObj #[])] →
      wpAny (model prog w) A (execs body env) (TurnJ h₀ L m (x :: ns) { s₁ with heap := h, toks := tk } [(I, oI)] (NewJ ws G 1)) E' { s₁ with heap := h, toks := tk })
    (turn : ∀ ca cb oca ocb va vb ta tb i b u m' I oI h tk (ini : List Value) n g r0 r1 n0 n1 n2 t0 t1 t2 t3 (rest : Led) (E' : Value → Shared → Prop), oca.data = .fields va → ocb.data = .fields vb → va[1]? = some (.str lamQ ta) → vb[1]? = some (.str lamQ tb) →
      ws[i]? = some b → ini.length = i → (∀ j, j < i → ∃ gv, ini[j]? = some gv ∧ HasGrid rest gv (gridOf (ws.take j))) →
      LCg.Off1 G ((g, listOf #[.ref r0, .ref r1] n0) :: (r0, listOf #[.int (gridOf (ws.take i)).1 t0, .int (gridOf (ws.take i)).2.1 t1] n1) :: (r1, listOf #[.int (gridOf (ws.take i)).2.2.1 t2, .int (gridOf (ws.take i)).2.2.2 t3] n2) :: ([(193, tabFull ca cb), (ca, oca), (cb, ocb)] ++ rest)) →
      Apt ((g, listOf #[.ref r0, .ref r1] n0) :: (r0, listOf #[.int (gridOf (ws.take i)).1 t0, .int (gridOf (ws.take i)).2.1 t1] n1) :: (r1, listOf #[.int (gridOf (ws.take i)).2.2.1 t2, .int (gridOf (ws.take i)).2.2.2 t3] n2) :: rest) [(193, tabFull ca cb), (ca, oca), (cb, ocb)] →
      Fr h₀ L h (fun y => if y = x then some (.str ⟨#[sgn b]⟩ u) else forget ns m' m y) →
      News h₀ L h ((I, oI) :: (G, listOf (ini ++ [Value.ref g]).toArray n) :: (g, listOf #[.ref r0, .ref r1] n0) :: (r0, listOf #[.int (gridOf (ws.take i)).1 t0, .int (gridOf (ws.take i)).2.1 t1] n1) :: (r1, listOf #[.int (gridOf (ws.take i)).2.2.1 t2, .int (gridOf (ws.take i)).2.2.2 t3] n2) :: ([(193, tabFull ca cb), (ca, oca), (cb, ocb)] ++ rest)) →
      LCg.Off1 I ((G, listOf (ini ++ [Value.ref g]).toArray n) :: (g, listOf #[.ref r0, .ref r1] n0) :: (r0, listOf #[.int (gridOf (ws.take i)).1 t0, .int (gridOf (ws.take i)).2.1 t1] n1) :: (r1, listOf #[.int (gridOf (ws.take i)).2.2.1 t2, .int (gridOf (ws.take i)).2.2.2 t3] n2) :: ([(193, tabFull ca cb), (ca, oca), (cb, ocb)] ++ rest)) →
      wpAny (model prog w) A (execs body env) (TurnJ h₀ L m (x :: ns) { s₁ with heap := h, toks := tk } [(I, oI)] (GrJ ws G [(193, tabFull ca cb), (ca, oca), (cb, ocb)] (i + 1))) E' { s₁ with heap := h, toks := tk })
    (fin : ∀ m' h tk nw, NewJ ws G ws.length nw → Fr h₀ L h (forget (x :: ns) m' m) → News h₀ L h nw → Q .next { s₁ with heap := h, toks := tk }) :
    TextSrc prog w A h₀ L m env x ns body Q (.str (txt ws) t) s₁ := by
  refine ⟨txt ws, t, _, fun i nw => if i = 0 then nw = [(G, listOf ([] ++ [Value.ref g]).toArray n), (g, listOf #[.ref r0, .ref r1] n0), (r0, listOf #[.int 1 t0, .int 0 t1] n1), (r1, listOf #[.int 0 t2, .int 1 t3] n2), (193, tabObj #[])] else NewJ ws G i nw, rfl, txt_ascii ws, hh, F, N, by show (if 0 = 0 then _ else _); rw [if_pos rfl]; rfl, ?_, ?_⟩
  · intro i c u m' nw I oI h tk E' hc j F N oI
    obtain ⟨b, hb, rfl⟩ := txt_at hc
    by_cases hi0 : i = 0
    · subst hi0
      rw [if_pos rfl] at j
      subst j
      exact turn0 b u m' I _ h tk E' hb F N oI
    · rw [if_neg hi0] at j
      obtain ⟨ca, cb, oca, ocb, va, vb, ta, tb, d1, d2, e1, e2, ini, n, g, r0, r1, n0, n1, n2, t0, t1, t2, t3, rest, rfl, hi, hj, oG, ap⟩ := j
      refine wpAny_mono (turn ca cb oca ocb va vb ta tb i b u m' I _ h tk ini n g r0 r1 n0 n1 n2 t0 t1 t2 t3 rest E' d1 d2 e1 e2 hb hi hj oG ap F N oI) (fun f s₂ hf => ?_) fun _ _ e => e
      obtain ⟨hf1, h', tk', m'', nw', e, F', N', o', hm, j⟩ := hf
      exact ⟨hf1, h', tk', m'', nw', e, F', N', o', hm, ca, cb, oca, ocb, va, vb, ta, tb, d1, d2, e1, e2, j⟩
  · intro m' nw h tk j F N
    rw [txt_size, if_neg (by omega)] at j
    exact fin m' h tk nw j F N
theorem gr_end0 {ns : List Str} {ws : List Bool} {b : Bool} {k n0 n1 n2 k0 k1 k2 tk : Nat} {I G g r0 r1 g' q0 q1 ca cb : Addr} {oI oca ocb : Obj} {va vb : Array Value} {ta tb t0 t1 t2 t3 u0 u1 u2 u3 : Tok} {a' b' c' d' : Int} {all : Led} {h' : Heap} {m' : Str → Option Value}
    (hb : ws[0]? = some b) (F : Fr h₀ L h' m') (N : News h₀ L h' all)
    (sI : (I, oI) ∈ all) (sG : (G, listOf (([] ++ [Value.ref g]).toArray.push (.ref g')) k) ∈ all) (sg' : (g', listOf #[.ref q0, .ref q1] k0) ∈ all) (s0' : (q0, listOf #[.int a' u0, .int b' u1] k1) ∈ all) (s1' : (q1, listOf #[.int c' u2, .int d' u3] k2) ∈ all)
    (sg : (g, listOf #[.ref r0, .ref r1] n0) ∈ all) (s0 : (r0, listOf #[.int 1 t0, .int 0 t1] n1) ∈ all) (s1 : (r1, listOf #[.int 0 t2, .int 1 t3] n2) ∈ all) (sT : (193, tabFull ca cb) ∈ all) (sa : (ca, oca) ∈ all) (sb : (cb, ocb) ∈ all)
    (d1 : oca.data = .fields va) (d2 : ocb.data = .fields vb) (e1 : va[1]? = some (.str lamQ ta)) (e2 : vb[1]? = some (.str lamQ tb))
    (eg : a' = (gstep (1, 0, 0, 1) b).1 ∧ b' = (gstep (1, 0, 0, 1) b).2.1 ∧ c' = (gstep (1, 0, 0, 1) b).2.2.1 ∧ d' = (gstep (1, 0, 0, 1) b).2.2.2)
    (oG : LCg.Off1 G [(g', listOf #[.ref q0, .ref q1] k0), (q0, listOf #[.int a' u0, .int b' u1] k1), (q1, listOf #[.int c' u2, .int d' u3] k2), (193, tabFull ca cb), (ca, oca), (cb, ocb), (g, listOf #[.ref r0, .ref r1] n0), (r0, listOf #[.int 1 t0, .int 0 t1] n1), (r1, listOf #[.int 0 t2, .int 1 t3] n2)])
    (oI' : LCg.Off1 I [(G, listOf (([] ++ [Value.ref g]).toArray.push (.ref g')) k), (g', listOf #[.ref q0, .ref q1] k0), (q0, listOf #[.int a' u0, .int b' u1] k1), (q1, listOf #[.int c' u2, .int d' u3] k2), (193, tabFull ca cb), (ca, oca), (cb, ocb), (g, listOf #[.ref r0, .ref r1] n0), (r0, listOf #[.int 1 t0, .int 0 t1] n1), (r1, listOf #[.int 0 t2, .int 1 t3] n2)])
    (p1 : LCg.Off1 g' [(193, tabFull ca cb), (ca, oca), (cb, ocb)]) (p2 : LCg.Off1 q0 [(193, tabFull ca cb), (ca, oca), (cb, ocb)]) (p3 : LCg.Off1 q1 [(193, tabFull ca cb), (ca, oca), (cb, ocb)])
    (p4 : LCg.Off1 g [(193, tabFull ca cb), (ca, oca), (cb, ocb)]) (p5 : LCg.Off1 r0 [(193, tabFull ca cb), (ca, oca), (cb, ocb)]) (p6 : LCg.Off1 r1 [(193, tabFull ca cb), (ca, oca), (cb, ocb)])
    (hm : ∀ y, y ∉ ns → m' y = m y) : TurnJ h₀ L m ns s₁ [(I, oI)] (NewJ ws G 1) .next { s₁ with heap := h', toks := tk } := by
  obtain ⟨rfl, rfl, rfl, rfl⟩ := eg
  have eq : gridOf (ws.take 1) = gstep (1, 0, 0, 1) b := gridOf_succ (i := 0) hb
  rw [← eq] at s0' s1' oG oI'
  refine turn_j F N ((G, listOf ([Value.ref g] ++ [Value.ref g']).toArray k) :: (g', listOf #[.ref q0, .ref q1] k0) :: (q0, listOf #[.int (gridOf (ws.take 1)).1 u0, .int (gridOf (ws.take 1)).2.1 u1] k1) :: (q1, listOf #[.int (gridOf (ws.take 1)).2.2.1 u2, .int (gridOf (ws.take 1)).2.2.2 u3] k2) :: ([(193, tabFull ca cb), (ca, oca), (cb, ocb)] ++ [(g, listOf #[.ref r0, .ref r1] n0), (r0, listOf #[.int 1 t0, .int 0 t1] n1), (r1, listOf #[.int 0 t2, .int 1 t3] n2)])) (fun p hp => ?_) (fun p hp => ?_) hm
    ⟨ca, cb, oca, ocb, va, vb, ta, tb, d1, d2, e1, e2, [Value.ref g], k, g', q0, q1, k0, k1, k2, u0, u1, u2, u3, _, rfl, rfl, ?_, oG, apt_cons p1 (apt_cons p2 (apt_cons p3 (apt_cons p4 (apt_cons p5 (apt_cons p6 apt_nil)))))⟩
  · simp only [List.cons_append, List.nil_append, List.mem_cons, List.not_mem_nil, or_false] at hp
    rcases hp with rfl | rfl | rfl | rfl | rfl | rfl | rfl | rfl | rfl | rfl | rfl
    · exact sI
    · exact sG
    · exact sg'
    · exact s0'
    · exact s1'
    · exact sT
    · exact sa
    · exact sb
    · exact sg
    · exact s0
    · exact s1
  · rw [List.mem_singleton.mp hp]
    exact oI'
  · intro j hj'
    obtain rfl : j = 0 := by omega
    exact ⟨.ref g, rfl, g, r0, r1, n0, n1, n2, t0, t1, t2, t3, rfl, .head _, .tail _ (.head _), .tail _ (.tail _ (.head _))⟩
end
theorem gr_subs2 {p1 p2 p3 x a b c : Addr × Obj} {rest : Led} : ∀ p ∈ p1 :: p2 :: p3 :: (x :: a :: b :: c :: rest), p ∈ x :: a :: b :: c :: ([p1, p2, p3] ++ rest) := fun p hp => by
  simp only [List.cons_append, List.nil_append, List.mem_cons, List.mem_append] at hp ⊢
  rcases hp with h | h | h | h | h | h | h | h <;> simp [h]
theorem ctr_grids_new (w : World) (ws : List Bool) (t : Tok) (hw : ws.length ≤ 6) (hw0 : 0 < ws.length) : Ctr w 20 198 [.str (txt ws) t] [(193, tabObj #[])] (RNew ws) := by
  unfold Ctr; k_fill
  intro p loose mean mg mb dp un gd cn nms9 ig9 ic9 mo9 a9 ccd cl outer A₀ base h₀ L m s Q E B F X N T hdp hun hC hret
  refine wpAny_call ?_
  (k_dflt (first | (refine' def_in ?k1 ?k2 ?k3 ?k4 ?k5 ?kA ?kF ?kK ?k6 ?k7 ?k8 ?k9 ?kB ?_ ?c2 ?c3 ?c4 ?c5; (case kA => exact rfl); (case kF => exact rfl); (case kK => exact rfl); (case k1 => k_asm); (case k2 => k_asm); (case k3 => k_asm); (case k4 => k_asm); (case k5 => k_asm); (case k6 => k_is); (case k7 => k_is); (case k8 => k_room); (case k9 => exact BindsTo.of_eq rfl); (case c5 => decide); (case kB => exact locs rfl); (case c2 => exact rfl); (case c3 => exact rfl); (case c4 => exact rfl); k_whole; intro g' L' h' H' FG' F' N' B' X' T'; (try dsimp only); (try k_lift B'); (try k_fold)) | (refine' def_inC ?k1 ?k2 ?k3 ?k4 ?k5 ?kA ?kF ?kK ?k6 ?k7 ?k8 ?k9 ?kB ?kD ?_ ?c2 ?c3 ?c4; (case kA => exact rfl); (case kF => exact rfl); (case kK => exact rfl); (case k1 => k_asm); (case k2 => k_asm); (case k3 => k_asm); (case k4 => k_asm); (case k5 => k_asm); (case k6 => k_is); (case k7 => k_is); (case k8 => k_room); (case k9 => exact BindsTo.of_eq rfl); (case kB => exact rfl); (case kD => decide +kernel); (case c2 => exact rfl); (case c3 => exact rfl); (case c4 => exact rfl); k_whole; intro g' L' h' tk' cells' H' FG' F' N' Y' B' X' T' l1; (try (replace l1 := allLt_of l1)); k_cells Y'; (try simp only [List.cons_append, List.nil_append] at N'); (try dsimp only); (try k_lift B'); (try k_fold))))
  (k_steps; (repeat' ((refine unstop ?_; (first | ((with_reducible show wpAny _ _ (call (Value.ref 80) _) _ _ _); (refine' Ctr.useGrid (ctr_grid_product _ _ _ _ _ _ _ _ _ _ _ _ _ _ _ _ _ _ _ _ _ _ _ _ _ _ _ _ _ _ _ _ _ _ _ _ _ (lam_plus ?d1 ?v1) (lam_times ?d2 ?v2) ?b1 ?b2 ?b3 ?b4 ?b5 ?b6 ?b7 ?b8) ?k1 ?k2 ?k3 ?k4 ?kS ?k5 ?kd ?ku ?kC ?_; (case k1 => first | k_asm | fail "use: below"); (case k2 => first | k_asm | fail "use: the frame"); (case k3 => first | k_asm | fail "use: the part"); (case k4 => first | k_asm | fail "use: the ledger"); (case kS => first | (((repeat (refine sub_cons ?_ ?_; k_mem)); exact sub_nil)) | fail "use: what is handed in"); (case k5 => first | k_asm | fail "use: the top"); (case kd => first | k_room | fail "use: room"); (case ku => first | k_units | fail "use: units"); (case kC => first | assumption | fail "use: the table"); (case d1 => assumption); (case d2 => assumption); (case v1 => first | assumption | exact ea); (case v2 => first | assumption | exact eb); (case b1 => first | with_reducible assumption | decide); (case b2 => first | with_reducible assumption | decide); (case b3 => first | with_reducible assumption | decide); (case b4 => first | with_reducible assumption | decide); (case b5 => first | with_reducible assumption | decide); (case b6 => first | with_reducible assumption | decide); (case b7 => first | with_reducible assumption | decide); (case b8 => first | with_reducible assumption | decide); ((intro g9 q9 p9 n0 n1 n2 t0 t1 t2 t3 h9 tk9 F9 N9 og9 o09 o19 e3 e4 e5; (try dsimp only); (try k_fold))))) | ((with_reducible show wpAny _ _ (call (Value.ref 70) _) _ _ _); (refine' Ctr.useGrid (ctr_unit_grid _ _) ?k1 ?k2 ?k3 ?k4 ?kS ?k5 ?kd ?ku ?kC ?_; (( (case k1 => first | k_asm | fail "use: below"); (case k2 => first | k_asm | fail "use: the frame"); (case k3 => first | k_asm | fail "use: the part"); (case k4 => first | k_asm | fail "use: the ledger"); (case kS => first | lcg_sub | fail "use: what is handed in"); (case k5 => first | k_asm | fail "use: the top"); (case kd => first | k_room | fail "use: room"); (case ku => first | k_units | fail "use: units"); (case kC => first | assumption | fail "use: the table"))); ((intro g9 q9 p9 n0 n1 n2 t0 t1 t2 t3 h9 tk9 F9 N9 og9 o09 o19 e3 e4 e5; (try dsimp only); (try k_fold))))))); k_steps)))
  refine grids_src2 hw0 rfl (by k_asm) (by k_asm) (by walk_at "ctr off") ?_ ?_ ?_
  · intro b u m' I oI hp tk E' hb F N oI9
    simp only [forget] at F
    cases b
    · simp only [sgn, Bool.false_eq_true, if_false] at F
      (k_steps; (repeat' ((refine unstop ?_; (first | ((with_reducible show wpAny _ _ (call (Value.ref 80) _) _ _ _); (refine' Ctr.useGrid (ctr_grid_product _ _ _ _ _ _ _ _ _ _ _ _ _ _ _ _ _ _ _ _ _ _ _ _ _ _ _ _ _ _ _ _ _ _ _ _ _ (lam_plus ?d1 ?v1) (lam_times ?d2 ?v2) ?b1 ?b2 ?b3 ?b4 ?b5 ?b6 ?b7 ?b8) ?k1 ?k2 ?k3 ?k4 ?kS ?k5 ?kd ?ku ?kC ?_; (case k1 => first | k_asm | fail "use: below"); (case k2 => first | k_asm | fail "use: the frame"); (case k3 => first | k_asm | fail "use: the part"); (case k4 => first | k_asm | fail "use: the ledger"); (case kS => first | (((repeat (refine sub_cons ?_ ?_; k_mem)); exact sub_nil)) | fail "use: what is handed in"); (case k5 => first | k_asm | fail "use: the top"); (case kd => first | k_room | fail "use: room"); (case ku => first | k_units | fail "use: units"); (case kC => first | assumption | fail "use: the table"); (case d1 => assumption); (case d2 => assumption); (case v1 => first | assumption | exact ea); (case v2 => first | assumption | exact eb); (case b1 => first | with_reducible assumption | decide); (case b2 => first | with_reducible assumption | decide); (case b3 => first | with_reducible assumption | decide); (case b4 => first | with_reducible assumption | decide); (case b5 => first | with_reducible assumption | decide); (case b6 => first | with_reducible assumption | decide); (case b7 => first | with_reducible assumption | decide); (case b8 => first | with_reducible assumption | decide); ((intro g9 q9 p9 n0 n1 n2 t0 t1 t2 t3 h9 tk9 F9 N9 og9 o09 o19 e3 e4 e5; (try dsimp only); (try k_fold))))) | ((with_reducible show wpAny _ _ (call (Value.ref 70) _) _ _ _); (refine' Ctr.useGrid (ctr_unit_grid _ _) ?k1 ?k2 ?k3 ?k4 ?kS ?k5 ?kd ?ku ?kC ?_; (( (case k1 => first | k_asm | fail "use: below"); (case k2 => first | k_asm | fail "use: the frame"); (case k3 => first | k_asm | fail "use: the part"); (case k4 => first | k_asm | fail "use: the ledger"); (case kS => first | lcg_sub | fail "use: what is handed in"); (case k5 => first | k_asm | fail "use: the top"); (case kd => first | k_room | fail "use: room"); (case ku => first | k_units | fail "use: units"); (case kC => first | assumption | fail "use: the table"))); ((intro g9 q9 p9 n0 n1 n2 t0 t1 t2 t3 h9 tk9 F9 N9 og9 o09 o19 e3 e4 e5; (try dsimp only); (try k_fold))))))); k_steps)))
      refine gr_end0 hb (by k_asm) (by k_asm) (by k_mem) (by k_mem) (by k_mem) (by k_mem) (by k_mem) (by k_mem) (by k_mem) (by k_mem) (by k_mem) (by k_mem) (by k_mem) (by assumption) (by assumption) (by assumption) (by assumption) (by simp [gstep]) (by walk_at "ctr off") (by walk_at "ctr off") (by walk_at "ctr off") (by walk_at "ctr off") (by walk_at "ctr off") (by walk_at "ctr off") (by walk_at "ctr off") (by walk_at "ctr off") ?_
      · intro y hy
        simp only [List.mem_cons, List.not_mem_nil, or_false, not_or] at hy
        simp only [if_neg hy.1, if_neg hy.2]
    · simp only [sgn, if_true] at F
      (k_steps; (repeat' ((refine unstop ?_; (first | ((with_reducible show wpAny _ _ (call (Value.ref 80) _) _ _ _); (refine' Ctr.useGrid (ctr_grid_product _ _ _ _ _ _ _ _ _ _ _ _ _ _ _ _ _ _ _ _ _ _ _ _ _ _ _ _ _ _ _ _ _ _ _ _ _ (lam_plus ?d1 ?v1) (lam_times ?d2 ?v2) ?b1 ?b2 ?b3 ?b4 ?b5 ?b6 ?b7 ?b8) ?k1 ?k2 ?k3 ?k4 ?kS ?k5 ?kd ?ku ?kC ?_; (case k1 => first | k_asm | fail "use: below"); (case k2 => first | k_asm | fail "use: the frame"); (case k3 => first | k_asm | fail "use: the part"); (case k4 => first | k_asm | fail "use: the ledger"); (case kS => first | (((repeat (refine sub_cons ?_ ?_; k_mem)); exact sub_nil)) | fail "use: what is handed in"); (case k5 => first | k_asm | fail "use: the top"); (case kd => first | k_room | fail "use: room"); (case ku => first | k_units | fail "use: units"); (case kC => first | assumption | fail "use: the table"); (case d1 => assumption); (case d2 => assumption); (case v1 => first | assumption | exact ea); (case v2 => first | assumption | exact eb); (case b1 => first | with_reducible assumption | decide); (case b2 => first | with_reducible assumption | decide); (case b3 => first | with_reducible assumption | decide); (case b4 => first | with_reducible assumption | decide); (case b5 => first | with_reducible assumption | decide); (case b6 => first | with_reducible assumption | decide); (case b7 => first | with_reducible assumption | decide); (case b8 => first | with_reducible assumption | decide); ((intro g9 q9 p9 n0 n1 n2 t0 t1 t2 t3 h9 tk9 F9 N9 og9 o09 o19 e3 e4 e5; (try dsimp only); (try k_fold))))) | ((with_reducible show wpAny _ _ (call (Value.ref 70) _) _ _ _); (refine' Ctr.useGrid (ctr_unit_grid _ _) ?k1 ?k2 ?k3 ?k4 ?kS ?k5 ?kd ?ku ?kC ?_; (( (case k1 => first | k_asm | fail "use: below"); (case k2 => first | k_asm | fail "use: the frame"); (case k3 => first | k_asm | fail "use: the part"); (case k4 => first | k_asm | fail "use: the ledger"); (case kS => first | lcg_sub | fail "use: what is handed in"); (case k5 => first | k_asm | fail "use: the top"); (case kd => first | k_room | fail "use: room"); (case ku => first | k_units | fail "use: units"); (case kC => first | assumption | fail "use: the table"))); ((intro g9 q9 p9 n0 n1 n2 t0 t1 t2 t3 h9 tk9 F9 N9 og9 o09 o19 e3 e4 e5; (try dsimp only); (try k_fold))))))); k_steps)))
      refine gr_end0 hb (by k_asm) (by k_asm) (by k_mem) (by k_mem) (by k_mem) (by k_mem) (by k_mem) (by k_mem) (by k_mem) (by k_mem) (by k_mem) (by k_mem) (by k_mem) (by assumption) (by assumption) (by assumption) (by assumption) (by simp [gstep]) (by walk_at "ctr off") (by walk_at "ctr off") (by walk_at "ctr off") (by walk_at "ctr off") (by walk_at "ctr off") (by walk_at "ctr off") (by walk_at "ctr off") (by walk_at "ctr off") ?_
      · intro y hy
        simp only [List.mem_cons, List.not_mem_nil, or_false, not_or] at hy
        simp only [if_neg hy.1, if_neg hy.2]
  · intro ca cb oca ocb va vb ta tb i b u m' I oI hp tk ini n g r0 r1 n0 n1 n2 t0 t1 t2 t3 rest E' da db ea eb hb hi hj oG ap F N oI9
    simp only [forget, List.cons_append, List.nil_append] at F N oG oI9
    obtain ⟨⟨⟨x1, x2⟩, x3, x4⟩, ⟨x5, x6⟩, x7, x8⟩ := bnd_of (ws := ws.take i) (take_le hw)
    have z9 := grow_size (x := Value.ref g) hi hw hb
    cases b
    · simp only [sgn, Bool.false_eq_true, if_false] at F
      (k_steps; (repeat' ((refine unstop ?_; (first | ((with_reducible show wpAny _ _ (call (Value.ref 80) _) _ _ _); (refine' Ctr.useGrid (ctr_grid_product _ _ _ _ _ _ _ _ _ _ _ _ _ _ _ _ _ _ _ _ _ _ _ _ _ _ _ _ _ _ _ _ _ _ _ _ _ (lam_plus ?d1 ?v1) (lam_times ?d2 ?v2) ?b1 ?b2 ?b3 ?b4 ?b5 ?b6 ?b7 ?b8) ?k1 ?k2 ?k3 ?k4 ?kS ?k5 ?kd ?ku ?kC ?_; (case k1 => first | k_asm | fail "use: below"); (case k2 => first | k_asm | fail "use: the frame"); (case k3 => first | k_asm | fail "use: the part"); (case k4 => first | k_asm | fail "use: the ledger"); (case kS => first | (((repeat (refine sub_cons ?_ ?_; k_mem)); exact sub_nil)) | fail "use: what is handed in"); (case k5 => first | k_asm | fail "use: the top"); (case kd => first | k_room | fail "use: room"); (case ku => first | k_units | fail "use: units"); (case kC => first | assumption | fail "use: the table"); (case d1 => assumption); (case d2 => assumption); (case v1 => first | assumption | exact ea); (case v2 => first | assumption | exact eb); (case b1 => first | with_reducible assumption | decide); (case b2 => first | with_reducible assumption | decide); (case b3 => first | with_reducible assumption | decide); (case b4 => first | with_reducible assumption | decide); (case b5 => first | with_reducible assumption | decide); (case b6 => first | with_reducible assumption | decide); (case b7 => first | with_reducible assumption | decide); (case b8 => first | with_reducible assumption | decide); ((intro g9 q9 p9 n0 n1 n2 t0 t1 t2 t3 h9 tk9 F9 N9 og9 o09 o19 e3 e4 e5; (try dsimp only); (try k_fold))))) | ((with_reducible show wpAny _ _ (call (Value.ref 70) _) _ _ _); (refine' Ctr.useGrid (ctr_unit_grid _ _) ?k1 ?k2 ?k3 ?k4 ?kS ?k5 ?kd ?ku ?kC ?_; (( (case k1 => first | k_asm | fail "use: below"); (case k2 => first | k_asm | fail "use: the frame"); (case k3 => first | k_asm | fail "use: the part"); (case k4 => first | k_asm | fail "use: the ledger"); (case kS => first | lcg_sub | fail "use: what is handed in"); (case k5 => first | k_asm | fail "use: the top"); (case kd => first | k_room | fail "use: room"); (case ku => first | k_units | fail "use: units"); (case kC => first | assumption | fail "use: the table"))); ((intro g9 q9 p9 n0 n1 n2 t0 t1 t2 t3 h9 tk9 F9 N9 og9 o09 o19 e3 e4 e5; (try dsimp only); (try k_fold))))))); k_steps)))
      refine gr_end hb hi hj (by k_asm) (by k_asm) (by k_mem) (by k_mem) (by k_mem) (by k_mem) (by k_mem) (by ((intro p9 hp9; repeat (first | exact hp9 | refine List.Mem.tail _ ?_)))) oG oI9 (by simp [gstep]) (by k_ne) (by k_ne) (by k_ne) (by k_ne) (by k_ne) (by k_ne) ?_ ap (by walk_at "ctr off") (by walk_at "ctr off") (by walk_at "ctr off")
      · intro y hy
        simp only [List.mem_cons, List.not_mem_nil, or_false, not_or] at hy
        simp only [if_neg hy.1, if_neg hy.2]
    · simp only [sgn, if_true] at F
      (k_steps; (repeat' ((refine unstop ?_; (first | ((with_reducible show wpAny _ _ (call (Value.ref 80) _) _ _ _); (refine' Ctr.useGrid (ctr_grid_product _ _ _ _ _ _ _ _ _ _ _ _ _ _ _ _ _ _ _ _ _ _ _ _ _ _ _ _ _ _ _ _ _ _ _ _ _ (lam_plus ?d1 ?v1) (lam_times ?d2 ?v2) ?b1 ?b2 ?b3 ?b4 ?b5 ?b6 ?b7 ?b8) ?k1 ?k2 ?k3 ?k4 ?kS ?k5 ?kd ?ku ?kC ?_; (case k1 => first | k_asm | fail "use: below"); (case k2 => first | k_asm | fail "use: the frame"); (case k3 => first | k_asm | fail "use: the part"); (case k4 => first | k_asm | fail "use: the ledger"); (case kS => first | (((repeat (refine sub_cons ?_ ?_; k_mem)); exact sub_nil)) | fail "use: what is handed in"); (case k5 => first | k_asm | fail "use: the top"); (case kd => first | k_room | fail "use: room"); (case ku => first | k_units | fail "use: units"); (case kC => first | assumption | fail "use: the table"); (case d1 => assumption); (case d2 => assumption); (case v1 => first | assumption | exact ea); (case v2 => first | assumption | exact eb); (case b1 => first | with_reducible assumption | decide); (case b2 => first | with_reducible assumption | decide); (case b3 => first | with_reducible assumption | decide); (case b4 => first | with_reducible assumption | decide); (case b5 => first | with_reducible assumption | decide); (case b6 => first | with_reducible assumption | decide); (case b7 => first | with_reducible assumption | decide); (case b8 => first | with_reducible assumption | decide); ((intro g9 q9 p9 n0 n1 n2 t0 t1 t2 t3 h9 tk9 F9 N9 og9 o09 o19 e3 e4 e5; (try dsimp only); (try k_fold))))) | ((with_reducible show wpAny _ _ (call (Value.ref 70) _) _ _ _); (refine' Ctr.useGrid (ctr_unit_grid _ _) ?k1 ?k2 ?k3 ?k4 ?kS ?k5 ?kd ?ku ?kC ?_; (( (case k1 => first | k_asm | fail "use: below"); (case k2 => first | k_asm | fail "use: the frame"); (case k3 => first | k_asm | fail "use: the part"); (case k4 => first | k_asm | fail "use: the ledger"); (case kS => first | lcg_sub | fail "use: what is handed in"); (case k5 => first | k_asm | fail "use: the top"); (case kd => first | k_room | fail "use: room"); (case ku => first | k_units | fail "use: units"); (case kC => first | assumption | fail "use: the table"))); ((intro g9 q9 p9 n0 n1 n2 t0 t1 t2 t3 h9 tk9 F9 N9 og9 o09 o19 e3 e4 e5; (try dsimp only); (try k_fold))))))); k_steps)))
      refine gr_end hb hi hj (by k_asm) (by k_asm) (by k_mem) (by k_mem) (by k_mem) (by k_mem) (by k_mem) (by ((intro p9 hp9; repeat (first | exact hp9 | refine List.Mem.tail _ ?_)))) oG oI9 (by simp [gstep]) (by k_ne) (by k_ne) (by k_ne) (by k_ne) (by k_ne) (by k_ne) ?_ ap (by walk_at "ctr off") (by walk_at "ctr off") (by walk_at "ctr off")
      · intro y hy
        simp only [List.mem_cons, List.not_mem_nil, or_false, not_or] at hy
        simp only [if_neg hy.1, if_neg hy.2]
  · intro m' hp tk nw j F N
    simp only [forget] at F
    obtain ⟨ca, cb, oca, ocb, va, vb, ta, tb, da, db, ea, eb, ini, n, g, r0, r1, n0, n1, n2, t0, t1, t2, t3, rest, rfl, hi, hj, oG, ap⟩ := j
    rw [List.take_length] at *
    dsimp only
    (k_steps; (repeat' ((refine unstop ?_; (first | ((with_reducible show wpAny _ _ (call (Value.ref 80) _) _ _ _); (refine' Ctr.useGrid (ctr_grid_product _ _ _ _ _ _ _ _ _ _ _ _ _ _ _ _ _ _ _ _ _ _ _ _ _ _ _ _ _ _ _ _ _ _ _ _ _ (lam_plus ?d1 ?v1) (lam_times ?d2 ?v2) ?b1 ?b2 ?b3 ?b4 ?b5 ?b6 ?b7 ?b8) ?k1 ?k2 ?k3 ?k4 ?kS ?k5 ?kd ?ku ?kC ?_; (case k1 => first | k_asm | fail "use: below"); (case k2 => first | k_asm | fail "use: the frame"); (case k3 => first | k_asm | fail "use: the part"); (case k4 => first | k_asm | fail "use: the ledger"); (case kS => first | (((repeat (refine sub_cons ?_ ?_; k_mem)); exact sub_nil)) | fail "use: what is handed in"); (case k5 => first | k_asm | fail "use: the top"); (case kd => first | k_room | fail "use: room"); (case ku => first | k_units | fail "use: units"); (case kC => first | assumption | fail "use: the table"); (case d1 => assumption); (case d2 => assumption); (case v1 => first | assumption | exact ea); (case v2 => first | assumption | exact eb); (case b1 => first | with_reducible assumption | decide); (case b2 => first | with_reducible assumption | decide); (case b3 => first | with_reducible assumption | decide); (case b4 => first | with_reducible assumption | decide); (case b5 => first | with_reducible assumption | decide); (case b6 => first | with_reducible assumption | decide); (case b7 => first | with_reducible assumption | decide); (case b8 => first | with_reducible assumption | decide); ((intro g9 q9 p9 n0 n1 n2 t0 t1 t2 t3 h9 tk9 F9 N9 og9 o09 o19 e3 e4 e5; (try dsimp only); (try k_fold))))) | ((with_reducible show wpAny _ _ (call (Value.ref 70) _) _ _ _); (refine' Ctr.useGrid (ctr_unit_grid _ _) ?k1 ?k2 ?k3 ?k4 ?kS ?k5 ?kd ?ku ?kC ?_; (( (case k1 => first | k_asm | fail "use: below"); (case k2 => first | k_asm | fail "use: the frame"); (case k3 => first | k_asm | fail "use: the part"); (case k4 => first | k_asm | fail "use: the ledger"); (case kS => first | lcg_sub | fail "use: what is handed in"); (case k5 => first | k_asm | fail "use: the top"); (case kd => first | k_room | fail "use: room"); (case ku => first | k_units | fail "use: units"); (case kC => first | assumption | fail "use: the table"))); ((intro g9 q9 p9 n0 n1 n2 t0 t1 t2 t3 h9 tk9 F9 N9 og9 o09 o19 e3 e4 e5; (try dsimp only); (try k_fold))))))); k_steps)))
    refine hret _ _ _ _ (by k_asm) (news_sub (by k_asm) gr_subs2) (kept_sub (by (exact kept_of (by assumption) (by assumption) (by assumption))) gr_subs2) ⟨ca, cb, oca, ocb, va, vb, ta, tb, _, rfl, da, db, ea, eb, gr_grids hi hj⟩
end
theorem walk_off_J1 : True := by
  w_top off
  trivial
-- J1
section
open PySem PySem.W PyProof.Rows
set_option linter.unusedVariables false
set_option maxRecDepth 100000
set_option maxHeartbeats 8000000
theorem ctr_law_fraction (w : World) (g r0 r1 : Addr) (a b c d : Int) (ta tb tc td : Tok) (n0 n1 n2 : Nat) :
    CtrR w 4 184 [.ref g] [(g, listOf #[.ref r0, .ref r1] n0), (r0, listOf #[.int a ta, .int b tb] n1), (r1, listOf #[.int c tc, .int d td] n2)] (RTup (c + d) (a + b)) := by
  unfold CtrR Ctr; k_fill
  intro p loose mean mg mb dp un gd cn nms9 ig9 ic9 mo9 a9 ccd cl outer A₀ base h₀ L m s Q E B F X N T hdp hun hC hret
  refine wpAny_call ?_
  (k_dflt (first | (refine' def_in ?k1 ?k2 ?k3 ?k4 ?k5 ?kA ?kF ?kK ?k6 ?k7 ?k8 ?k9 ?kB ?_ ?c2 ?c3 ?c4 ?c5; (case kA => exact rfl); (case kF => exact rfl); (case kK => exact rfl); (case k1 => k_asm); (case k2 => k_asm); (case k3 => k_asm); (case k4 => k_asm); (case k5 => k_asm); (case k6 => k_is); (case k7 => k_is); (case k8 => k_room); (case k9 => exact BindsTo.of_eq rfl); (case c5 => decide); (case kB => exact locs rfl); (case c2 => exact rfl); (case c3 => exact rfl); (case c4 => exact rfl); k_whole; intro g' L' h' H' FG' F' N' B' X' T'; (try dsimp only); (try k_lift B'); (try k_fold)) | (refine' def_inC ?k1 ?k2 ?k3 ?k4 ?k5 ?kA ?kF ?kK ?k6 ?k7 ?k8 ?k9 ?kB ?kD ?_ ?c2 ?c3 ?c4; (case kA => exact rfl); (case kF => exact rfl); (case kK => exact rfl); (case k1 => k_asm); (case k2 => k_asm); (case k3 => k_asm); (case k4 => k_asm); (case k5 => k_asm); (case k6 => k_is); (case k7 => k_is); (case k8 => k_room); (case k9 => exact BindsTo.of_eq rfl); (case kB => exact rfl); (case kD => decide +kernel); (case c2 => exact rfl); (case c3 => exact rfl); (case c4 => exact rfl); k_whole; intro g' L' h' tk' cells' H' FG' F' N' Y' B' X' T' l1; (try (replace l1 := allLt_of l1)); k_cells Y'; (try simp only [List.cons_append, List.nil_append] at N'); (try dsimp only); (try k_lift B'); (try k_fold))))
  k_steps
  exact ret_tup hret (by k_asm) (by k_asm) (by (exact kept_of (by assumption) (by assumption) (by assumption))) (by lcg_sub) (by k_mem) (by omega) (by omega) (by walk_at "ctr off")
noncomputable abbrev RStr (x : Str) (v : Value) (add : Led) : Prop := ∃ t, v = .str x t ∧ add = []
theorem Ctr.useStr {w : World} {D : Nat} {f : Addr} {vs : List Value} {led all : Led} {Z : Str} (C : CtrR w D f vs led (RStr Z))
    {p : Program} {loose : List Str} {mean : ExcName → Option Value} {mg mb : Str → Option Value} {dp un : Nat} {gd : Option (List Code)} {cn : Str} {nms : List (Str × NameKind)} {ig ic : Bool} {mo : List (Str × Const)} {a : Addr} {ccd : Value} {cl : List (Str × Addr)} {outer : List Env} {A₀ : Around} {base h₀ : Heap} {L : Addr} {m : Str → Option Value} {s : Shared} {Q E : Value → Shared → Prop}
    (B : Below A₀ base outer h₀) (F : Fr h₀ L s.heap m) (X : (hd.heap_1 w.params).In h₀) (N : News h₀ L s.heap all) (hs : ∀ p ∈ led, p ∈ all) (T : Top p loose mean mg mb h₀) (hd : dp + D < recursionLimit) (hu : un + 8 * D < cLine) (hC : CodeHd base 197 193)
    (ret : ∀ t h' tk', Fr h₀ L h' m → News h₀ L h' all → Q (.str Z t) { s with heap := h', toks := tk' }) :
    wpAny (model PySem.Challenge.rw_xm0031_01.row.prog w) (ktrTop dp un gd cn { kind := .function, names := nms, isGenerator := ig, isCoroutine := ic, more := mo } L a ccd cl outer) (call (.ref f) vs) Q E s :=
  Ctr.useR C B F X N hs T hd hu hC (by
    rintro v h' tk' add F' N' P' ⟨t, rfl, rfl⟩
    exact ret t h' tk' F' N')
theorem ret_str {s : Shared} {h₀ h' : Heap} {L : Addr} {m : Str → Option Value} {led fin : Led} {Q : Value → Shared → Prop} {tk' : Nat} {X X' : Str} {t : Tok} (hret : RetR s h₀ L m led (RStr X) Q) (F : Fr h₀ L h' m) (N : News h₀ L h' fin) (K : Kept s.heap led h' fin) (hs : ∀ p ∈ led, p ∈ fin) (hX : X' = X) : Q (.str X' t) { s with heap := h', toks := tk' } := by
  subst hX
  exact hret _ _ _ led F (news_sub N hs) (kept_sub K hs) ⟨[], rfl, apart0, t, rfl, rfl⟩
noncomputable def bstep (s : Str × Int × Int) : Str × Int × Int := if s.2.1 < s.2.2 then (s.1 ++ Str.ofString "L", s.2.1, s.2.2 - s.2.1) else if s.2.2 < s.2.1 then (s.1 ++ Str.ofString "R", s.2.1 - s.2.2, s.2.2) else s
noncomputable def backS : Nat → Str × Int × Int → Str × Int × Int
  | 0, s => s
  | n + 1, s => bstep (backS n s)
local macro_rules | `(tactic| walk_at "exec For Name Call cons nil") => `(tactic| (k_here; k_dflt (refine for_range [Str.ofString "found", Str.ofString "above", Str.ofString "below"] (F₀ := by k_asm) (by rfl) (by rfl) (by rfl) ?_)))
section
variable {prog : Program} {A₁ : Around} {E : Value → Shared → Prop} {s₁ : Shared} {h₀ : Heap} {L : Addr} {m : Str → Option Value} {env : Env}
noncomputable abbrev BackM (A B : Int) (i : Nat) (m' : Str → Option Value) (nw : Led) : Prop := nw = [] ∧ ∃ f a b tf ta tb, m' (Str.ofString "found") = some (.str f tf) ∧ m' (Str.ofString "above") = some (.int a ta) ∧ m' (Str.ofString "below") = some (.int b tb) ∧ f.length ≤ i ∧ backS i (Str.ofString "", A, B) = (f, a, b)
theorem back_src {w : World} {x : Str} {body : List Stmt} {Q : Flow → Shared → Prop} {r : Addr} {A B : Int} {t u v t1 t2 t3 : Tok} (hh : A₁.handled = none) (F : Fr h₀ L s₁.heap m) (N : News h₀ L s₁.heap []) (hr : IsRange s₁.heap r 0 9 1 t u v)
    (m1 : m (Str.ofString "found") = some (.str (Str.ofString "") t1)) (m2 : m (Str.ofString "above") = some (.int A t2)) (m3 : m (Str.ofString "below") = some (.int B t3)) 
    (turn : ∀ i f a b t tf ta tb I oI h tk (E' : Value → Shared → Prop), i < 9 → f.length ≤ i → backS i (Str.ofString "", A, B) = (f, a, b) →
      Fr h₀ L h (fun y => if y = x then some (.int (0 + (i : Int)) t) else if y = Str.ofString "found" then some (.str f tf) else if y = Str.ofString "above" then some (.int a ta) else if y = Str.ofString "below" then some (.int b tb) else m y) → News h₀ L h [(I, oI)] →
      wpAny (model prog w) A₁ (execs body env) (TurnM h₀ L m [x, Str.ofString "found", Str.ofString "above", Str.ofString "below"] { s₁ with heap := h, toks := tk } [(I, oI)] (BackM A B (i + 1))) E' { s₁ with heap := h, toks := tk })
    (fin : ∀ f a b tf ta tb (m' : Str → Option Value) h tk, backS 9 (Str.ofString "", A, B) = (f, a, b) → Fr h₀ L h (fun y => if y = x then m' y else if y = Str.ofString "found" then some (.str f tf) else if y = Str.ofString "above" then some (.int a ta) else if y = Str.ofString "below" then some (.int b tb) else m y) → News h₀ L h [] → Q .next { s₁ with heap := h, toks := tk }) :
    RangeSrc prog w A₁ h₀ L m env x [Str.ofString "found", Str.ofString "above", Str.ofString "below"] body Q (.ref r) s₁ := by
  have eq : ∀ {m' : Str → Option Value} {f tf a ta b tb}, m' (Str.ofString "found") = some (.str f tf) → m' (Str.ofString "above") = some (.int a ta) → m' (Str.ofString "below") = some (.int b tb) →
      forget [Str.ofString "found", Str.ofString "above", Str.ofString "below"] m' m = fun y => if y = Str.ofString "found" then some (.str f tf) else if y = Str.ofString "above" then some (.int a ta) else if y = Str.ofString "below" then some (.int b tb) else m y := by
    intro m' f tf a ta b tb h1 h2 h3
    funext y
    simp only [forget]
    by_cases e1 : y = Str.ofString "found"
    · rw [if_pos e1, if_pos e1, e1, h1]
    · rw [if_neg e1, if_neg e1]
      by_cases e2 : y = Str.ofString "above"
      · rw [if_pos e2, if_pos e2, e2, h2]
      · rw [if_neg e2, if_neg e2]
        by_cases e3 : y = Str.ofString "below"
        · rw [if_pos e3, if_pos e3, e3, h3]
        · rw [if_neg e3, if_neg e3]
  refine ⟨r, 0, 9, t, u, v, 9, [], BackM A B, rfl, hh, F, N, hr, by decide, by rfl, ⟨rfl, _, _, _, _, _, _, m1, m2, m3, by decide, rfl⟩, ?_, ?_⟩
  · rintro i t m' nw I oI h tk E' hi ⟨rfl, f, a, b, tf, ta, tb, h1, h2, h3, hl, hb⟩ F N oI9
    rw [eq h1 h2 h3] at F
    exact turn i f a b t tf ta tb I oI h tk E' hi hl hb F N
  · rintro m' nw h tk ⟨rfl, f, a, b, tf, ta, tb, h1, h2, h3, hl, hb⟩ F N
    refine fin f a b tf ta tb m' h tk hb ?_ N
    have : forget [x, Str.ofString "found", Str.ofString "above", Str.ofString "below"] m' m = fun y => if y = x then m' y else forget [Str.ofString "found", Str.ofString "above", Str.ofString "below"] m' m y := rfl
    rw [this, eq h1 h2 h3] at F
    exact F
end
theorem back_end {i : Nat} {s0 : Str × Int × Int} {f f' : Str} {a b a' b' : Int} (hb : backS i s0 = (f, a, b)) (h : bstep (f, a, b) = (f', a', b')) : backS (i + 1) s0 = (f', a', b') := by
  show bstep (backS i s0) = _
  rw [hb, h]
theorem back_len {i : Nat} {f x : Str} (hx : x.length = 1) (hl : f.length ≤ i) : (f ++ x).length ≤ i + 1 := by
  rw [Str.length_append, hx]; omega
theorem ctr_law_back (w : World) (U V : Int) (ta tb : Tok) : CtrR w 4 191 [.int U ta, .int V tb] [] (RStr (backS 9 (Str.ofString "", U, V)).1) := by
  unfold CtrR Ctr; k_fill
  intro p loose mean mg mb dp un gd cn nms9 ig9 ic9 mo9 a9 ccd cl outer A₀ base h₀ L m s Q E B F X N T hdp hun hC hret
  refine wpAny_call ?_
  (k_dflt (first | (refine' def_in ?k1 ?k2 ?k3 ?k4 ?k5 ?kA ?kF ?kK ?k6 ?k7 ?k8 ?k9 ?kB ?_ ?c2 ?c3 ?c4 ?c5; (case kA => exact rfl); (case kF => exact rfl); (case kK => exact rfl); (case k1 => k_asm); (case k2 => k_asm); (case k3 => k_asm); (case k4 => k_asm); (case k5 => k_asm); (case k6 => k_is); (case k7 => k_is); (case k8 => k_room); (case k9 => exact BindsTo.of_eq rfl); (case c5 => decide); (case kB => exact locs rfl); (case c2 => exact rfl); (case c3 => exact rfl); (case c4 => exact rfl); k_whole; intro g' L' h' H' FG' F' N' B' X' T'; (try dsimp only); (try k_lift B'); (try k_fold)) | (refine' def_inC ?k1 ?k2 ?k3 ?k4 ?k5 ?kA ?kF ?kK ?k6 ?k7 ?k8 ?k9 ?kB ?kD ?_ ?c2 ?c3 ?c4; (case kA => exact rfl); (case kF => exact rfl); (case kK => exact rfl); (case k1 => k_asm); (case k2 => k_asm); (case k3 => k_asm); (case k4 => k_asm); (case k5 => k_asm); (case k6 => k_is); (case k7 => k_is); (case k8 => k_room); (case k9 => exact BindsTo.of_eq rfl); (case kB => exact rfl); (case kD => decide +kernel); (case c2 => exact rfl); (case c3 => exact rfl); (case c4 => exact rfl); k_whole; intro g' L' h' tk' cells' H' FG' F' N' Y' B' X' T' l1; (try (replace l1 := allLt_of l1)); k_cells Y'; (try simp only [List.cons_append, List.nil_append] at N'); (try dsimp only); (try k_lift B'); (try k_fold))))
  k_steps
  refine back_src (A := U) (B := V) rfl (by k_asm) (by k_asm) (by assumption) (by rfl) (by rfl) (by rfl) ?_ ?_
  · intro i f a b t tf ta tb I oI hp tk E' hi hl hb F N
    have hz9 : f.length ≤ sizeLine := by rw [PySem.sizeLine_eq]; omega
    have hz8 : f.length + 1 ≤ sizeLine := by rw [PySem.sizeLine_eq]; omega
    by_cases c1 : a < b
    · k_steps
      refine turn_m (by k_asm) (by k_asm) [] (by lcg_sub) (fun _ _ => trivial) ?_ ⟨rfl, f ++ Str.ofString "L", a, b - a, _, _, _, by rfl, by rfl, by rfl, back_len (by decide) hl, back_end hb (by simp only [bstep, if_pos c1])⟩
      · intro y hy
        simp only [List.mem_cons, List.not_mem_nil, or_false, not_or] at hy
        simp only [if_neg hy.1, if_neg hy.2.1, if_neg hy.2.2.1, if_neg hy.2.2.2]
    · by_cases c2 : b < a
      · k_steps
        refine turn_m (by k_asm) (by k_asm) [] (by lcg_sub) (fun _ _ => trivial) ?_ ⟨rfl, f ++ Str.ofString "R", a - b, b, _, _, _, by rfl, by rfl, by rfl, back_len (by decide) hl, back_end hb (by simp only [bstep, if_neg c1, if_pos c2])⟩
        · intro y hy
          simp only [List.mem_cons, List.not_mem_nil, or_false, not_or] at hy
          simp only [if_neg hy.1, if_neg hy.2.1, if_neg hy.2.2.1, if_neg hy.2.2.2]
      · k_steps
        refine turn_m (by k_asm) (by k_asm) [] (by lcg_sub) (fun _ _ => trivial) ?_ ⟨rfl, f, a, b, _, _, _, by rfl, by rfl, by rfl, Nat.le_succ_of_le hl, back_end hb (by simp only [bstep, if_neg c1, if_neg c2])⟩
        · intro y hy
          simp only [List.mem_cons, List.not_mem_nil, or_false, not_or] at hy
          simp only [if_neg hy.1, if_neg hy.2.1, if_neg hy.2.2.1, if_neg hy.2.2.2]
  · intro f a b tf ta tb m' hp tk hb F N
    dsimp only
    k_steps
    exact ret_str hret (by k_asm) (by k_asm) (by (exact kept_of (by assumption) (by assumption) (by assumption))) (by lcg_sub) (by rw [hb])
end
theorem walk_off_K1 : True := by
  w_top off
  trivial
-- K1
section
open PySem PySem.W PyProof.Rows
set_option linter.unusedVariables false
set_option maxRecDepth 100000
set_option maxHeartbeats 8000000
noncomputable abbrev RTold (bag l : Addr) (vs : List Value) (n2 : Nat) (sp bw : Int) (v : Value) (led' : Led) : Prop := ∃ r t t2 n', v = .int r t ∧ (0 ≤ r ∧ r < bw) ∧ led' = [(bag, listOf #[.ref l, .int (sp + 1) t2] n'), (l, listOf vs.toArray n2)]
local macro_rules | `(tactic| walk_at "call builtin:len") => `(tactic| (k_here; (with_reducible show wpAny _ _ (call (Value.builtin "len") [Value.ref _]) _ _ _); k_dflt (refine len_list (News.isList (by k_asm) (by k_mem)) (by with_reducible assumption) ?_)))
local macro_rules | `(tactic| walk_at "subscriptTail") => `(tactic| (k_here; (with_reducible show wpAny _ _ (subscriptTail _ _ (Value.ref _) (Value.int _ _)) _ _ _); k_dflt (refine kim_list (by k_asm) (by k_mem) rfl rfl (by with_reducible assumption) (by with_reducible assumption) (by with_reducible assumption) ?_)))
theorem ints_at {vs : List Value} {ns : List Int} {sp : Int} (hI : IntsAre vs ns) (h0 : 0 ≤ sp) (h : sp < (vs.toArray.size : Int)) : ∃ x t, vs[sp.toNat]? = some (.int x t) := by
  have hl := hI.length
  rw [List.size_toArray] at h
  have : sp.toNat < ns.length := by omega
  obtain ⟨t, ht⟩ := hI.get sp.toNat ns[sp.toNat] (by simp [this])
  exact ⟨_, t, ht⟩
theorem ctr_turn_told (w : World) (bag l : Addr) (vs : List Value) (ns : List Int) (sp bw : Int) (t1 tb : Tok) (n n2 : Nat) (hI : IntsAre vs ns) (h0 : 0 ≤ sp) (h1 : sp ≤ 100) (hb : 0 < bw) (hb' : bw ≤ 4) (hl : vs.length ≤ 100) (hne : @Ne Nat bag l) :
    Ctr w 4 172 [.ref bag, .int bw tb] [(bag, listOf #[.ref l, .int sp t1] n), (l, listOf vs.toArray n2)] (RTold bag l vs n2 sp bw) := by
  unfold Ctr; k_fill
  intro p loose mean mg mb dp un gd cn nms9 ig9 ic9 mo9 a9 ccd cl outer A₀ base h₀ L m s Q E B F X N T hdp hun hC hret
  refine wpAny_call ?_
  (k_dflt (first | (refine' def_in ?k1 ?k2 ?k3 ?k4 ?k5 ?kA ?kF ?kK ?k6 ?k7 ?k8 ?k9 ?kB ?_ ?c2 ?c3 ?c4 ?c5; (case kA => exact rfl); (case kF => exact rfl); (case kK => exact rfl); (case k1 => k_asm); (case k2 => k_asm); (case k3 => k_asm); (case k4 => k_asm); (case k5 => k_asm); (case k6 => k_is); (case k7 => k_is); (case k8 => k_room); (case k9 => exact BindsTo.of_eq rfl); (case c5 => decide); (case kB => exact locs rfl); (case c2 => exact rfl); (case c3 => exact rfl); (case c4 => exact rfl); k_whole; intro g' L' h' H' FG' F' N' B' X' T'; (try dsimp only); (try k_lift B'); (try k_fold)) | (refine' def_inC ?k1 ?k2 ?k3 ?k4 ?k5 ?kA ?kF ?kK ?k6 ?k7 ?k8 ?k9 ?kB ?kD ?_ ?c2 ?c3 ?c4; (case kA => exact rfl); (case kF => exact rfl); (case kK => exact rfl); (case k1 => k_asm); (case k2 => k_asm); (case k3 => k_asm); (case k4 => k_asm); (case k5 => k_asm); (case k6 => k_is); (case k7 => k_is); (case k8 => k_room); (case k9 => exact BindsTo.of_eq rfl); (case kB => exact rfl); (case kD => decide +kernel); (case c2 => exact rfl); (case c3 => exact rfl); (case c4 => exact rfl); k_whole; intro g' L' h' tk' cells' H' FG' F' N' Y' B' X' T' l1; (try (replace l1 := allLt_of l1)); k_cells Y'; (try simp only [List.cons_append, List.nil_append] at N'); (try dsimp only); (try k_lift B'); (try k_fold))))
  have hf9 : (vs.toArray.size : Int) < 2 ^ 63 := by rw [List.size_toArray]; omega
  have hf8 : sp < 2 ^ 63 := by omega
  by_cases hc9 : sp < (vs.toArray.size : Int)
  · obtain ⟨x9, tx9, hx9⟩ := ints_at hI h0 hc9
    k_steps
    exact hret _ _ _ _ (by k_asm) (by k_asm) (by (exact kept_of (by assumption) (by assumption) (by assumption))) ⟨_, _, _, _, rfl, ⟨Int.fmod_nonneg_of_pos _ hb, Int.fmod_lt_of_pos _ hb⟩, rfl⟩
  · k_steps
    exact hret _ _ _ _ (by k_asm) (by k_asm) (by (exact kept_of (by assumption) (by assumption) (by assumption))) ⟨_, _, _, _, rfl, ⟨Int.fmod_nonneg_of_pos _ hb, Int.fmod_lt_of_pos _ hb⟩, rfl⟩
end
theorem walk_off_K2 : True := by
  w_top off
  trivial
-- K2
section
local macro_rules | `(tactic| walk_at "no such key 0") => `(tactic| skip)
open PySem PySem.W PyProof.Rows
set_option linter.unusedVariables false
set_option maxRecDepth 100000
set_option maxHeartbeats 8000000
theorem Ctr.useG1 {w : World} {D : Nat} {f : Addr} {vs : List Value} {led : Led} {x1 : Addr × Obj} {R : Value → Led → Prop} (C : Ctr w D f vs led R)
    {p : Program} {loose : List Str} {mean : ExcName → Option Value} {mg mb : Str → Option Value} {dp un : Nat} {gd : Option (List Code)} {cn : Str} {nms : List (Str × NameKind)} {ig ic : Bool} {mo : List (Str × Const)} {a : Addr} {ccd : Value} {cl : List (Str × Addr)} {outer : List Env} {A₀ : Around} {base h₀ : Heap} {L : Addr} {m : Str → Option Value} {s : Shared} {Q E : Value → Shared → Prop}
    (B : Below A₀ base outer h₀) (F : Fr h₀ L s.heap m) (X : (hd.heap_1 w.params).In h₀) (N : News h₀ L s.heap (x1 :: led)) (o1 : LCg.Off1 x1.1 led) (T : Top p loose mean mg mb h₀) (hd : dp + D < recursionLimit) (hu : un + 8 * D < cLine) (hC : CodeHd base 197 193)
    (ret : ∀ v h' tk' led', Fr h₀ L h' m → News h₀ L h' (x1 :: led') → LCg.Off1 x1.1 led' → R v led' → Q v { s with heap := h', toks := tk' }) :
    wpAny (model PySem.Challenge.rw_xm0031_01.row.prog w) (ktrTop dp un gd cn { kind := .function, names := nms, isGenerator := ig, isCoroutine := ic, more := mo } L a ccd cl outer) (call (.ref f) vs) Q E s :=
  Ctr.useG [x1] C B F X N (fun p hp => .tail _ hp) (fun p hp => by rw [List.mem_singleton.mp hp]; exact .head _) (fun p hp => by rw [List.mem_singleton.mp hp]; exact o1) T hd hu hC
    fun v h' tk' led' F' N' a' r => ret v h' tk' led' F' (news_sub N' fun p hp => by rcases List.mem_cons.mp hp with rfl | hp; exact List.mem_append.mpr (.inr (.head _)); exact List.mem_append.mpr (.inl hp)) (a' _ (.head _)) r
theorem Ctr.useG4 {w : World} {D : Nat} {f : Addr} {vs : List Value} {led : Led} {x1 x2 x3 x4 : Addr × Obj} {R : Value → Led → Prop} (C : Ctr w D f vs led R)
    {p : Program} {loose : List Str} {mean : ExcName → Option Value} {mg mb : Str → Option Value} {dp un : Nat} {gd : Option (List Code)} {cn : Str} {nms : List (Str × NameKind)} {ig ic : Bool} {mo : List (Str × Const)} {a : Addr} {ccd : Value} {cl : List (Str × Addr)} {outer : List Env} {A₀ : Around} {base h₀ : Heap} {L : Addr} {m : Str → Option Value} {s : Shared} {Q E : Value → Shared → Prop}
    (B : Below A₀ base outer h₀) (F : Fr h₀ L s.heap m) (X : (hd.heap_1 w.params).In h₀) (N : News h₀ L s.heap (x1 :: x2 :: x3 :: x4 :: led)) (o1 : LCg.Off1 x1.1 led) (o2 : LCg.Off1 x2.1 led) (o3 : LCg.Off1 x3.1 led) (o4 : LCg.Off1 x4.1 led) (T : Top p loose mean mg mb h₀) (hd : dp + D < recursionLimit) (hu : un + 8 * D < cLine) (hC : CodeHd base 197 193)
    (ret : ∀ v h' tk' led', Fr h₀ L h' m → News h₀ L h' (x1 :: x2 :: x3 :: x4 :: led') → LCg.Off1 x1.1 led' → LCg.Off1 x2.1 led' → LCg.Off1 x3.1 led' → LCg.Off1 x4.1 led' → R v led' → Q v { s with heap := h', toks := tk' }) :
    wpAny (model PySem.Challenge.rw_xm0031_01.row.prog w) (ktrTop dp un gd cn { kind := .function, names := nms, isGenerator := ig, isCoroutine := ic, more := mo } L a ccd cl outer) (call (.ref f) vs) Q E s := by
  refine Ctr.useG [x1, x2, x3, x4] C B F X N (fun p hp => .tail _ (.tail _ (.tail _ (.tail _ hp)))) (fun p hp => ?_) (apt_cons o1 (apt_cons o2 (apt_cons o3 (apt_cons o4 apt_nil)))) T hd hu hC ?_
  · simp only [List.mem_cons, List.not_mem_nil, or_false] at hp ⊢
    rcases hp with h | h | h | h <;> simp [h]
  · intro v h' tk' led' F' N' a' r
    refine ret v h' tk' led' F' (news_sub N' fun p hp => ?_) (a' _ (.head _)) (a' _ (.tail _ (.head _))) (a' _ (.tail _ (.tail _ (.head _)))) (a' _ (.tail _ (.tail _ (.tail _ (.head _))))) r
    simp only [List.mem_cons, List.mem_append, List.not_mem_nil, or_false] at hp ⊢
    rcases hp with h | h | h | h | h <;> simp [h]
local macro_rules | `(tactic| walk_at "call ref") => `(tactic| (k_here; (with_reducible show wpAny _ _ (call (Value.ref 172) _) _ _ _); refine stop ?_))
noncomputable abbrev RWay (bag l : Addr) (vs : List Value) (n2 : Nat) (sp : Int) (v : Value) (led' : Led) : Prop := ∃ ws t sp' t2 n', v = .str (txt ws) t ∧ (3 ≤ ws.length ∧ ws.length ≤ 6) ∧ (sp ≤ sp' ∧ sp' ≤ sp + 7) ∧ led' = [(bag, listOf #[.ref l, .int sp' t2] n'), (l, listOf vs.toArray n2)]
section
variable {prog : Program} {A₁ : Around} {E : Value → Shared → Prop} {s₁ : Shared} {h₀ : Heap} {L : Addr} {m : Str → Option Value} {env : Env}
theorem small3 {k : Nat} (h : k ≤ 3) : Builtin.Range.small 0 (3 + (k : Int)) 1 = true ∧ Builtin.Range.rangeSize 0 (3 + (k : Int)) 1 = ((3 + k : Nat) : Int) := by
  match k, h with
  | 0, _ => exact ⟨by decide, by rfl⟩
  | 1, _ => exact ⟨by decide, by rfl⟩
  | 2, _ => exact ⟨by decide, by rfl⟩
  | 3, _ => exact ⟨by decide, by rfl⟩
theorem strs_snoc {y : Str} {t : Tok} : ∀ {vs : List Value} {ys : List Str}, StrsAre vs ys → StrsAre (vs ++ [.str y t]) (ys ++ [y])
  | _, _, .nil => .cons y t .nil
  | _, _, .cons z u r => .cons z u (strs_snoc r)
theorem way_src {w : World} {elt : Expr} {x : Str} {scope : Scope} {cl : List (Str × Addr)} {Q : Value → Shared → Prop} {r K bag l : Addr} {oK : Obj} {vs : List Value} {sp0 : Int} {k n n2 : Nat} {t u v t1 : Tok} (hh : A₁.handled = none) (F : Fr h₀ L s₁.heap m)
    (N : News h₀ L s₁.heap [(K, oK), (bag, listOf #[.ref l, .int sp0 t1] n), (l, listOf vs.toArray n2)]) (hr : IsRange s₁.heap r 0 (3 + (k : Int)) 1 t u v) (hk : k ≤ 3)
    (turn : ∀ sp' t2 n' I oI C oC D ys m₂ h tk (E' : Value → Shared → Prop), sp0 ≤ sp' → sp' ≤ sp0 + 6 → LCg.NsObj oC m₂ → Fr h₀ L h m → News h₀ L h [(I, oI), (C, oC), (D, LCg.lst ys), (K, oK), (bag, listOf #[.ref l, .int sp' t2] n'), (l, listOf vs.toArray n2)] →
      LCg.Off1 I [(K, oK), (bag, listOf #[.ref l, .int sp' t2] n'), (l, listOf vs.toArray n2)] → LCg.Off1 C [(K, oK), (bag, listOf #[.ref l, .int sp' t2] n'), (l, listOf vs.toArray n2)] → LCg.Off1 D [(K, oK), (bag, listOf #[.ref l, .int sp' t2] n'), (l, listOf vs.toArray n2)] →
      LCg.Off3 I C D [(K, oK), (bag, listOf #[.ref l, .int sp' t2] n'), (l, listOf vs.toArray n2)] →
      wpAny (model prog w) A₁ (eval elt (compEnvC scope cl C env)) (LCg.CompEnd h₀ L m { s₁ with heap := h, toks := tk } I oI C oC D (LCg.lst ys) (fun _ => True) (fun y nw => ∃ b t t3 n3, y = .str ⟨#[sgn b]⟩ t ∧ nw = [(K, oK), (bag, listOf #[.ref l, .int (sp' + 1) t3] n3), (l, listOf vs.toArray n2)])) E' { s₁ with heap := h, toks := tk })
    (fin : ∀ ws sp' t2 n' ys D h tk, ws.length = 3 + k → StrsAre ys (steps ws) → sp0 ≤ sp' → sp' ≤ sp0 + 6 → Fr h₀ L h m → News h₀ L h [(D, LCg.lst ys), (K, oK), (bag, listOf #[.ref l, .int sp' t2] n'), (l, listOf vs.toArray n2)] → Q (.ref D) { s₁ with heap := h, toks := tk }) :
    LCg.CompSrc prog w A₁ h₀ L m env elt x scope cl (fun s₂ => LCg.FinE h₀ L m s₂ Q) (.ref r) s₁ := by
  obtain ⟨hsm, hrs⟩ := small3 hk
  refine LCg.CompSrc.range (n := 3 + k) hh F N hr hsm hrs (by rw [PySem.sizeLine_eq]; omega) fun g => ?_
  refine comp_ind (fun i ys nw => ∃ ws sp' t2 n', ws.length = i ∧ StrsAre ys (steps ws) ∧ sp0 ≤ sp' ∧ sp' ≤ sp0 + i ∧ nw = [(K, oK), (bag, listOf #[.ref l, .int sp' t2] n'), (l, listOf vs.toArray n2)]) ⟨[], sp0, t1, n, rfl, .nil, Int.le_refl _, by omega, rfl⟩ ?_ ?_
  · rintro i ys nw v I oI C oC D m₂ h tk E' hi ⟨ws, sp', t2, n', hw, hy, hs, hs', rfl⟩ hv hC hx F N off ne
    have o := off.mem
    refine wpAny_mono (turn sp' t2 n' I oI C oC D ys m₂ h tk E' hs (by omega) hC F N (off1_all fun p hp => (o p hp).1) (off1_all fun p hp => (o p hp).2.1) (off1_all fun p hp => (o p hp).2.2) off) (fun y s₂ hq => ?_) fun _ _ e => e
    obtain ⟨h', tk', nw', e, F', N', off', hS, b, t, t3, n3, rfl, rfl⟩ := hq
    refine ⟨h', tk', _, e, F', N', off', hS, ws ++ [b], sp' + 1, t3, n3, by simp [hw], ?_, by omega, by push_cast; omega, rfl⟩
    rw [show steps (ws ++ [b]) = steps ws ++ [⟨#[sgn b]⟩] by simp [steps]]
    exact strs_snoc hy
  · rintro ys nw ⟨ws, sp', t2, n', hw, hy, hs, hs', rfl⟩ D h tk F N _
    exact fin ws sp' t2 n' ys D h tk hw hy hs (by push_cast at hs'; omega) F N
end
section
variable {s₁ : Shared} {h₀ : Heap} {L : Addr} {m : Str → Option Value}
theorem way_elt {I C D K bag l : Addr} {oI oC oK o1 : Obj} {ys : List Value} {vs : List Value} {n2 n3 tk : Nat} {sp' : Int} {t3 t : Tok} {h' : Heap} {b : Bool} {y : Str} (F : Fr h₀ L h' m) (N : News h₀ L h' [(I, oI), (C, oC), (D, LCg.lst ys), (K, oK), (bag, listOf #[.ref l, .int (sp' + 1) t3] n3), (l, listOf vs.toArray n2)])
    (off : LCg.Off3 I C D [(K, oK), (bag, o1), (l, listOf vs.toArray n2)]) (e : y = ⟨#[sgn b]⟩) :
    LCg.CompEnd h₀ L m s₁ I oI C oC D (LCg.lst ys) (fun _ => True) (fun y nw => ∃ b t t3 n3, y = .str ⟨#[sgn b]⟩ t ∧ nw = [(K, oK), (bag, listOf #[.ref l, .int (sp' + 1) t3] n3), (l, listOf vs.toArray n2)]) (.str y t) { s₁ with heap := h', toks := tk } := by
  subst e
  exact LCg.CompEnd.intro F N [(K, oK), (bag, listOf #[.ref l, .int (sp' + 1) t3] n3), (l, listOf vs.toArray n2)] (fun p hp => hp) off trivial ⟨b, t, t3, n3, rfl, rfl⟩
end
theorem item_L : Txt.item (Str.ofString "LR") 0 = ⟨#[sgn true]⟩ := by decide +kernel
theorem item_R : Txt.item (Str.ofString "LR") 1 = ⟨#[sgn false]⟩ := by decide +kernel
local macro_rules | `(tactic| walk_at "CompEnd") => `(tactic| (k_here; refine stop ?_))
theorem steps_sum (ws : List Bool) : ((steps ws).map (·.length)).sum = ws.length := by
  induction ws with
  | nil => rfl
  | cons b ws ih =>
    simp only [steps, List.map_cons, List.sum_cons, List.length_cons] at ih ⊢
    rw [ih]
    show 1 + _ = _
    omega
theorem steps_len (ws : List Bool) : (steps ws).length = ws.length := by simp [steps]
theorem join_ok {ws : List Bool} (h : ws.length ≤ 6) : ((steps ws).map (·.length)).sum + (steps ws).length * (Str.ofString "").length ≤ 16777216 := by
  rw [steps_sum, steps_len, show (Str.ofString "").length = 0 by decide]
  omega
theorem nat_of {r : Int} (h0 : 0 ≤ r) (h1 : r < 4) : ∃ k : Nat, k ≤ 3 ∧ r = (k : Int) := ⟨r.toNat, by omega, by omega⟩
theorem bit_of {r : Int} (h0 : 0 ≤ r) (h1 : r < 2) : r = 0 ∨ r = 1 := by omega
theorem ctr_law_way (w : World) (bag l : Addr) (vs : List Value) (ns : List Int) (sp : Int) (t1 : Tok) (n n2 : Nat) (hI : IntsAre vs ns) (h0 : 0 ≤ sp) (h1 : sp ≤ 20) (hl : vs.length ≤ 100) (hne : @Ne Nat bag l) :
    Ctr w 10 177 [.ref bag] [(bag, listOf #[.ref l, .int sp t1] n), (l, listOf vs.toArray n2)] (RWay bag l vs n2 sp) := by
  unfold Ctr; k_fill
  intro p loose mean mg mb dp un gd cn nms9 ig9 ic9 mo9 a9 ccd cl outer A₀ base h₀ L m s Q E B F X N T hdp hun hC hret
  refine wpAny_call ?_
  (k_dflt (first | (refine' def_in ?k1 ?k2 ?k3 ?k4 ?k5 ?kA ?kF ?kK ?k6 ?k7 ?k8 ?k9 ?kB ?_ ?c2 ?c3 ?c4 ?c5; (case kA => exact rfl); (case kF => exact rfl); (case kK => exact rfl); (case k1 => k_asm); (case k2 => k_asm); (case k3 => k_asm); (case k4 => k_asm); (case k5 => k_asm); (case k6 => k_is); (case k7 => k_is); (case k8 => k_room); (case k9 => exact BindsTo.of_eq rfl); (case c5 => decide); (case kB => exact locs rfl); (case c2 => exact rfl); (case c3 => exact rfl); (case c4 => exact rfl); k_whole; intro g' L' h' H' FG' F' N' B' X' T'; (try dsimp only); (try k_lift B'); (try k_fold)) | (refine' def_inC ?k1 ?k2 ?k3 ?k4 ?k5 ?kA ?kF ?kK ?k6 ?k7 ?k8 ?k9 ?kB ?kD ?_ ?c2 ?c3 ?c4; (case kA => exact rfl); (case kF => exact rfl); (case kK => exact rfl); (case k1 => k_asm); (case k2 => k_asm); (case k3 => k_asm); (case k4 => k_asm); (case k5 => k_asm); (case k6 => k_is); (case k7 => k_is); (case k8 => k_room); (case k9 => exact BindsTo.of_eq rfl); (case kB => exact rfl); (case kD => decide +kernel); (case c2 => exact rfl); (case c3 => exact rfl); (case c4 => exact rfl); k_whole; intro g' L' h' tk' cells' H' FG' F' N' Y' B' X' T' l1; (try (replace l1 := allLt_of l1)); k_cells Y'; (try simp only [List.cons_append, List.nil_append] at N'); (try dsimp only); (try k_lift B'); (try k_fold))))
  k_steps
  refine unstop ?_
  refine' Ctr.useG1 (ctr_turn_told _ bag l vs ns sp 4 _ _ _ _ hI h0 (by omega) (by decide) (by decide) hl hne) ?k1 ?k2 ?k3 ?k4 ?o1 ?k5 ?kd ?ku ?kC ?_
  (((case k1 => k_asm); (case k2 => k_asm); (case k3 => k_asm); (case k4 => k_asm); (case k5 => k_asm); (case kd => ktr_room); (case ku => ktr_units); (case kC => assumption)))
  case o1 => walk_at "ctr off"
  intro v9 h9 tk9 led9 F9 N9 o9 R9
  obtain ⟨r9, t9, u9, n9, rfl, ⟨a9, b9⟩, rfl⟩ := R9
  obtain ⟨k9, hk9, rfl⟩ := nat_of a9 b9
  (try dsimp only)
  k_steps
  refine unstop ?_
  refine way_src rfl (by k_asm) (by k_asm) (by assumption) hk9 ?_ ?_
  · intro sp' t2 n' I oI C oC D ys m₂ hp tk E' hs1 hs2 hC9 F N oI9 oC9 oD9 off
    k_steps
    refine unstop ?_
    refine' Ctr.useG4 (ctr_turn_told _ bag l vs ns sp' 2 _ _ _ _ hI (by omega) (by omega) (by decide) (by decide) hl hne) ?k1 ?k2 ?k3 ?k4 ?o1 ?o2 ?o3 ?o4 ?k5 ?kd ?ku ?kC ?_
    (((case k1 => k_asm); (case k2 => k_asm); (case k3 => k_asm); (case k4 => k_asm); (case k5 => k_asm); (case kd => ktr_room); (case ku => ktr_units); (case kC => assumption)))
    case o1 => exact oI9.2
    case o2 => exact oC9.2
    case o3 => exact oD9.2
    case o4 => walk_at "ctr off"
    intro v9 h9 tk9 led9 F9 N9 o91 o92 o93 o94 R9
    obtain ⟨r9, t9, u9, n9, rfl, ⟨a9, b9⟩, rfl⟩ := R9
    (try dsimp only)
    rcases bit_of a9 b9 with rfl | rfl
    · k_steps
      exact unstop (way_elt (by k_asm) (by k_asm) off item_L)
    · k_steps
      exact unstop (way_elt (by k_asm) (by k_asm) off item_R)
  · intro ws sp' t2 n' ys D hp tk hw hy hs1 hs2 F N
    k_steps
    refine join_list (News.isList (by k_asm) (by k_mem)) hy (join_ok (by omega)) ?_
    rw [join_steps]
    intro t' k'
    k_steps
    exact hret _ _ _ [(bag, listOf #[.ref l, .int sp' t2] n'), (l, listOf vs.toArray n2)] (by k_asm) (news_sub (by k_asm) (by lcg_sub)) (kept_sub (by (exact kept_of (by assumption) (by assumption) (by assumption))) (by lcg_sub)) ⟨ws, _, sp', t2, n', rfl, ⟨by omega, by omega⟩, ⟨by omega, by omega⟩, rfl⟩
end
-- P2
section
open PySem PySem.W PyProof.Rows
set_option linter.unusedVariables false
/-- a way's fraction -/
noncomputable abbrev FA (ws : List Bool) : Int := (gridOf ws).2.2.1 + (gridOf ws).2.2.2
noncomputable abbrev FB (ws : List Bool) : Int := (gridOf ws).1 + (gridOf ws).2.1
noncomputable def okRec (ws : List Bool) : Bool := decide (FA (true :: ws) = FA ws ∧ FB (true :: ws) = FA ws + FB ws ∧ FA (false :: ws) = FA ws + FB ws ∧ FB (false :: ws) = FB ws ∧ 0 < FA ws ∧ 0 < FB ws)
theorem okRecs : (allWays 6).all okRec = true := by decide +kernel
theorem rec_of {ws : List Bool} (h : ws.length ≤ 6) : FA (true :: ws) = FA ws ∧ FB (true :: ws) = FA ws + FB ws ∧ FA (false :: ws) = FA ws + FB ws ∧ FB (false :: ws) = FB ws ∧ 0 < FA ws ∧ 0 < FB ws := by
  have := List.all_eq_true.mp okRecs ws (mem_allWays 6 ws h)
  simpa only [okRec, decide_eq_true_eq] using this
noncomputable def cross (u v : List Bool) : Int := FA u * FB v - FA v * FB u
noncomputable def cd (ws : List Bool) : List Nat := ws.map sgn ++ [77]
theorem cross_nil (v : List Bool) : cross [] v = FB v - FA v := by
  have e1 : FA [] = 1 := by decide
  have e2 : FB [] = 1 := by decide
  simp only [cross, e1, e2, Int.one_mul, Int.mul_one]
theorem cross_swap (u v : List Bool) : cross v u = - cross u v := by
  simp only [cross]; omega
theorem alg_LL (a b c d : Int) : a * (c + d) - c * (a + b) = a * d - c * b := by
  rw [Int.mul_add, Int.mul_add, Int.mul_comm c a]; omega
theorem alg_RR (a b c d : Int) : (a + b) * d - (c + d) * b = a * d - c * b := by
  rw [Int.add_mul, Int.add_mul, Int.mul_comm d b]; omega
theorem alg_LR {a b c d : Int} (p1 : 0 < a) (p2 : 0 < b) (p3 : 0 < c) (p4 : 0 < d) : a * d - (c + d) * (a + b) < 0 := by
  rw [Int.add_mul, Int.mul_add, Int.mul_add, Int.mul_comm d a]
  have q1 := Int.mul_pos p3 p1
  have q2 := Int.mul_pos p3 p2
  have q3 := Int.mul_pos p4 p2
  omega
theorem cross_LL {u v : List Bool} (hu : u.length ≤ 6) (hv : v.length ≤ 6) : cross (true :: u) (true :: v) = cross u v := by
  obtain ⟨a1, a2, -⟩ := rec_of hu
  obtain ⟨b1, b2, -⟩ := rec_of hv
  show FA _ * FB _ - FA _ * FB _ = FA _ * FB _ - FA _ * FB _
  rw [a1, a2, b1, b2]
  exact alg_LL _ _ _ _
theorem cross_RR {u v : List Bool} (hu : u.length ≤ 6) (hv : v.length ≤ 6) : cross (false :: u) (false :: v) = cross u v := by
  obtain ⟨-, -, a1, a2, -⟩ := rec_of hu
  obtain ⟨-, -, b1, b2, -⟩ := rec_of hv
  show FA _ * FB _ - FA _ * FB _ = FA _ * FB _ - FA _ * FB _
  rw [a1, a2, b1, b2]
  exact alg_RR _ _ _ _
theorem cross_LR {u v : List Bool} (hu : u.length ≤ 6) (hv : v.length ≤ 6) : cross (true :: u) (false :: v) < 0 := by
  obtain ⟨a1, a2, -, -, p1, p2⟩ := rec_of hu
  obtain ⟨-, -, b1, b2, p3, p4⟩ := rec_of hv
  show FA _ * FB _ - FA _ * FB _ < 0
  rw [a1, a2, b1, b2]
  exact alg_LR p1 p2 p3 p4
theorem cmp_ways : ∀ (u v : List Bool), u.length ≤ 6 → v.length ≤ 6 → (cross u v < 0 ↔ cd u < cd v) ∧ (cross u v = 0 ↔ u = v)
  | [], [], _, _ => by
    have : cross [] [] = 0 := by decide
    rw [this]
    exact ⟨⟨fun h => absurd h (by decide), fun h => absurd h (by decide)⟩, by simp⟩
  | [], true :: v, _, hv => by
    obtain ⟨b1, b2, -, -, p3, p4⟩ := rec_of (ws := v) (by simp at hv; omega)
    rw [cross_nil, b1, b2]
    refine ⟨⟨fun h => by omega, fun h => ?_⟩, ⟨fun h => by omega, fun h => by cases h⟩⟩
    simp [cd, sgn, List.cons_lt_cons_iff] at h
  | [], false :: v, _, hv => by
    obtain ⟨-, -, b1, b2, p3, p4⟩ := rec_of (ws := v) (by simp at hv; omega)
    rw [cross_nil, b1, b2]
    refine ⟨⟨fun h => ?_, fun h => by omega⟩, ⟨fun h => by omega, fun h => by cases h⟩⟩
    simp [cd, sgn, List.cons_lt_cons_iff]
  | true :: u, [], hu, _ => by
    obtain ⟨b1, b2, -, -, p3, p4⟩ := rec_of (ws := u) (by simp at hu; omega)
    rw [cross_swap, cross_nil, b1, b2]
    refine ⟨⟨fun h => ?_, fun h => by omega⟩, ⟨fun h => by omega, fun h => by cases h⟩⟩
    simp [cd, sgn, List.cons_lt_cons_iff]
  | false :: u, [], hu, _ => by
    obtain ⟨-, -, b1, b2, p3, p4⟩ := rec_of (ws := u) (by simp at hu; omega)
    rw [cross_swap, cross_nil, b1, b2]
    refine ⟨⟨fun h => by omega, fun h => ?_⟩, ⟨fun h => by omega, fun h => by cases h⟩⟩
    simp [cd, sgn, List.cons_lt_cons_iff] at h
  | true :: u, true :: v, hu, hv => by
    have hu' : u.length ≤ 6 := by simp at hu; omega
    have hv' : v.length ≤ 6 := by simp at hv; omega
    rw [cross_LL hu' hv']
    have ih := cmp_ways u v hu' hv'
    refine ⟨ih.1.trans ?_, ih.2.trans (by simp)⟩
    simp [cd, List.cons_lt_cons_iff]
  | false :: u, false :: v, hu, hv => by
    have hu' : u.length ≤ 6 := by simp at hu; omega
    have hv' : v.length ≤ 6 := by simp at hv; omega
    rw [cross_RR hu' hv']
    have ih := cmp_ways u v hu' hv'
    refine ⟨ih.1.trans ?_, ih.2.trans (by simp)⟩
    simp [cd, List.cons_lt_cons_iff]
  | true :: u, false :: v, hu, hv => by
    have h := cross_LR (u := u) (v := v) (by simp at hu; omega) (by simp at hv; omega)
    refine ⟨⟨fun _ => ?_, fun _ => h⟩, ⟨fun h' => by omega, fun h' => by cases h'⟩⟩
    simp [cd, sgn, List.cons_lt_cons_iff]
  | false :: u, true :: v, hu, hv => by
    have h := cross_LR (u := v) (v := u) (by simp at hv; omega) (by simp at hu; omega)
    rw [cross_swap] at h
    refine ⟨⟨fun h' => by omega, fun h' => ?_⟩, ⟨fun h' => by omega, fun h' => by cases h'⟩⟩
    simp [cd, sgn, List.cons_lt_cons_iff] at h'
theorem frA_sign {x y : Int} (hy : 0 < y) : (frA x y < 0 ↔ x < 0) ∧ (frA x y = 0 ↔ x = 0) := by
  have hg := gcd_pos_int (x := x) hy
  obtain ⟨k, hk⟩ := Int.gcd_dvd_left (a := x) (b := y)
  have e : frA x y = k := by
    unfold frA
    generalize (Int.gcd x y : Int) = g at *
    rw [hk, Int.fdiv_eq_ediv_of_nonneg _ (by omega)]
    exact Int.mul_ediv_cancel_left _ (by omega)
  rw [e]
  generalize (Int.gcd x y : Int) = g at *
  constructor
  · constructor
    · intro h; rw [hk]; exact Int.mul_neg_of_pos_of_neg hg h
    · intro h
      rcases (by omega : k < 0 ∨ 0 ≤ k) with h' | h'
      · exact h'
      · have := Int.mul_nonneg (Int.le_of_lt hg) h'
        omega
  · constructor
    · intro h; rw [hk, h]; simp
    · intro h
      rw [hk] at h
      rcases Int.mul_eq_zero.mp h with h' | h'
      · omega
      · exact h'
theorem txt_M (ws : List Bool) : (txt ws ++ Str.ofString "M").cps.toList = cd ws := by
  show ((txt ws).cps ++ (Str.ofString "M").cps).toList = _
  rw [show (Str.ofString "M").cps = #[77] by decide]
  simp [txt, cd]
theorem txt_inj {u v : List Bool} (h : txt u = txt v) : u = v := by
  have h : (u.map sgn) = (v.map sgn) := by simpa [txt] using h
  have inj : ∀ a b, sgn a = sgn b → a = b := by decide
  exact List.map_inj_right (fun a b => inj a b) |>.mp h
theorem order_lt {u v : List Bool} (hu : u.length ≤ 6) (hv : v.length ≤ 6) :
    (decide (frA (FA u * FB v - FA v * FB u) (FB u * FB v) < 0) != decide ((txt u ++ Str.ofString "M").cps.toList < (txt v ++ Str.ofString "M").cps.toList)) = false := by
  obtain ⟨-, -, -, -, -, p1⟩ := rec_of hu
  obtain ⟨-, -, -, -, -, p2⟩ := rec_of hv
  have h1 := (frA_sign (x := cross u v) (Int.mul_pos p1 p2)).1
  have h2 := (cmp_ways u v hu hv).1
  have h3 := h1.trans h2
  rw [txt_M, txt_M]
  rw [show (decide (frA (FA u * FB v - FA v * FB u) (FB u * FB v) < 0)) = decide (cd u < cd v) from decide_eq_decide.mpr h3]
  simp
theorem order_eq {u v : List Bool} (hu : u.length ≤ 6) (hv : v.length ≤ 6) :
    ((frA (FA u * FB v - FA v * FB u) (FB u * FB v) == 0) != (txt u == txt v)) = false := by
  obtain ⟨-, -, -, -, -, p1⟩ := rec_of hu
  obtain ⟨-, -, -, -, -, p2⟩ := rec_of hv
  have h1 := (frA_sign (x := cross u v) (Int.mul_pos p1 p2)).2
  have h2 := (cmp_ways u v hu hv).2
  have h3 : frA (FA u * FB v - FA v * FB u) (FB u * FB v) = 0 ↔ u = v := h1.trans h2
  by_cases e : u = v
  · have := h3.mpr e
    rw [this, e]
    simp
  · have n1 : ¬ frA (FA u * FB v - FA v * FB u) (FB u * FB v) = 0 := fun h => e (h3.mp h)
    have n2 : ¬ txt u = txt v := fun h => e (txt_inj h)
    rw [beq_false_of_ne n1, beq_false_of_ne n2]
    rfl
/-- left and right exchanged -/
noncomputable abbrev sw (ws : List Bool) : List Bool := ws.map not
noncomputable def okSwap (ws : List Bool) : Bool := decide ((gridOf (sw ws)).1 = (gridOf ws).2.2.2 ∧ (gridOf (sw ws)).2.1 = (gridOf ws).2.2.1 ∧ (gridOf (sw ws)).2.2.1 = (gridOf ws).2.1 ∧ (gridOf (sw ws)).2.2.2 = (gridOf ws).1 ∧
  (gridOf ws.reverse).1 = (gridOf (sw ws)).1 ∧ (gridOf ws.reverse).2.1 = (gridOf (sw ws)).2.2.1 ∧ (gridOf ws.reverse).2.2.1 = (gridOf (sw ws)).2.1 ∧ (gridOf ws.reverse).2.2.2 = (gridOf (sw ws)).2.2.2)
theorem okSwaps : (allWays 6).all okSwap = true := by decide +kernel
theorem swap_of {ws : List Bool} (h : ws.length ≤ 6) : okSwap ws = true := List.all_eq_true.mp okSwaps ws (mem_allWays 6 ws h)
end
local macro_rules | `(tactic| walk_at "ctr subs") => `(tactic| ((repeat (refine sub_cons ?_ ?_; k_mem)); exact sub_nil))
local macro_rules | `(tactic| walk_at "subscriptTail Call Name cons nil UnaryOp ref int") => `(tactic| (k_here; k_dflt (refine kba_turn (value' := PySem.Expr.Name (PySem.Str.ofString "_") ⟨0, 0, 0, 0⟩) (fun _ => rfl) ?_)))
theorem walk_off_R1 : True := by
  w_top off
  trivial
-- R1
section
open PySem PySem.W PyProof.Rows
set_option linter.unusedVariables false
set_option maxRecDepth 100000
set_option maxHeartbeats 8000000
noncomputable def okBack (ws : List Bool) : Bool := decide ((backS 9 (Str.ofString "", (gridOf ws).2.2.1 + (gridOf ws).2.2.2, (gridOf ws).1 + (gridOf ws).2.1)).1 = txt ws)
theorem okBacks : (allWays 6).all okBack = true := by decide +kernel
theorem back_way {ws : List Bool} (h : ws.length ≤ 6) : (backS 9 (Str.ofString "", (gridOf ws).2.2.1 + (gridOf ws).2.2.2, (gridOf ws).1 + (gridOf ws).2.1)).1 = txt ws := by
  have := List.all_eq_true.mp okBacks ws (mem_allWays 6 ws h)
  simpa [okBack] using this
theorem news_more {h₀ h : Heap} {L : Addr} {a b c x y p1 p2 p3 : Addr × Obj} {gr : Led} (N : News h₀ L h (x :: y :: p1 :: p2 :: p3 :: gr)) (ha : a ∈ gr) (hb : b ∈ gr) (hc : c ∈ gr) : News h₀ L h (a :: b :: c :: x :: y :: p1 :: p2 :: p3 :: gr) := fun p hp => by
  simp only [List.mem_cons] at hp
  rcases hp with rfl | rfl | rfl | hp
  · exact N _ (.tail _ (.tail _ (.tail _ (.tail _ (.tail _ ha)))))
  · exact N _ (.tail _ (.tail _ (.tail _ (.tail _ (.tail _ hb)))))
  · exact N _ (.tail _ (.tail _ (.tail _ (.tail _ (.tail _ hc)))))
  · exact N p (by simpa only [List.mem_cons] using hp)
noncomputable abbrev RRight (v : Value) (led' : Led) : Prop := v = .bool true ∧ ∃ ca cb oca ocb va vb ta tb, led' = [(193, tabFull ca cb), (ca, oca), (cb, ocb)] ∧ oca.data = .fields va ∧ ocb.data = .fields vb ∧ va[1]? = some (.str lamQ ta) ∧ vb[1]? = some (.str lamQ tb)
local macro_rules | `(tactic| walk_at "exec For Tuple Call cons nil") => `(tactic| (k_here; k_dflt (refine for_enum [Str.ofString "above", Str.ofString "below"] (F₀ := by k_asm) (by rfl) (by rfl) (by rfl) (by rfl) ?_)))
local macro_rules | `(tactic| walk_at "call type:enumerate") => `(tactic| (k_here; refine stop ?_))
theorem ite_bne {x : Str} {P Q : Prop} (q : Q) : if (x != x) = true then P else Q := by rw [if_neg (by simp)]; exact q
theorem grids_last {h₀ h : Heap} {L : Addr} {ws : List Bool} {v : Value} {add all : Led} (R : RGrids ws v add) (N : News h₀ L h (add ++ all)) :
    ∃ G ini n g r0 r1 n0 n1 n2 t0 t1 t2 t3, v = .ref G ∧ News h₀ L h ((G, listOf (ini ++ [Value.ref g]).toArray n) :: (g, listOf #[.ref r0, .ref r1] n0) :: (r0, listOf #[.int (gridOf ws).1 t0, .int (gridOf ws).2.1 t1] n1) :: (r1, listOf #[.int (gridOf ws).2.2.1 t2, .int (gridOf ws).2.2.2 t3] n2) :: all) := by
  obtain ⟨G, vs, n, rfl, hG, hsz, hit⟩ := R
  obtain ⟨gv, hgv, g, r0, r1, n0, n1, n2, t0, t1, t2, t3, rfl, m0, m1, m2⟩ := hit ws.length (Nat.le_refl _)
  rw [List.take_length] at m1 m2
  have e : vs = (vs.toList.take ws.length ++ [Value.ref g]).toArray := by
    apply Array.ext'
    rw [List.toList_toArray]
    have h1 : vs.toList[ws.length]? = some (Value.ref g) := by simpa using hgv
    have h2 : vs.toList.take (ws.length + 1) = vs.toList := List.take_of_length_le (by simp [hsz])
    have h3 : vs.toList.take (ws.length + 1) = vs.toList.take ws.length ++ [Value.ref g] := by rw [List.take_add_one, h1]; rfl
    exact h2.symm.trans h3
  refine ⟨G, vs.toList.take ws.length, n, g, r0, r1, n0, n1, n2, t0, t1, t2, t3, rfl, fun p hp => ?_⟩
  rw [← e] at hp
  simp only [List.mem_cons] at hp
  rcases hp with rfl | rfl | rfl | rfl | hp
  · exact N _ (List.mem_append.mpr (.inl hG))
  · exact N _ (List.mem_append.mpr (.inl m0))
  · exact N _ (List.mem_append.mpr (.inl m1))
  · exact N _ (List.mem_append.mpr (.inl m2))
  · exact N _ (List.mem_append.mpr (.inr hp))
theorem Ctr.use0 {w : World} {D : Nat} {f : Addr} {vs : List Value} {led : Led} {R : Value → Led → Prop} (C : Ctr w D f vs led R)
    {p : Program} {loose : List Str} {mean : ExcName → Option Value} {mg mb : Str → Option Value} {dp un : Nat} {gd : Option (List Code)} {cn : Str} {nms : List (Str × NameKind)} {ig ic : Bool} {mo : List (Str × Const)} {a : Addr} {ccd : Value} {cl : List (Str × Addr)} {outer : List Env} {A₀ : Around} {base h₀ : Heap} {L : Addr} {m : Str → Option Value} {s : Shared} {Q E : Value → Shared → Prop}
    (B : Below A₀ base outer h₀) (F : Fr h₀ L s.heap m) (X : (hd.heap_1 w.params).In h₀) (N : News h₀ L s.heap led) (T : Top p loose mean mg mb h₀) (hd : dp + D < recursionLimit) (hu : un + 8 * D < cLine) (hC : CodeHd base 197 193)
    (ret : ∀ v h' tk' led', Fr h₀ L h' m → News h₀ L h' led' → Kept s.heap led h' led' → R v led' → Q v { s with heap := h', toks := tk' }) :
    wpAny (model PySem.Challenge.rw_xm0031_01.row.prog w) (ktrTop dp un gd cn { kind := .function, names := nms, isGenerator := ig, isCoroutine := ic, more := mo } L a ccd cl outer) (call (.ref f) vs) Q E s :=
  C _ _ _ _ _ _ _ _ _ _ _ _ _ _ _ _ _ _ _ _ _ _ _ _ _ B F X N T hd hu hC ret
theorem ctr_fraction1 (w : World) (x y : Int) (ta tb : Tok) (hg : Int.gcd x y = 1) (hy : 0 < y) (hz : y ≤ 1000000) : CtrR w 6 101 [.int x ta, .int y tb] [] (RTup x y) := by
  have h := ctr_fraction w x y ta tb hy hz
  have e1 : frA x y = x := by unfold frA; rw [hg]; simp
  have e2 : frB x y = y := by unfold frB; rw [hg]; simp
  rw [e1, e2] at h
  exact h
section
variable {prog : Program} {w : World} {A : Around} {E : Value → Shared → Prop} {s : Shared} {value slice : Expr} {x y : Str} {t : Tok} {h₀ : Heap} {L : Addr} {m : Str → Option Value} {news : Led} {Q : Value → Shared → Prop}
theorem slice_way {j : Int} {uj : Tok} (hF : Fr h₀ L s.heap m) (hN : News h₀ L s.heap news) (hx : Txt.slice x none (some j) = y) (hsz : x.length ≤ sizeLine) (h : ∀ h' t' k, Fr h₀ L h' m → News h₀ L h' news → Q (.str y t') { s with heap := h', toks := k })
    (hs : subscripted slice false (.str x t) (.ref s.heap.objs.size) = operate [.ref s.heap.objs.size, .str x t] (getItem (.str x t) (.ref s.heap.objs.size)) := by with_unfolding_all rfl)
    (ht : ∀ r, letTemporaryGo value (.str x t) r = pure () := by intro _; with_unfolding_all rfl) :
    wpAny (model prog w) A (subscriptTail value slice (.str x t) (.ref s.heap.objs.size)) Q E { s with heap := s.heap.push { cls := .type "slice", data := .fields #[.none, .int j uj, .none] } } := by
  subst hx
  exact slice_strN_ns (hsz := hsz) hF hN h hs ht
end
theorem slice_take {ws : List Bool} {i : Nat} (h : i ≤ ws.length) : Txt.slice (txt ws) none (some (i : Int)) = txt (ws.take i) := by
  show StrLaws.sliceText _ _ _ = _
  rw [StrLaws.sliceText_to ⟨by omega, by simp [txt]; omega⟩]
  simp [txt, List.map_take]
theorem txt_len (ws : List Bool) : (txt ws).length = ws.length := txt_size ws
theorem txt_small {ws : List Bool} (h : ws.length ≤ 6) : (txt ws).length ≤ sizeLine := by rw [txt_len, PySem.sizeLine_eq]; omega
theorem ctr_law_back1 (w : World) (A B : Int) (ta tb : Tok) {r : Str} (h : (backS 9 (Str.ofString "", A, B)).1 = r) : CtrR w 4 191 [.int A ta, .int B tb] [] (RStr r) := h ▸ ctr_law_back w A B ta tb
local macro_rules | `(tactic| walk_at "subscriptTail Name Slice str ref") => `(tactic| (k_here; (refine slice_way (s := ⟨_, _, _, _, _⟩) (by k_asm) (by k_asm) (by with_reducible assumption) (by with_reducible assumption) ?_); intro h' t' k' F' N'))
local macro_rules | `(tactic| walk_at "ite") => `(tactic| (k_here; with_reducible refine ite_bne ?_))
theorem ctr_law_right (w : World) (ws : List Bool) (t : Tok) (led0 : Led) (hw : ws.length ≤ 6) (CG : Ctr w 20 198 [.str (txt ws) t] led0 (RNew ws)) : Ctr w 40 205 [.str (txt ws) t] led0 RRight := by
  unfold Ctr; k_fill
  intro p loose mean mg mb dp un gd cn nms9 ig9 ic9 mo9 a9 ccd cl outer A₀ base h₀ L m s Q E B F X N T hdp hun hC hret
  refine wpAny_call ?_
  (k_dflt (first | (refine' def_in ?k1 ?k2 ?k3 ?k4 ?k5 ?kA ?kF ?kK ?k6 ?k7 ?k8 ?k9 ?kB ?_ ?c2 ?c3 ?c4 ?c5; (case kA => exact rfl); (case kF => exact rfl); (case kK => exact rfl); (case k1 => k_asm); (case k2 => k_asm); (case k3 => k_asm); (case k4 => k_asm); (case k5 => k_asm); (case k6 => k_is); (case k7 => k_is); (case k8 => k_room); (case k9 => exact BindsTo.of_eq rfl); (case c5 => decide); (case kB => exact locs rfl); (case c2 => exact rfl); (case c3 => exact rfl); (case c4 => exact rfl); k_whole; intro g' L' h' H' FG' F' N' B' X' T'; (try dsimp only); (try k_lift B'); (try k_fold)) | (refine' def_inC ?k1 ?k2 ?k3 ?k4 ?k5 ?kA ?kF ?kK ?k6 ?k7 ?k8 ?k9 ?kB ?kD ?_ ?c2 ?c3 ?c4; (case kA => exact rfl); (case kF => exact rfl); (case kK => exact rfl); (case k1 => k_asm); (case k2 => k_asm); (case k3 => k_asm); (case k4 => k_asm); (case k5 => k_asm); (case k6 => k_is); (case k7 => k_is); (case k8 => k_room); (case k9 => exact BindsTo.of_eq rfl); (case kB => exact rfl); (case kD => decide +kernel); (case c2 => exact rfl); (case c3 => exact rfl); (case c4 => exact rfl); k_whole; intro g' L' h' tk' cells' H' FG' F' N' Y' B' X' T' l1; (try (replace l1 := allLt_of l1)); k_cells Y'; (try simp only [List.cons_append, List.nil_append] at N'); (try dsimp only); (try k_lift B'); (try k_fold))))
  (k_steps; (repeat' ((refine unstop ?_; (first | ((with_reducible show wpAny _ _ (call (Value.ref 191) _) _ _ _); (refine' Ctr.useStr (ctr_law_back1 _ _ _ _ _ ?hr) ?k1 ?k2 ?k3 ?k4 ?kS ?k5 ?kd ?ku ?kC ?_; (case hr => with_reducible assumption); (( (case k1 => first | k_asm | fail "use: below"); (case k2 => first | k_asm | fail "use: the frame"); (case k3 => first | k_asm | fail "use: the part"); (case k4 => first | k_asm | fail "use: the ledger"); (case kS => first | (((repeat (refine sub_cons ?_ ?_; k_mem)); exact sub_nil)) | fail "use: what is handed in"); (case k5 => first | k_asm | fail "use: the top"); (case kd => first | k_room | fail "use: room"); (case ku => first | k_units | fail "use: units"); (case kC => first | assumption | fail "use: the table"))); ((intro t9 h9 tk9 F9 N9; (try dsimp only); (try k_fold))))) | ((with_reducible show wpAny _ _ (call (Value.ref 101) _) _ _ _); (refine' Ctr.useTup (ctr_fraction1 _ _ _ _ _ ?hg ?hy ?hz) ?k1 ?k2 ?k3 ?k4 ?kS ?k5 ?kd ?ku ?kC ?_; (( (case k1 => first | k_asm | fail "use: below"); (case k2 => first | k_asm | fail "use: the frame"); (case k3 => first | k_asm | fail "use: the part"); (case k4 => first | k_asm | fail "use: the ledger"); (case kS => first | (((repeat (refine sub_cons ?_ ?_; k_mem)); exact sub_nil)) | fail "use: what is handed in"); (case k5 => first | k_asm | fail "use: the top"); (case kd => first | k_room | fail "use: room"); (case ku => first | k_units | fail "use: units"); (case kC => first | assumption | fail "use: the table"))); (case hg => with_reducible assumption); (case hy => with_reducible assumption); (case hz => with_reducible assumption); ((intro D9 n9 t9 u9 h9 tk9 F9 N9 P9; (try dsimp only); (try k_fold))))) | ((with_reducible show wpAny _ _ (call (Value.ref 184) _) _ _ _); (refine' Ctr.useTup (ctr_law_fraction _ _ _ _ _ _ _ _ _ _ _ _ _ _ _) ?k1 ?k2 ?k3 ?k4 ?kS ?k5 ?kd ?ku ?kC ?_; (( (case k1 => first | k_asm | fail "use: below"); (case k2 => first | k_asm | fail "use: the frame"); (case k3 => first | k_asm | fail "use: the part"); (case k4 => first | k_asm | fail "use: the ledger"); (case kS => first | (((repeat (refine sub_cons ?_ ?_; k_mem)); exact sub_nil)) | fail "use: what is handed in"); (case k5 => first | k_asm | fail "use: the top"); (case kd => first | k_room | fail "use: room"); (case ku => first | k_units | fail "use: units"); (case kC => first | assumption | fail "use: the table"))); ((intro D9 n9 t9 u9 h9 tk9 F9 N9 P9; (try dsimp only); (try k_fold))))) | ((with_reducible show wpAny _ _ (call (Value.ref 165) _) _ _ _); (refine' Ctr.useTup (ctr_determinant _ _ _ _ _ _ _ _ _ _ _ _ _ _ _ _ ?h1 ?h2 ?h3 ?h4 ?h5 ?h6 ?h7 ?h8 ?h9 ?g1 ?g2 ?g3 ?g4 ?g5) ?k1 ?k2 ?k3 ?k4 ?kS ?k5 ?kd ?ku ?kC ?_; (( (case k1 => first | k_asm | fail "use: below"); (case k2 => first | k_asm | fail "use: the frame"); (case k3 => first | k_asm | fail "use: the part"); (case k4 => first | k_asm | fail "use: the ledger"); (case kS => first | (((repeat (refine sub_cons ?_ ?_; k_mem)); exact sub_nil)) | fail "use: what is handed in"); (case k5 => first | k_asm | fail "use: the top"); (case kd => first | k_room | fail "use: room"); (case ku => first | k_units | fail "use: units"); (case kC => first | assumption | fail "use: the table"))); (case h1 => with_reducible assumption); (case h2 => with_reducible assumption); (case h3 => with_reducible assumption); (case h4 => with_reducible assumption); (case h5 => with_reducible assumption); (case h6 => with_reducible assumption); (case h7 => with_reducible assumption); (case h8 => with_reducible assumption); (case h9 => with_reducible assumption); (case g1 => with_reducible assumption); (case g2 => with_reducible assumption); (case g3 => with_reducible assumption); (case g4 => with_reducible assumption); (case g5 => with_reducible assumption); ((intro D9 n9 t9 u9 h9 tk9 F9 N9 P9; (try dsimp only); (try k_fold))))))); k_steps)))
  refine unstop (Ctr.use0 CG (by k_asm) (by k_asm) (by k_asm) (by k_asm) (by k_asm) (by ktr_room) (by ktr_units) (by assumption) ?_)
  intro v9 h9 tk9 led9 F9 N9 K9 R9
  obtain ⟨ca, cb, oca, ocb, va, vb, ta, tb, gr, rfl, da, db, ea, eb, G, vs, n, rfl, hG, hsz, hit⟩ := R9
  (try dsimp only)
  (k_steps; (repeat' ((refine unstop ?_; (first | ((with_reducible show wpAny _ _ (call (Value.ref 191) _) _ _ _); (refine' Ctr.useStr (ctr_law_back1 _ _ _ _ _ ?hr) ?k1 ?k2 ?k3 ?k4 ?kS ?k5 ?kd ?ku ?kC ?_; (case hr => with_reducible assumption); (( (case k1 => first | k_asm | fail "use: below"); (case k2 => first | k_asm | fail "use: the frame"); (case k3 => first | k_asm | fail "use: the part"); (case k4 => first | k_asm | fail "use: the ledger"); (case kS => first | (((repeat (refine sub_cons ?_ ?_; k_mem)); exact sub_nil)) | fail "use: what is handed in"); (case k5 => first | k_asm | fail "use: the top"); (case kd => first | k_room | fail "use: room"); (case ku => first | k_units | fail "use: units"); (case kC => first | assumption | fail "use: the table"))); ((intro t9 h9 tk9 F9 N9; (try dsimp only); (try k_fold))))) | ((with_reducible show wpAny _ _ (call (Value.ref 101) _) _ _ _); (refine' Ctr.useTup (ctr_fraction1 _ _ _ _ _ ?hg ?hy ?hz) ?k1 ?k2 ?k3 ?k4 ?kS ?k5 ?kd ?ku ?kC ?_; (( (case k1 => first | k_asm | fail "use: below"); (case k2 => first | k_asm | fail "use: the frame"); (case k3 => first | k_asm | fail "use: the part"); (case k4 => first | k_asm | fail "use: the ledger"); (case kS => first | (((repeat (refine sub_cons ?_ ?_; k_mem)); exact sub_nil)) | fail "use: what is handed in"); (case k5 => first | k_asm | fail "use: the top"); (case kd => first | k_room | fail "use: room"); (case ku => first | k_units | fail "use: units"); (case kC => first | assumption | fail "use: the table"))); (case hg => with_reducible assumption); (case hy => with_reducible assumption); (case hz => with_reducible assumption); ((intro D9 n9 t9 u9 h9 tk9 F9 N9 P9; (try dsimp only); (try k_fold))))) | ((with_reducible show wpAny _ _ (call (Value.ref 184) _) _ _ _); (refine' Ctr.useTup (ctr_law_fraction _ _ _ _ _ _ _ _ _ _ _ _ _ _ _) ?k1 ?k2 ?k3 ?k4 ?kS ?k5 ?kd ?ku ?kC ?_; (( (case k1 => first | k_asm | fail "use: below"); (case k2 => first | k_asm | fail "use: the frame"); (case k3 => first | k_asm | fail "use: the part"); (case k4 => first | k_asm | fail "use: the ledger"); (case kS => first | (((repeat (refine sub_cons ?_ ?_; k_mem)); exact sub_nil)) | fail "use: what is handed in"); (case k5 => first | k_asm | fail "use: the top"); (case kd => first | k_room | fail "use: room"); (case ku => first | k_units | fail "use: units"); (case kC => first | assumption | fail "use: the table"))); ((intro D9 n9 t9 u9 h9 tk9 F9 N9 P9; (try dsimp only); (try k_fold))))) | ((with_reducible show wpAny _ _ (call (Value.ref 165) _) _ _ _); (refine' Ctr.useTup (ctr_determinant _ _ _ _ _ _ _ _ _ _ _ _ _ _ _ _ ?h1 ?h2 ?h3 ?h4 ?h5 ?h6 ?h7 ?h8 ?h9 ?g1 ?g2 ?g3 ?g4 ?g5) ?k1 ?k2 ?k3 ?k4 ?kS ?k5 ?kd ?ku ?kC ?_; (( (case k1 => first | k_asm | fail "use: below"); (case k2 => first | k_asm | fail "use: the frame"); (case k3 => first | k_asm | fail "use: the part"); (case k4 => first | k_asm | fail "use: the ledger"); (case kS => first | (((repeat (refine sub_cons ?_ ?_; k_mem)); exact sub_nil)) | fail "use: what is handed in"); (case k5 => first | k_asm | fail "use: the top"); (case kd => first | k_room | fail "use: room"); (case ku => first | k_units | fail "use: units"); (case kC => first | assumption | fail "use: the table"))); (case h1 => with_reducible assumption); (case h2 => with_reducible assumption); (case h3 => with_reducible assumption); (case h4 => with_reducible assumption); (case h5 => with_reducible assumption); (case h6 => with_reducible assumption); (case h7 => with_reducible assumption); (case h8 => with_reducible assumption); (case h9 => with_reducible assumption); (case g1 => with_reducible assumption); (case g2 => with_reducible assumption); (case g3 => with_reducible assumption); (case g4 => with_reducible assumption); (case g5 => with_reducible assumption); ((intro D9 n9 t9 u9 h9 tk9 F9 N9 P9; (try dsimp only); (try k_fold))))))); k_steps)))
  refine unstop (call_enum_src (l := G) (items := vs) (n := n) (fun _ nw => nw = (193, tabFull ca cb) :: (ca, oca) :: (cb, ocb) :: gr) rfl (by k_asm) (by k_asm) rfl ?_ ?_ ?_)
  · rintro _ _ rfl
    exact .tail _ (.tail _ (.tail _ hG))
  · rintro e it i v t m' nw oe oi hp tk E' hv rfl F N oe9 oi9 ne
    have hi : i ≤ ws.length := by
      have := (Array.getElem?_eq_some_iff.mp hv).1
      omega
    obtain ⟨gv, hgv, g, r0, r1, n0, n1, n2, t0, t1, t2, t3, rfl, m0, m1, m2⟩ := hit i hi
    obtain rfl : v = .ref g := by rw [hgv] at hv; exact (Option.some.inj hv).symm
    have N2 := news_more N m0 m1 m2
    clear N
    have ok := okWay_of (take_le (i := i) hw)
    have hb := back_way (take_le (i := i) hw)
    simp only [okWay, decide_eq_true_eq] at ok
    have hbd := bnd_of (take_le (i := i) hw)
    clear hgv
    generalize gridOf (ws.take i) = M at *
    obtain ⟨a, b, c, d⟩ := M
    dsimp only at *
    obtain ⟨k1, k2, k3, k4, k5, k6, k7, k8, k9, k10, k11, k12, k13, k14, k15, k16⟩ := ok
    have k17 : 0 < a + b := by omega
    have k18 : a + b ≤ 1000000 := by omega
    obtain ⟨⟨⟨x1, x2⟩, x3, x4⟩, ⟨x5, x6⟩, x7, x8⟩ := hbd
    have hsl := slice_take (ws := ws) hi
    have hsz9 := txt_small hw
    simp only [forget] at F
    (k_steps; (repeat' ((refine unstop ?_; (first | ((with_reducible show wpAny _ _ (call (Value.ref 191) _) _ _ _); (refine' Ctr.useStr (ctr_law_back1 _ _ _ _ _ ?hr) ?k1 ?k2 ?k3 ?k4 ?kS ?k5 ?kd ?ku ?kC ?_; (case hr => with_reducible assumption); (( (case k1 => first | k_asm | fail "use: below"); (case k2 => first | k_asm | fail "use: the frame"); (case k3 => first | k_asm | fail "use: the part"); (case k4 => first | k_asm | fail "use: the ledger"); (case kS => first | (((repeat (refine sub_cons ?_ ?_; k_mem)); exact sub_nil)) | fail "use: what is handed in"); (case k5 => first | k_asm | fail "use: the top"); (case kd => first | k_room | fail "use: room"); (case ku => first | k_units | fail "use: units"); (case kC => first | assumption | fail "use: the table"))); ((intro t9 h9 tk9 F9 N9; (try dsimp only); (try k_fold))))) | ((with_reducible show wpAny _ _ (call (Value.ref 101) _) _ _ _); (refine' Ctr.useTup (ctr_fraction1 _ _ _ _ _ ?hg ?hy ?hz) ?k1 ?k2 ?k3 ?k4 ?kS ?k5 ?kd ?ku ?kC ?_; (( (case k1 => first | k_asm | fail "use: below"); (case k2 => first | k_asm | fail "use: the frame"); (case k3 => first | k_asm | fail "use: the part"); (case k4 => first | k_asm | fail "use: the ledger"); (case kS => first | (((repeat (refine sub_cons ?_ ?_; k_mem)); exact sub_nil)) | fail "use: what is handed in"); (case k5 => first | k_asm | fail "use: the top"); (case kd => first | k_room | fail "use: room"); (case ku => first | k_units | fail "use: units"); (case kC => first | assumption | fail "use: the table"))); (case hg => with_reducible assumption); (case hy => with_reducible assumption); (case hz => with_reducible assumption); ((intro D9 n9 t9 u9 h9 tk9 F9 N9 P9; (try dsimp only); (try k_fold))))) | ((with_reducible show wpAny _ _ (call (Value.ref 184) _) _ _ _); (refine' Ctr.useTup (ctr_law_fraction _ _ _ _ _ _ _ _ _ _ _ _ _ _ _) ?k1 ?k2 ?k3 ?k4 ?kS ?k5 ?kd ?ku ?kC ?_; (( (case k1 => first | k_asm | fail "use: below"); (case k2 => first | k_asm | fail "use: the frame"); (case k3 => first | k_asm | fail "use: the part"); (case k4 => first | k_asm | fail "use: the ledger"); (case kS => first | (((repeat (refine sub_cons ?_ ?_; k_mem)); exact sub_nil)) | fail "use: what is handed in"); (case k5 => first | k_asm | fail "use: the top"); (case kd => first | k_room | fail "use: room"); (case ku => first | k_units | fail "use: units"); (case kC => first | assumption | fail "use: the table"))); ((intro D9 n9 t9 u9 h9 tk9 F9 N9 P9; (try dsimp only); (try k_fold))))) | ((with_reducible show wpAny _ _ (call (Value.ref 165) _) _ _ _); (refine' Ctr.useTup (ctr_determinant _ _ _ _ _ _ _ _ _ _ _ _ _ _ _ _ ?h1 ?h2 ?h3 ?h4 ?h5 ?h6 ?h7 ?h8 ?h9 ?g1 ?g2 ?g3 ?g4 ?g5) ?k1 ?k2 ?k3 ?k4 ?kS ?k5 ?kd ?ku ?kC ?_; (( (case k1 => first | k_asm | fail "use: below"); (case k2 => first | k_asm | fail "use: the frame"); (case k3 => first | k_asm | fail "use: the part"); (case k4 => first | k_asm | fail "use: the ledger"); (case kS => first | (((repeat (refine sub_cons ?_ ?_; k_mem)); exact sub_nil)) | fail "use: what is handed in"); (case k5 => first | k_asm | fail "use: the top"); (case kd => first | k_room | fail "use: room"); (case ku => first | k_units | fail "use: units"); (case kC => first | assumption | fail "use: the table"))); (case h1 => with_reducible assumption); (case h2 => with_reducible assumption); (case h3 => with_reducible assumption); (case h4 => with_reducible assumption); (case h5 => with_reducible assumption); (case h6 => with_reducible assumption); (case h7 => with_reducible assumption); (case h8 => with_reducible assumption); (case h9 => with_reducible assumption); (case g1 => with_reducible assumption); (case g2 => with_reducible assumption); (case g3 => with_reducible assumption); (case g4 => with_reducible assumption); (case g5 => with_reducible assumption); ((intro D9 n9 t9 u9 h9 tk9 F9 N9 P9; (try dsimp only); (try k_fold))))))); k_steps)))
    refine turn_j (by k_asm) (by k_asm) ((193, tabFull ca cb) :: (ca, oca) :: (cb, ocb) :: gr) (sub_cons (by k_mem) (sub_cons (by k_mem) (by ((intro p9 hp9; repeat (first | exact hp9 | refine List.Mem.tail _ ?_)))))) (fun p hp => ?_) ?_ rfl
    · simp only [List.mem_cons, List.not_mem_nil, or_false] at hp
      rcases hp with rfl | rfl
      · exact oe9
      · exact oi9
    · intro y hy
      simp only [List.mem_cons, List.not_mem_nil, or_false, not_or] at hy
      simp only [if_neg hy.1, if_neg hy.2.1, if_neg hy.2.2.1, if_neg hy.2.2.2]
  · intro m' nw hp tk hj F N
    subst hj
    dsimp only
    simp only [forget] at F
    (k_steps; (repeat' ((refine unstop ?_; (first | ((with_reducible show wpAny _ _ (call (Value.ref 191) _) _ _ _); (refine' Ctr.useStr (ctr_law_back1 _ _ _ _ _ ?hr) ?k1 ?k2 ?k3 ?k4 ?kS ?k5 ?kd ?ku ?kC ?_; (case hr => with_reducible assumption); (( (case k1 => first | k_asm | fail "use: below"); (case k2 => first | k_asm | fail "use: the frame"); (case k3 => first | k_asm | fail "use: the part"); (case k4 => first | k_asm | fail "use: the ledger"); (case kS => first | (((repeat (refine sub_cons ?_ ?_; k_mem)); exact sub_nil)) | fail "use: what is handed in"); (case k5 => first | k_asm | fail "use: the top"); (case kd => first | k_room | fail "use: room"); (case ku => first | k_units | fail "use: units"); (case kC => first | assumption | fail "use: the table"))); ((intro t9 h9 tk9 F9 N9; (try dsimp only); (try k_fold))))) | ((with_reducible show wpAny _ _ (call (Value.ref 101) _) _ _ _); (refine' Ctr.useTup (ctr_fraction1 _ _ _ _ _ ?hg ?hy ?hz) ?k1 ?k2 ?k3 ?k4 ?kS ?k5 ?kd ?ku ?kC ?_; (( (case k1 => first | k_asm | fail "use: below"); (case k2 => first | k_asm | fail "use: the frame"); (case k3 => first | k_asm | fail "use: the part"); (case k4 => first | k_asm | fail "use: the ledger"); (case kS => first | (((repeat (refine sub_cons ?_ ?_; k_mem)); exact sub_nil)) | fail "use: what is handed in"); (case k5 => first | k_asm | fail "use: the top"); (case kd => first | k_room | fail "use: room"); (case ku => first | k_units | fail "use: units"); (case kC => first | assumption | fail "use: the table"))); (case hg => with_reducible assumption); (case hy => with_reducible assumption); (case hz => with_reducible assumption); ((intro D9 n9 t9 u9 h9 tk9 F9 N9 P9; (try dsimp only); (try k_fold))))) | ((with_reducible show wpAny _ _ (call (Value.ref 184) _) _ _ _); (refine' Ctr.useTup (ctr_law_fraction _ _ _ _ _ _ _ _ _ _ _ _ _ _ _) ?k1 ?k2 ?k3 ?k4 ?kS ?k5 ?kd ?ku ?kC ?_; (( (case k1 => first | k_asm | fail "use: below"); (case k2 => first | k_asm | fail "use: the frame"); (case k3 => first | k_asm | fail "use: the part"); (case k4 => first | k_asm | fail "use: the ledger"); (case kS => first | (((repeat (refine sub_cons ?_ ?_; k_mem)); exact sub_nil)) | fail "use: what is handed in"); (case k5 => first | k_asm | fail "use: the top"); (case kd => first | k_room | fail "use: room"); (case ku => first | k_units | fail "use: units"); (case kC => first | assumption | fail "use: the table"))); ((intro D9 n9 t9 u9 h9 tk9 F9 N9 P9; (try dsimp only); (try k_fold))))) | ((with_reducible show wpAny _ _ (call (Value.ref 165) _) _ _ _); (refine' Ctr.useTup (ctr_determinant _ _ _ _ _ _ _ _ _ _ _ _ _ _ _ _ ?h1 ?h2 ?h3 ?h4 ?h5 ?h6 ?h7 ?h8 ?h9 ?g1 ?g2 ?g3 ?g4 ?g5) ?k1 ?k2 ?k3 ?k4 ?kS ?k5 ?kd ?ku ?kC ?_; (( (case k1 => first | k_asm | fail "use: below"); (case k2 => first | k_asm | fail "use: the frame"); (case k3 => first | k_asm | fail "use: the part"); (case k4 => first | k_asm | fail "use: the ledger"); (case kS => first | (((repeat (refine sub_cons ?_ ?_; k_mem)); exact sub_nil)) | fail "use: what is handed in"); (case k5 => first | k_asm | fail "use: the top"); (case kd => first | k_room | fail "use: room"); (case ku => first | k_units | fail "use: units"); (case kC => first | assumption | fail "use: the table"))); (case h1 => with_reducible assumption); (case h2 => with_reducible assumption); (case h3 => with_reducible assumption); (case h4 => with_reducible assumption); (case h5 => with_reducible assumption); (case h6 => with_reducible assumption); (case h7 => with_reducible assumption); (case h8 => with_reducible assumption); (case h9 => with_reducible assumption); (case g1 => with_reducible assumption); (case g2 => with_reducible assumption); (case g3 => with_reducible assumption); (case g4 => with_reducible assumption); (case g5 => with_reducible assumption); ((intro D9 n9 t9 u9 h9 tk9 F9 N9 P9; (try dsimp only); (try k_fold))))))); k_steps)))
    refine unstop ?_
    refine' Ctr.useR (ctr_grids_hit _ _ _ _ _ _ _ _ _ _ _ hw da db ea eb) ?k1 ?k2 ?k3 ?k4 ?kS ?k5 ?kd ?ku ?kC ?_
    (( (case k1 => first | k_asm | fail "use: below"); (case k2 => first | k_asm | fail "use: the frame"); (case k3 => first | k_asm | fail "use: the part"); (case k4 => first | k_asm | fail "use: the ledger"); (case kS => first | (((repeat (refine sub_cons ?_ ?_; k_mem)); exact sub_nil)) | fail "use: what is handed in"); (case k5 => first | k_asm | fail "use: the top"); (case kd => first | k_room | fail "use: room"); (case ku => first | k_units | fail "use: units"); (case kC => first | assumption | fail "use: the table")))
    intro v9 h9 tk9 ad9 F9 N9 P9 R9
    obtain ⟨G', ini, n', g, r0, r1, n0, n1, n2, t0, t1, t2, t3, rfl, N8⟩ := grids_last R9 N9
    clear N9 P9 R9 hit
    have ok := okWay_of hw
    simp only [okWay, decide_eq_true_eq] at ok
    obtain ⟨k1, k2, k3, k4, k5, k6, k7, k8, k9, k10, k11, k12, k13, k14, k15, k16⟩ := ok
    (k_steps; (repeat' ((refine unstop ?_; (first | ((with_reducible show wpAny _ _ (call (Value.ref 191) _) _ _ _); (refine' Ctr.useStr (ctr_law_back1 _ _ _ _ _ ?hr) ?k1 ?k2 ?k3 ?k4 ?kS ?k5 ?kd ?ku ?kC ?_; (case hr => with_reducible assumption); (( (case k1 => first | k_asm | fail "use: below"); (case k2 => first | k_asm | fail "use: the frame"); (case k3 => first | k_asm | fail "use: the part"); (case k4 => first | k_asm | fail "use: the ledger"); (case kS => first | (((repeat (refine sub_cons ?_ ?_; k_mem)); exact sub_nil)) | fail "use: what is handed in"); (case k5 => first | k_asm | fail "use: the top"); (case kd => first | k_room | fail "use: room"); (case ku => first | k_units | fail "use: units"); (case kC => first | assumption | fail "use: the table"))); ((intro t9 h9 tk9 F9 N9; (try dsimp only); (try k_fold))))) | ((with_reducible show wpAny _ _ (call (Value.ref 101) _) _ _ _); (refine' Ctr.useTup (ctr_fraction1 _ _ _ _ _ ?hg ?hy ?hz) ?k1 ?k2 ?k3 ?k4 ?kS ?k5 ?kd ?ku ?kC ?_; (( (case k1 => first | k_asm | fail "use: below"); (case k2 => first | k_asm | fail "use: the frame"); (case k3 => first | k_asm | fail "use: the part"); (case k4 => first | k_asm | fail "use: the ledger"); (case kS => first | (((repeat (refine sub_cons ?_ ?_; k_mem)); exact sub_nil)) | fail "use: what is handed in"); (case k5 => first | k_asm | fail "use: the top"); (case kd => first | k_room | fail "use: room"); (case ku => first | k_units | fail "use: units"); (case kC => first | assumption | fail "use: the table"))); (case hg => with_reducible assumption); (case hy => with_reducible assumption); (case hz => with_reducible assumption); ((intro D9 n9 t9 u9 h9 tk9 F9 N9 P9; (try dsimp only); (try k_fold))))) | ((with_reducible show wpAny _ _ (call (Value.ref 184) _) _ _ _); (refine' Ctr.useTup (ctr_law_fraction _ _ _ _ _ _ _ _ _ _ _ _ _ _ _) ?k1 ?k2 ?k3 ?k4 ?kS ?k5 ?kd ?ku ?kC ?_; (( (case k1 => first | k_asm | fail "use: below"); (case k2 => first | k_asm | fail "use: the frame"); (case k3 => first | k_asm | fail "use: the part"); (case k4 => first | k_asm | fail "use: the ledger"); (case kS => first | (((repeat (refine sub_cons ?_ ?_; k_mem)); exact sub_nil)) | fail "use: what is handed in"); (case k5 => first | k_asm | fail "use: the top"); (case kd => first | k_room | fail "use: room"); (case ku => first | k_units | fail "use: units"); (case kC => first | assumption | fail "use: the table"))); ((intro D9 n9 t9 u9 h9 tk9 F9 N9 P9; (try dsimp only); (try k_fold))))) | ((with_reducible show wpAny _ _ (call (Value.ref 165) _) _ _ _); (refine' Ctr.useTup (ctr_determinant _ _ _ _ _ _ _ _ _ _ _ _ _ _ _ _ ?h1 ?h2 ?h3 ?h4 ?h5 ?h6 ?h7 ?h8 ?h9 ?g1 ?g2 ?g3 ?g4 ?g5) ?k1 ?k2 ?k3 ?k4 ?kS ?k5 ?kd ?ku ?kC ?_; (( (case k1 => first | k_asm | fail "use: below"); (case k2 => first | k_asm | fail "use: the frame"); (case k3 => first | k_asm | fail "use: the part"); (case k4 => first | k_asm | fail "use: the ledger"); (case kS => first | (((repeat (refine sub_cons ?_ ?_; k_mem)); exact sub_nil)) | fail "use: what is handed in"); (case k5 => first | k_asm | fail "use: the top"); (case kd => first | k_room | fail "use: room"); (case ku => first | k_units | fail "use: units"); (case kC => first | assumption | fail "use: the table"))); (case h1 => with_reducible assumption); (case h2 => with_reducible assumption); (case h3 => with_reducible assumption); (case h4 => with_reducible assumption); (case h5 => with_reducible assumption); (case h6 => with_reducible assumption); (case h7 => with_reducible assumption); (case h8 => with_reducible assumption); (case h9 => with_reducible assumption); (case g1 => with_reducible assumption); (case g2 => with_reducible assumption); (case g3 => with_reducible assumption); (case g4 => with_reducible assumption); (case g5 => with_reducible assumption); ((intro D9 n9 t9 u9 h9 tk9 F9 N9 P9; (try dsimp only); (try k_fold))))))); k_steps)))
    exact hret _ _ _ [(193, tabFull ca cb), (ca, oca), (cb, ocb)] (by k_asm) (news_sub (by k_asm) (sub_cons (by k_mem) (sub_cons (by k_mem) (sub_cons (by k_mem) sub_nil)))) (kept_sub (by (exact kept_of (by assumption) (by assumption) (by assumption))) (sub_cons (by k_mem) (sub_cons (by k_mem) (sub_cons (by k_mem) sub_nil)))) ⟨rfl, ca, cb, oca, ocb, va, vb, ta, tb, rfl, da, db, ea, eb⟩
theorem grids_hit_new (w : World) (ws : List Bool) (t : Tok) (ca cb : Addr) (oca ocb : Obj) (va vb : Array Value) (ta tb : Tok) (hw : ws.length ≤ 6) (da : oca.data = .fields va) (db : ocb.data = .fields vb) (ea : va[1]? = some (.str lamQ ta)) (eb : vb[1]? = some (.str lamQ tb)) :
    Ctr w 20 198 [.str (txt ws) t] [(193, tabFull ca cb), (ca, oca), (cb, ocb)] (RNew ws) := by
  intro p loose mean mg mb dp un gd cn nms9 ig9 ic9 mo9 a9 ccd cl outer A₀ base h₀ L m s Q E B F X N T hdp hun hC hret
  refine (ctr_grids_hit w ws t ca cb oca ocb va vb ta tb hw da db ea eb) p loose mean mg mb dp un gd cn nms9 ig9 ic9 mo9 a9 ccd cl outer A₀ base h₀ L m s Q E B F X N T hdp hun hC ?_
  rintro v h' tk' led' F' N' K' ⟨add, rfl, ap, R⟩
  have hs : ∀ p ∈ (193, tabFull ca cb) :: (ca, oca) :: (cb, ocb) :: add, p ∈ add ++ [(193, tabFull ca cb), (ca, oca), (cb, ocb)] := fun p hp => by
    simp only [List.mem_cons, List.mem_append, List.not_mem_nil, or_false] at hp ⊢
    rcases hp with h | h | h | h <;> simp [h]
  exact hret v h' tk' _ F' (news_sub N' hs) (kept_sub K' hs) ⟨ca, cb, oca, ocb, va, vb, ta, tb, add, rfl, da, db, ea, eb, R⟩
end
-- S1
section
open PySem PySem.W PyProof.Rows
set_option linter.unusedVariables false
set_option maxRecDepth 100000
set_option maxHeartbeats 8000000
theorem frac_bnd {ws : List Bool} (h : ws.length ≤ 6) : (-1000 ≤ (gridOf ws).2.2.1 + (gridOf ws).2.2.2 ∧ (gridOf ws).2.2.1 + (gridOf ws).2.2.2 ≤ 1000) ∧ (0 < (gridOf ws).1 + (gridOf ws).2.1 ∧ (gridOf ws).1 + (gridOf ws).2.1 ≤ 1000) := by
  have ok := okWay_of h
  simp only [okWay, decide_eq_true_eq] at ok
  omega
theorem ctr_less_ways (w : World) (x y : Addr) (u v : List Bool) (ta tb tc td : Tok) (n1 n2 : Nat) (hu : u.length ≤ 6) (hv : v.length ≤ 6) :
    CtrR w 8 122 [.ref x, .ref y] [(x, tupOf #[.int ((gridOf u).2.2.1 + (gridOf u).2.2.2) ta, .int ((gridOf u).1 + (gridOf u).2.1) tb] n1), (y, tupOf #[.int ((gridOf v).2.2.1 + (gridOf v).2.2.2) tc, .int ((gridOf v).1 + (gridOf v).2.1) td] n2)]
      (fun val add => ∃ z z2, RTup z z2 val add ∧ (decide (z < 0) != decide ((txt u ++ Str.ofString "M").cps.toList < (txt v ++ Str.ofString "M").cps.toList)) = false ∧ ((z == 0) != (txt u == txt v)) = false) := by
  obtain ⟨⟨x1, x2⟩, x3, x4⟩ := frac_bnd hu
  obtain ⟨⟨x5, x6⟩, x7, x8⟩ := frac_bnd hv
  intro p loose mean mg mb dp un gd cn nms9 ig9 ic9 mo9 a9 ccd cl outer A₀ base h₀ L m s Q E B F X N T hdp hun hC hret
  refine (ctr_fraction_less w x y _ _ _ _ ta tb tc td n1 n2 x1 x2 x3 x4 x5 x6 x7 x8) p loose mean mg mb dp un gd cn nms9 ig9 ic9 mo9 a9 ccd cl outer A₀ base h₀ L m s Q E B F X N T hdp hun hC ?_
  rintro val h' tk' led' F' N' K' ⟨add, rfl, ap, R⟩
  exact hret val h' tk' _ F' N' K' ⟨add, rfl, ap, _, _, R, order_lt hu hv, order_eq hu hv⟩
theorem ite_ff9 {b : Bool} {P Q : Prop} (h : b = false) (q : Q) : if b = true then P else Q := by rw [if_neg (by simp [h])]; exact q
section
variable {prog : Program} {w : World} {A₁ : Around} {E : Value → Shared → Prop} {s₁ : Shared} {h₀ : Heap} {L : Addr} {m : Str → Option Value} {env : Env}
noncomputable def SwapEnd (h₀ : Heap) (L : Addr) (m : Str → Option Value) (s₁ : Shared) (led : Led) (b : Bool) (y : Value) (s₂ : Shared) : Prop :=
  ∃ t h' tk, y = .str ⟨#[sgn b]⟩ t ∧ s₂ = { s₁ with heap := h', toks := tk } ∧ Fr h₀ L h' m ∧ News h₀ L h' led
theorem swap_end {led : Led} {b : Bool} {t : Tok} {y : Str} {h' : Heap} {tk : Nat} (e : y = ⟨#[sgn b]⟩) (F : Fr h₀ L h' m) (N : News h₀ L h' led) : SwapEnd h₀ L m s₁ led b (.str y t) { s₁ with heap := h', toks := tk } := by
  subst e
  exact ⟨t, h', tk, rfl, rfl, F, N⟩
theorem strs_snoc9 {y : Str} {t : Tok} : ∀ {vs : List Value} {ys : List Str}, StrsAre vs ys → StrsAre (vs ++ [.str y t]) (ys ++ [y])
  | _, _, .nil => .cons y t .nil
  | _, _, .cons z u r => .cons z u (strs_snoc9 r)
theorem swap_src {elt : Expr} {x : Str} {scope : Scope} {cl : List (Str × Addr)} {Q : Value → Shared → Prop} {ws : List Bool} {t : Tok} {news : Led} (hw : ws.length ≤ 6) (hh : A₁.handled = none) (F : Fr h₀ L s₁.heap m) (N : News h₀ L s₁.heap news)
    (turn : ∀ b u I oI C oC D ys m₂ h tk (E' : Value → Shared → Prop), LCg.NsObj oC m₂ → m₂ x = some (.str ⟨#[sgn b]⟩ u) → Fr h₀ L h m → News h₀ L h ((I, oI) :: (C, oC) :: (D, LCg.lst ys) :: news) →
      wpAny (model prog w) A₁ (eval elt (compEnvC scope cl C env)) (SwapEnd h₀ L m { s₁ with heap := h, toks := tk } ((I, oI) :: (C, oC) :: (D, LCg.lst ys) :: news) (!b)) E' { s₁ with heap := h, toks := tk })
    (fin : ∀ ys D h tk, StrsAre ys (steps (sw ws)) → Fr h₀ L h m → News h₀ L h ((D, LCg.lst ys) :: news) → LCg.Off1 D news → Q (.ref D) { s₁ with heap := h, toks := tk }) :
    SrcTx prog w A₁ h₀ L m env elt x scope cl (fun s₂ => LCg.FinE h₀ L m s₂ Q) (.str (txt ws) t) s₁ := by
  refine ⟨txt ws, t, news, rfl, txt_ascii ws, hh, F, N, by rw [txt_size, PySem.sizeLine_eq]; omega, ?_⟩
  rintro _ ⟨g, rfl⟩
  rw [txt_size]
  refine comp_ind (fun i ys nw => StrsAre ys (steps (sw (ws.take i))) ∧ nw = news) ⟨.nil, rfl⟩ ?_ ?_
  · rintro i ys nw v I oI C oC D m₂ h tk E' hi ⟨hy, rfl⟩ hv hC hx F N off ne
    obtain ⟨c, u, hc, rfl⟩ := hv
    obtain ⟨b, hb, rfl⟩ := txt_at hc
    refine wpAny_mono (turn b u I oI C oC D ys m₂ h tk E' hC hx F N) (fun y s₂ hq => ?_) fun _ _ e => e
    obtain ⟨t', h', tk', rfl, rfl, F', N'⟩ := hq
    refine LCg.CompEnd.intro F' N' nw (fun p hp => hp) off trivial ⟨?_, rfl⟩
    rw [List.take_add_one, hb, show steps (sw (ws.take i ++ (some b).toList)) = steps (sw (ws.take i)) ++ [⟨#[sgn (!b)]⟩] by simp [steps, sw]]
    exact strs_snoc9 hy
  · rintro ys nw ⟨hy, rfl⟩ D h tk F N o
    rw [List.take_length] at hy
    exact fin ys D h tk hy F N o
end
section
variable {prog : Program} {w : World} {A : Around} {E : Value → Shared → Prop} {s : Shared} {value slice : Expr} {x y : Str} {t : Tok} {h₀ : Heap} {L : Addr} {m : Str → Option Value} {news : Led} {Q : Value → Shared → Prop}
theorem slice_back {uk : Tok} (hF : Fr h₀ L s.heap m) (hN : News h₀ L s.heap news) (hx : Txt.sliceBy x none none (-1, uk) = y) (hsz : x.length ≤ sizeLine) (h : ∀ h' t' k, Fr h₀ L h' m → News h₀ L h' news → Q (.str y t') { s with heap := h', toks := k })
    (hs : subscripted slice false (.str x t) (.ref s.heap.objs.size) = operate [.ref s.heap.objs.size, .str x t] (getItem (.str x t) (.ref s.heap.objs.size)) := by with_unfolding_all rfl)
    (ht : ∀ r, letTemporaryGo value (.str x t) r = pure () := by intro _; with_unfolding_all rfl) :
    wpAny (model prog w) A (subscriptTail value slice (.str x t) (.ref s.heap.objs.size)) Q E { s with heap := s.heap.push { cls := .type "slice", data := .fields #[.none, .none, .int (-1) uk] } } := by
  subst hx
  exact slice_strK_nn (hsz := hsz) hF hN (by decide) h hs ht
end
theorem slice_rev (ws : List Bool) (u : Tok) : Txt.sliceBy (txt ws) none none (-1, u) = txt ws.reverse := by
  have h := step_rev_list (txt ws) u
  have e : (Txt.sliceBy (txt ws) none none (-1, u)).cps = (txt ws.reverse).cps := by
    apply Array.ext'
    rw [h]
    apply List.ext_getElem
    · rw [List.length_map, List.length_range, txt_len]
      simp [txt]
    · intro i h1 h2
      have hi : i < ws.length := by simpa [txt_len] using h1
      simp only [List.getElem_map, List.getElem_range, txt_len]
      simp only [txt, List.getElem_map, List.getElem_reverse, Array.getD_eq_getD_getElem?, List.getElem?_toArray, List.getElem?_map]
      rw [List.getElem?_eq_getElem (by omega)]
      simp
  cases hx : Txt.sliceBy (txt ws) none none (-1, u)
  rw [hx] at e
  cases hy : txt ws.reverse
  rw [hy] at e
  exact congrArg Str.mk e
theorem grid_eqv (a b c d : Int) : (PyData.list [PyData.list (List.map PyData.int [a, b]), PyData.list (List.map PyData.int [c, d])]).eqv (PyData.list [PyData.list (List.map PyData.int [a, b]), PyData.list (List.map PyData.int [c, d])]) = true := by
  simp [PyData.eqv, PyData.eqvAll]
end
theorem walk_off_Z1 : True := by
  w_top off
  trivial
-- Z1
section
open PySem PySem.W PyProof.Rows
set_option linter.unusedVariables false
set_option maxRecDepth 100000
set_option maxHeartbeats 8000000
theorem take_len {vs : List Value} {ns : List Int} (h : IntsAre vs (List.take 14 ns)) : vs.length ≤ 100 := by
  have := h.length
  rw [List.length_take] at this
  omega
theorem txt_small1 {ws : List Bool} (h : ws.length ≤ 6) : (txt ws).length ≤ sizeLine ∧ (txt ws).length + 1 ≤ sizeLine := by rw [txt_len, PySem.sizeLine_eq]; omega
theorem sw_len {ws : List Bool} (h : ws.length ≤ 6) : (sw ws).length ≤ 6 := by simpa using h
theorem rev_len {ws : List Bool} (h : ws.length ≤ 6) : ws.reverse.length ≤ 6 := by simpa using h
local macro_rules | `(tactic| walk_at "ite") => `(tactic| (k_here; k_dflt (refine ite_ff9 (by with_reducible assumption) ?_)))
local macro_rules | `(tactic| walk_at "eval ListComp") => `(tactic| (k_here; k_dflt (refine comp_text (F₀ := by k_asm) (by with_unfolding_all rfl) (by decide) (by rfl) (by decide) (by rfl) ?_)))
local macro_rules | `(tactic| walk_at "call builtin:str.join") => `(tactic| (k_here; refine stop ?_))
local macro_rules | `(tactic| walk_at "subscriptTail Name Slice str ref") => `(tactic| (k_here; (refine slice_back (s := ⟨_, _, _, _, _⟩) (by k_asm) (by k_asm) (slice_rev _ _) (by with_reducible assumption) ?_); intro h' t' k' F' N'))
theorem ite_lit1 {P Q : Prop} (q : Q) : if (false = true) then P else Q := by rw [if_neg (by simp)]; exact q
theorem ite_lit2 {P Q : Prop} (q : P) : if (true = true) then P else Q := by rw [if_pos rfl]; exact q
local macro_rules | `(tactic| walk_at "ite") => `(tactic| (k_here; with_reducible first | refine ite_lit1 ?_ | refine ite_lit2 ?_))
local macro_rules | `(tactic| walk_at "compareOp Eq ref ref") => `(tactic| (k_here; refine stop ?_))
theorem law_holds : PySem.Challenge.rw_xm0031_01.Holds := by
  w_on
  refine holds_law ws fun said => ?_
  refine holds_open (q := hd.view_1) (loose := [PySem.Str.ofString "BasicError"]) (Xt := fun s => xlAt hd.view_1 [] s && recOk (RowW.records PySem.Challenge.rw_xm0031_01.row.toRowW) s) (XP := XL hd.view_1 [])
    (YP := Hook.says (kmHook hd.heap_1 [2, 3, 15, 18, 23, 24, 25, 27, 28, 30, 31, 32, 33, 34, 35, 38, 40, 41, 43, 44, 45, 47, 48, 50, 51, 52, 54, 55, 57, 58,
    59, 61, 62, 64, 65, 66, 69, 70, 71, 74, 75, 76, 79, 80, 81, 83, 84, 86, 87, 88, 90, 91, 93, 94, 95, 97, 98, 100,
    101, 102, 104, 105, 107, 108, 109, 111, 112, 114, 115, 116, 118, 119, 121, 122, 123, 125, 126, 128, 129, 130, 132,
    133, 135, 136, 137, 139, 140, 142, 143, 144, 147, 148, 149, 152, 153, 154, 157, 158, 159, 161, 162, 164, 165, 166,
    168, 169, 171, 172, 173, 176, 177, 178, 180, 181, 183, 184, 185, 187, 188, 190, 191, 192, 194, 195, 197, 198, 199,
    201, 202, 204, 205, 206, 209, 210] (fun _ => by kernel_rfl) [193])) (N := 2324) left (Hook.of _) (Hook.keeps _) (fun s e => xl_of s (Bool.and_eq_true_iff.mp e).1) XL.keeps (by rfl) (by rfl) (by rfl) (fun s e => recFacts_of (Bool.and_eq_true_iff.mp e).2) (by rfl) (by assumption) (by decide +kernel) ⟨rfl, rfl, rfl, rfl, rfl, by decide +kernel⟩ ?hw ?hc
  case hw => w_witness2
  clear said
  exact id (by
  w_strict (k_go0; (all_goals try k_fold); (k_steps; (repeat' ((refine unstop ?_; (first | ((with_reducible show wpAny _ _ (call (Value.ref 75) _) _ _ _); (refine' Ctr.useGrid (ctr_turned_grid _ _ _ _ _ _ _ _ _ _ _ _ _ _ _) ?k1 ?k2 ?k3 ?k4 ?kS ?k5 ?kd ?ku ?kC ?_; (( (case k1 => first | k_asm | fail "use: below"); (case k2 => first | k_asm | fail "use: the frame"); (case k3 => first | k_asm | fail "use: the part"); (case k4 => first | k_asm | fail "use: the ledger"); (case kS => first | (((repeat (refine sub_cons ?_ ?_; k_mem)); exact sub_nil)) | fail "use: what is handed in"); (case k5 => first | k_asm | fail "use: the top"); (case kd => first | k_room | fail "use: room"); (case ku => first | k_units | fail "use: units"); (case kC => first | assumption | fail "use: the table"))); ((intro g9 q9 p9 n0 n1 n2 t0 t1 t2 t3 h9 tk9 F9 N9 og9 o09 o19 e3 e4 e5; (try dsimp only); (try k_fold))))) | ((with_reducible show wpAny _ _ (call (Value.ref 122) _) _ _ _); (refine' Ctr.useR (ctr_less_ways _ _ _ _ _ _ _ _ _ _ _ ?a1 ?a2) ?k1 ?k2 ?k3 ?k4 ?kS ?k5 ?kd ?ku ?kC ?_; (( (case k1 => first | k_asm | fail "use: below"); (case k2 => first | k_asm | fail "use: the frame"); (case k3 => first | k_asm | fail "use: the part"); (case k4 => first | k_asm | fail "use: the ledger"); (case kS => first | (((repeat (refine sub_cons ?_ ?_; k_mem)); exact sub_nil)) | fail "use: what is handed in"); (case k5 => first | k_asm | fail "use: the top"); (case kd => first | k_room | fail "use: room"); (case ku => first | k_units | fail "use: units"); (case kC => first | assumption | fail "use: the table"))); (case a1 => with_reducible assumption); (case a2 => with_reducible assumption); intro v9 h9 tk9 ad9 F9 N9 P9 R9; obtain ⟨z9, y9, ⟨D9, n9, t9, u9, e1, e2⟩, o1, o2⟩ := R9; subst e1; subst e2; replace P9 := off1_of P9; (try simp only [List.cons_append, List.nil_append] at N9); (try dsimp only); (try k_fold))) | ((with_reducible show wpAny _ _ (call (Value.ref 198) _) _ _ _); (refine' Ctr.useR (ctr_grids_hit _ _ _ _ _ _ _ _ _ _ _ ?hw ?da ?db ?ea ?eb) ?k1 ?k2 ?k3 ?k4 ?kS ?k5 ?kd ?ku ?kC ?_; (( (case k1 => first | k_asm | fail "use: below"); (case k2 => first | k_asm | fail "use: the frame"); (case k3 => first | k_asm | fail "use: the part"); (case k4 => first | k_asm | fail "use: the ledger"); (case kS => first | (((repeat (refine sub_cons ?_ ?_; k_mem)); exact sub_nil)) | fail "use: what is handed in"); (case k5 => first | k_asm | fail "use: the top"); (case kd => first | k_room | fail "use: room"); (case ku => first | k_units | fail "use: units"); (case kC => first | assumption | fail "use: the table"))); (case hw => with_reducible assumption); (case da => with_reducible assumption); (case db => with_reducible assumption); (case ea => with_reducible assumption); (case eb => with_reducible assumption); intro v9 h9 tk9 ad9 F9 N9 P9 R9; obtain ⟨G9, i9, n9, g9, q0, q1, n0, n1, n2, t0, t1, t2, t3, e1, N8⟩ := grids_last R9 N9; clear N9 P9 R9; subst e1; (try dsimp only); (try k_fold))) | ((with_reducible show wpAny _ _ (call (Value.ref 184) _) _ _ _); (refine' Ctr.useTup (ctr_law_fraction _ _ _ _ _ _ _ _ _ _ _ _ _ _ _) ?k1 ?k2 ?k3 ?k4 ?kS ?k5 ?kd ?ku ?kC ?_; (( (case k1 => first | k_asm | fail "use: below"); (case k2 => first | k_asm | fail "use: the frame"); (case k3 => first | k_asm | fail "use: the part"); (case k4 => first | k_asm | fail "use: the ledger"); (case kS => first | (((repeat (refine sub_cons ?_ ?_; k_mem)); exact sub_nil)) | fail "use: what is handed in"); (case k5 => first | k_asm | fail "use: the top"); (case kd => first | k_room | fail "use: room"); (case ku => first | k_units | fail "use: units"); (case kC => first | assumption | fail "use: the table"))); ((intro D9 n9 t9 u9 h9 tk9 F9 N9 P9; (try dsimp only); (try k_fold))))))); k_steps)))
            (refine unstop ?_)
            (refine' Ctr.useG [(193, tabObj #[])] (ctr_law_way _ _ _ _ _ _ _ _ _ ?hI ?h0 ?h1 ?hl ?hne) ?k1 ?k2 ?k3 ?k4 ?kS ?kO ?kA ?k5 ?kd ?ku ?kC ?_)
            (((case k1 => first | k_asm | fail "use: below"); (case k2 => first | k_asm | fail "use: the frame"); (case k3 => first | k_asm | fail "use: the part"); (case k4 => first | k_asm | fail "use: the ledger"); (case k5 => first | k_asm | fail "use: the top"); (case kd => first | k_room | fail "use: room"); (case ku => first | k_units | fail "use: units"); (case kC => first | assumption | fail "use: the table")))
            (case kS => (((repeat (refine sub_cons ?_ ?_; k_mem)); exact sub_nil)))
            (case hI => assumption)
            (case h0 => decide)
            (case h1 => decide)
            (case hl => exact take_len (by assumption))
            (case hne => k_ne)
            (case kO => lcg_sub)
            (case kA => exact apt_cons (by walk_at "ctr off") apt_nil)
            intro v1 h1 tk1 led1 F1 N1 P1 R1
            obtain ⟨wy, y1, sp1, y2, y3, rfl, ⟨hw3, hw6⟩, ⟨hs1, hs2⟩, rfl⟩ := R1
            (simp only [List.cons_append, List.nil_append] at N1)
            (try dsimp only)
            (k_steps; (repeat' ((refine unstop ?_; (first | ((with_reducible show wpAny _ _ (call (Value.ref 75) _) _ _ _); (refine' Ctr.useGrid (ctr_turned_grid _ _ _ _ _ _ _ _ _ _ _ _ _ _ _) ?k1 ?k2 ?k3 ?k4 ?kS ?k5 ?kd ?ku ?kC ?_; (( (case k1 => first | k_asm | fail "use: below"); (case k2 => first | k_asm | fail "use: the frame"); (case k3 => first | k_asm | fail "use: the part"); (case k4 => first | k_asm | fail "use: the ledger"); (case kS => first | (((repeat (refine sub_cons ?_ ?_; k_mem)); exact sub_nil)) | fail "use: what is handed in"); (case k5 => first | k_asm | fail "use: the top"); (case kd => first | k_room | fail "use: room"); (case ku => first | k_units | fail "use: units"); (case kC => first | assumption | fail "use: the table"))); ((intro g9 q9 p9 n0 n1 n2 t0 t1 t2 t3 h9 tk9 F9 N9 og9 o09 o19 e3 e4 e5; (try dsimp only); (try k_fold))))) | ((with_reducible show wpAny _ _ (call (Value.ref 122) _) _ _ _); (refine' Ctr.useR (ctr_less_ways _ _ _ _ _ _ _ _ _ _ _ ?a1 ?a2) ?k1 ?k2 ?k3 ?k4 ?kS ?k5 ?kd ?ku ?kC ?_; (( (case k1 => first | k_asm | fail "use: below"); (case k2 => first | k_asm | fail "use: the frame"); (case k3 => first | k_asm | fail "use: the part"); (case k4 => first | k_asm | fail "use: the ledger"); (case kS => first | (((repeat (refine sub_cons ?_ ?_; k_mem)); exact sub_nil)) | fail "use: what is handed in"); (case k5 => first | k_asm | fail "use: the top"); (case kd => first | k_room | fail "use: room"); (case ku => first | k_units | fail "use: units"); (case kC => first | assumption | fail "use: the table"))); (case a1 => with_reducible assumption); (case a2 => with_reducible assumption); intro v9 h9 tk9 ad9 F9 N9 P9 R9; obtain ⟨z9, y9, ⟨D9, n9, t9, u9, e1, e2⟩, o1, o2⟩ := R9; subst e1; subst e2; replace P9 := off1_of P9; (try simp only [List.cons_append, List.nil_append] at N9); (try dsimp only); (try k_fold))) | ((with_reducible show wpAny _ _ (call (Value.ref 198) _) _ _ _); (refine' Ctr.useR (ctr_grids_hit _ _ _ _ _ _ _ _ _ _ _ ?hw ?da ?db ?ea ?eb) ?k1 ?k2 ?k3 ?k4 ?kS ?k5 ?kd ?ku ?kC ?_; (( (case k1 => first | k_asm | fail "use: below"); (case k2 => first | k_asm | fail "use: the frame"); (case k3 => first | k_asm | fail "use: the part"); (case k4 => first | k_asm | fail "use: the ledger"); (case kS => first | (((repeat (refine sub_cons ?_ ?_; k_mem)); exact sub_nil)) | fail "use: what is handed in"); (case k5 => first | k_asm | fail "use: the top"); (case kd => first | k_room | fail "use: room"); (case ku => first | k_units | fail "use: units"); (case kC => first | assumption | fail "use: the table"))); (case hw => with_reducible assumption); (case da => with_reducible assumption); (case db => with_reducible assumption); (case ea => with_reducible assumption); (case eb => with_reducible assumption); intro v9 h9 tk9 ad9 F9 N9 P9 R9; obtain ⟨G9, i9, n9, g9, q0, q1, n0, n1, n2, t0, t1, t2, t3, e1, N8⟩ := grids_last R9 N9; clear N9 P9 R9; subst e1; (try dsimp only); (try k_fold))) | ((with_reducible show wpAny _ _ (call (Value.ref 184) _) _ _ _); (refine' Ctr.useTup (ctr_law_fraction _ _ _ _ _ _ _ _ _ _ _ _ _ _ _) ?k1 ?k2 ?k3 ?k4 ?kS ?k5 ?kd ?ku ?kC ?_; (( (case k1 => first | k_asm | fail "use: below"); (case k2 => first | k_asm | fail "use: the frame"); (case k3 => first | k_asm | fail "use: the part"); (case k4 => first | k_asm | fail "use: the ledger"); (case kS => first | (((repeat (refine sub_cons ?_ ?_; k_mem)); exact sub_nil)) | fail "use: what is handed in"); (case k5 => first | k_asm | fail "use: the top"); (case kd => first | k_room | fail "use: room"); (case ku => first | k_units | fail "use: units"); (case kC => first | assumption | fail "use: the table"))); ((intro D9 n9 t9 u9 h9 tk9 F9 N9 P9; (try dsimp only); (try k_fold))))))); k_steps)))
            (refine unstop ?_)
            (refine' Ctr.useG [(193, tabObj #[])] (ctr_law_way _ _ _ _ _ _ _ _ _ ?hI ?h0 ?h1 ?hl ?hne) ?k1 ?k2 ?k3 ?k4 ?kS ?kO ?kA ?k5 ?kd ?ku ?kC ?_)
            (((case k1 => first | k_asm | fail "use: below"); (case k2 => first | k_asm | fail "use: the frame"); (case k3 => first | k_asm | fail "use: the part"); (case k4 => first | k_asm | fail "use: the ledger"); (case k5 => first | k_asm | fail "use: the top"); (case kd => first | k_room | fail "use: room"); (case ku => first | k_units | fail "use: units"); (case kC => first | assumption | fail "use: the table")))
            (case kS => (((repeat (refine sub_cons ?_ ?_; k_mem)); exact sub_nil)))
            (case hI => assumption)
            (case h0 => omega)
            (case h1 => omega)
            (case hl => exact take_len (by assumption))
            (case hne => k_ne)
            (case kO => lcg_sub)
            (case kA => exact P1)
            intro v2 h2 tk2 led2 F2 N2 P2 R2
            obtain ⟨wo, z1, sp2, z2, z3, rfl, ⟨ho3, ho6⟩, ⟨hs3, hs4⟩, rfl⟩ := R2
            (simp only [List.cons_append, List.nil_append] at N2)
            (try dsimp only)
            (k_steps; (repeat' ((refine unstop ?_; (first | ((with_reducible show wpAny _ _ (call (Value.ref 75) _) _ _ _); (refine' Ctr.useGrid (ctr_turned_grid _ _ _ _ _ _ _ _ _ _ _ _ _ _ _) ?k1 ?k2 ?k3 ?k4 ?kS ?k5 ?kd ?ku ?kC ?_; (( (case k1 => first | k_asm | fail "use: below"); (case k2 => first | k_asm | fail "use: the frame"); (case k3 => first | k_asm | fail "use: the part"); (case k4 => first | k_asm | fail "use: the ledger"); (case kS => first | (((repeat (refine sub_cons ?_ ?_; k_mem)); exact sub_nil)) | fail "use: what is handed in"); (case k5 => first | k_asm | fail "use: the top"); (case kd => first | k_room | fail "use: room"); (case ku => first | k_units | fail "use: units"); (case kC => first | assumption | fail "use: the table"))); ((intro g9 q9 p9 n0 n1 n2 t0 t1 t2 t3 h9 tk9 F9 N9 og9 o09 o19 e3 e4 e5; (try dsimp only); (try k_fold))))) | ((with_reducible show wpAny _ _ (call (Value.ref 122) _) _ _ _); (refine' Ctr.useR (ctr_less_ways _ _ _ _ _ _ _ _ _ _ _ ?a1 ?a2) ?k1 ?k2 ?k3 ?k4 ?kS ?k5 ?kd ?ku ?kC ?_; (( (case k1 => first | k_asm | fail "use: below"); (case k2 => first | k_asm | fail "use: the frame"); (case k3 => first | k_asm | fail "use: the part"); (case k4 => first | k_asm | fail "use: the ledger"); (case kS => first | (((repeat (refine sub_cons ?_ ?_; k_mem)); exact sub_nil)) | fail "use: what is handed in"); (case k5 => first | k_asm | fail "use: the top"); (case kd => first | k_room | fail "use: room"); (case ku => first | k_units | fail "use: units"); (case kC => first | assumption | fail "use: the table"))); (case a1 => with_reducible assumption); (case a2 => with_reducible assumption); intro v9 h9 tk9 ad9 F9 N9 P9 R9; obtain ⟨z9, y9, ⟨D9, n9, t9, u9, e1, e2⟩, o1, o2⟩ := R9; subst e1; subst e2; replace P9 := off1_of P9; (try simp only [List.cons_append, List.nil_append] at N9); (try dsimp only); (try k_fold))) | ((with_reducible show wpAny _ _ (call (Value.ref 198) _) _ _ _); (refine' Ctr.useR (ctr_grids_hit _ _ _ _ _ _ _ _ _ _ _ ?hw ?da ?db ?ea ?eb) ?k1 ?k2 ?k3 ?k4 ?kS ?k5 ?kd ?ku ?kC ?_; (( (case k1 => first | k_asm | fail "use: below"); (case k2 => first | k_asm | fail "use: the frame"); (case k3 => first | k_asm | fail "use: the part"); (case k4 => first | k_asm | fail "use: the ledger"); (case kS => first | (((repeat (refine sub_cons ?_ ?_; k_mem)); exact sub_nil)) | fail "use: what is handed in"); (case k5 => first | k_asm | fail "use: the top"); (case kd => first | k_room | fail "use: room"); (case ku => first | k_units | fail "use: units"); (case kC => first | assumption | fail "use: the table"))); (case hw => with_reducible assumption); (case da => with_reducible assumption); (case db => with_reducible assumption); (case ea => with_reducible assumption); (case eb => with_reducible assumption); intro v9 h9 tk9 ad9 F9 N9 P9 R9; obtain ⟨G9, i9, n9, g9, q0, q1, n0, n1, n2, t0, t1, t2, t3, e1, N8⟩ := grids_last R9 N9; clear N9 P9 R9; subst e1; (try dsimp only); (try k_fold))) | ((with_reducible show wpAny _ _ (call (Value.ref 184) _) _ _ _); (refine' Ctr.useTup (ctr_law_fraction _ _ _ _ _ _ _ _ _ _ _ _ _ _ _) ?k1 ?k2 ?k3 ?k4 ?kS ?k5 ?kd ?ku ?kC ?_; (( (case k1 => first | k_asm | fail "use: below"); (case k2 => first | k_asm | fail "use: the frame"); (case k3 => first | k_asm | fail "use: the part"); (case k4 => first | k_asm | fail "use: the ledger"); (case kS => first | (((repeat (refine sub_cons ?_ ?_; k_mem)); exact sub_nil)) | fail "use: what is handed in"); (case k5 => first | k_asm | fail "use: the top"); (case kd => first | k_room | fail "use: room"); (case ku => first | k_units | fail "use: units"); (case kC => first | assumption | fail "use: the table"))); ((intro D9 n9 t9 u9 h9 tk9 F9 N9 P9; (try dsimp only); (try k_fold))))))); k_steps)))
            (refine unstop ?_)
            (refine' Ctr.useG [] (ctr_law_right _ wy _ _ hw6 (ctr_grids_new _ wy _ hw6 (by omega))) ?k1 ?k2 ?k3 ?k4 ?kS ?kO ?kA ?k5 ?kd ?ku ?kC ?_)
            (((case k1 => first | k_asm | fail "use: below"); (case k2 => first | k_asm | fail "use: the frame"); (case k3 => first | k_asm | fail "use: the part"); (case k4 => first | k_asm | fail "use: the ledger"); (case k5 => first | k_asm | fail "use: the top"); (case kd => first | k_room | fail "use: room"); (case ku => first | k_units | fail "use: units"); (case kC => first | assumption | fail "use: the table")))
            (case kS => (((repeat (refine sub_cons ?_ ?_; k_mem)); exact sub_nil)))
            (case kO => exact sub_nil)
            (case kA => exact apt_nil)
            intro v3 h3 tk3 led3 F3 N3 P3 R3
            obtain ⟨rfl, ca3, cb3, oca3, ocb3, va3, vb3, ta3, tb3, rfl, da3, db3, ea3, eb3⟩ := R3
            (simp only [List.cons_append, List.nil_append] at N3)
            (try dsimp only)
            (k_steps; (repeat' ((refine unstop ?_; (first | ((with_reducible show wpAny _ _ (call (Value.ref 75) _) _ _ _); (refine' Ctr.useGrid (ctr_turned_grid _ _ _ _ _ _ _ _ _ _ _ _ _ _ _) ?k1 ?k2 ?k3 ?k4 ?kS ?k5 ?kd ?ku ?kC ?_; (( (case k1 => first | k_asm | fail "use: below"); (case k2 => first | k_asm | fail "use: the frame"); (case k3 => first | k_asm | fail "use: the part"); (case k4 => first | k_asm | fail "use: the ledger"); (case kS => first | (((repeat (refine sub_cons ?_ ?_; k_mem)); exact sub_nil)) | fail "use: what is handed in"); (case k5 => first | k_asm | fail "use: the top"); (case kd => first | k_room | fail "use: room"); (case ku => first | k_units | fail "use: units"); (case kC => first | assumption | fail "use: the table"))); ((intro g9 q9 p9 n0 n1 n2 t0 t1 t2 t3 h9 tk9 F9 N9 og9 o09 o19 e3 e4 e5; (try dsimp only); (try k_fold))))) | ((with_reducible show wpAny _ _ (call (Value.ref 122) _) _ _ _); (refine' Ctr.useR (ctr_less_ways _ _ _ _ _ _ _ _ _ _ _ ?a1 ?a2) ?k1 ?k2 ?k3 ?k4 ?kS ?k5 ?kd ?ku ?kC ?_; (( (case k1 => first | k_asm | fail "use: below"); (case k2 => first | k_asm | fail "use: the frame"); (case k3 => first | k_asm | fail "use: the part"); (case k4 => first | k_asm | fail "use: the ledger"); (case kS => first | (((repeat (refine sub_cons ?_ ?_; k_mem)); exact sub_nil)) | fail "use: what is handed in"); (case k5 => first | k_asm | fail "use: the top"); (case kd => first | k_room | fail "use: room"); (case ku => first | k_units | fail "use: units"); (case kC => first | assumption | fail "use: the table"))); (case a1 => with_reducible assumption); (case a2 => with_reducible assumption); intro v9 h9 tk9 ad9 F9 N9 P9 R9; obtain ⟨z9, y9, ⟨D9, n9, t9, u9, e1, e2⟩, o1, o2⟩ := R9; subst e1; subst e2; replace P9 := off1_of P9; (try simp only [List.cons_append, List.nil_append] at N9); (try dsimp only); (try k_fold))) | ((with_reducible show wpAny _ _ (call (Value.ref 198) _) _ _ _); (refine' Ctr.useR (ctr_grids_hit _ _ _ _ _ _ _ _ _ _ _ ?hw ?da ?db ?ea ?eb) ?k1 ?k2 ?k3 ?k4 ?kS ?k5 ?kd ?ku ?kC ?_; (( (case k1 => first | k_asm | fail "use: below"); (case k2 => first | k_asm | fail "use: the frame"); (case k3 => first | k_asm | fail "use: the part"); (case k4 => first | k_asm | fail "use: the ledger"); (case kS => first | (((repeat (refine sub_cons ?_ ?_; k_mem)); exact sub_nil)) | fail "use: what is handed in"); (case k5 => first | k_asm | fail "use: the top"); (case kd => first | k_room | fail "use: room"); (case ku => first | k_units | fail "use: units"); (case kC => first | assumption | fail "use: the table"))); (case hw => with_reducible assumption); (case da => with_reducible assumption); (case db => with_reducible assumption); (case ea => with_reducible assumption); (case eb => with_reducible assumption); intro v9 h9 tk9 ad9 F9 N9 P9 R9; obtain ⟨G9, i9, n9, g9, q0, q1, n0, n1, n2, t0, t1, t2, t3, e1, N8⟩ := grids_last R9 N9; clear N9 P9 R9; subst e1; (try dsimp only); (try k_fold))) | ((with_reducible show wpAny _ _ (call (Value.ref 184) _) _ _ _); (refine' Ctr.useTup (ctr_law_fraction _ _ _ _ _ _ _ _ _ _ _ _ _ _ _) ?k1 ?k2 ?k3 ?k4 ?kS ?k5 ?kd ?ku ?kC ?_; (( (case k1 => first | k_asm | fail "use: below"); (case k2 => first | k_asm | fail "use: the frame"); (case k3 => first | k_asm | fail "use: the part"); (case k4 => first | k_asm | fail "use: the ledger"); (case kS => first | (((repeat (refine sub_cons ?_ ?_; k_mem)); exact sub_nil)) | fail "use: what is handed in"); (case k5 => first | k_asm | fail "use: the top"); (case kd => first | k_room | fail "use: room"); (case ku => first | k_units | fail "use: units"); (case kC => first | assumption | fail "use: the table"))); ((intro D9 n9 t9 u9 h9 tk9 F9 N9 P9; (try dsimp only); (try k_fold))))))); k_steps)))
            (refine unstop ?_)
            (refine' Ctr.useG [] (ctr_law_right _ wo _ _ ho6 (grids_hit_new _ wo _ _ _ _ _ _ _ _ _ ho6 da3 db3 ea3 eb3)) ?k1 ?k2 ?k3 ?k4 ?kS ?kO ?kA ?k5 ?kd ?ku ?kC ?_)
            (((case k1 => first | k_asm | fail "use: below"); (case k2 => first | k_asm | fail "use: the frame"); (case k3 => first | k_asm | fail "use: the part"); (case k4 => first | k_asm | fail "use: the ledger"); (case k5 => first | k_asm | fail "use: the top"); (case kd => first | k_room | fail "use: room"); (case ku => first | k_units | fail "use: units"); (case kC => first | assumption | fail "use: the table")))
            (case kS => (((repeat (refine sub_cons ?_ ?_; k_mem)); exact sub_nil)))
            (case kO => exact sub_nil)
            (case kA => exact apt_nil)
            intro v4 h4 tk4 led4 F4 N4 P4 R4
            obtain ⟨rfl, ca4, cb4, oca4, ocb4, va4, vb4, ta4, tb4, rfl, da4, db4, ea4, eb4⟩ := R4
            (simp only [List.cons_append, List.nil_append] at N4)
            (try dsimp only)
            (obtain ⟨z5, z6⟩ := txt_small1 hw6)
            (obtain ⟨z7, z8⟩ := txt_small1 ho6)
            have hm6 := sw_len hw6
            have hr6 := rev_len hw6
            obtain ⟨w1, w2, w3, w4, w5, w6, w7, w8⟩ := of_decide_eq_true (swap_of hw6)
            (k_steps; (repeat' ((refine unstop ?_; (first | ((with_reducible show wpAny _ _ (call (Value.ref 75) _) _ _ _); (refine' Ctr.useGrid (ctr_turned_grid _ _ _ _ _ _ _ _ _ _ _ _ _ _ _) ?k1 ?k2 ?k3 ?k4 ?kS ?k5 ?kd ?ku ?kC ?_; (( (case k1 => first | k_asm | fail "use: below"); (case k2 => first | k_asm | fail "use: the frame"); (case k3 => first | k_asm | fail "use: the part"); (case k4 => first | k_asm | fail "use: the ledger"); (case kS => first | (((repeat (refine sub_cons ?_ ?_; k_mem)); exact sub_nil)) | fail "use: what is handed in"); (case k5 => first | k_asm | fail "use: the top"); (case kd => first | k_room | fail "use: room"); (case ku => first | k_units | fail "use: units"); (case kC => first | assumption | fail "use: the table"))); ((intro g9 q9 p9 n0 n1 n2 t0 t1 t2 t3 h9 tk9 F9 N9 og9 o09 o19 e3 e4 e5; (try dsimp only); (try k_fold))))) | ((with_reducible show wpAny _ _ (call (Value.ref 122) _) _ _ _); (refine' Ctr.useR (ctr_less_ways _ _ _ _ _ _ _ _ _ _ _ ?a1 ?a2) ?k1 ?k2 ?k3 ?k4 ?kS ?k5 ?kd ?ku ?kC ?_; (( (case k1 => first | k_asm | fail "use: below"); (case k2 => first | k_asm | fail "use: the frame"); (case k3 => first | k_asm | fail "use: the part"); (case k4 => first | k_asm | fail "use: the ledger"); (case kS => first | (((repeat (refine sub_cons ?_ ?_; k_mem)); exact sub_nil)) | fail "use: what is handed in"); (case k5 => first | k_asm | fail "use: the top"); (case kd => first | k_room | fail "use: room"); (case ku => first | k_units | fail "use: units"); (case kC => first | assumption | fail "use: the table"))); (case a1 => with_reducible assumption); (case a2 => with_reducible assumption); intro v9 h9 tk9 ad9 F9 N9 P9 R9; obtain ⟨z9, y9, ⟨D9, n9, t9, u9, e1, e2⟩, o1, o2⟩ := R9; subst e1; subst e2; replace P9 := off1_of P9; (try simp only [List.cons_append, List.nil_append] at N9); (try dsimp only); (try k_fold))) | ((with_reducible show wpAny _ _ (call (Value.ref 198) _) _ _ _); (refine' Ctr.useR (ctr_grids_hit _ _ _ _ _ _ _ _ _ _ _ ?hw ?da ?db ?ea ?eb) ?k1 ?k2 ?k3 ?k4 ?kS ?k5 ?kd ?ku ?kC ?_; (( (case k1 => first | k_asm | fail "use: below"); (case k2 => first | k_asm | fail "use: the frame"); (case k3 => first | k_asm | fail "use: the part"); (case k4 => first | k_asm | fail "use: the ledger"); (case kS => first | (((repeat (refine sub_cons ?_ ?_; k_mem)); exact sub_nil)) | fail "use: what is handed in"); (case k5 => first | k_asm | fail "use: the top"); (case kd => first | k_room | fail "use: room"); (case ku => first | k_units | fail "use: units"); (case kC => first | assumption | fail "use: the table"))); (case hw => with_reducible assumption); (case da => with_reducible assumption); (case db => with_reducible assumption); (case ea => with_reducible assumption); (case eb => with_reducible assumption); intro v9 h9 tk9 ad9 F9 N9 P9 R9; obtain ⟨G9, i9, n9, g9, q0, q1, n0, n1, n2, t0, t1, t2, t3, e1, N8⟩ := grids_last R9 N9; clear N9 P9 R9; subst e1; (try dsimp only); (try k_fold))) | ((with_reducible show wpAny _ _ (call (Value.ref 184) _) _ _ _); (refine' Ctr.useTup (ctr_law_fraction _ _ _ _ _ _ _ _ _ _ _ _ _ _ _) ?k1 ?k2 ?k3 ?k4 ?kS ?k5 ?kd ?ku ?kC ?_; (( (case k1 => first | k_asm | fail "use: below"); (case k2 => first | k_asm | fail "use: the frame"); (case k3 => first | k_asm | fail "use: the part"); (case k4 => first | k_asm | fail "use: the ledger"); (case kS => first | (((repeat (refine sub_cons ?_ ?_; k_mem)); exact sub_nil)) | fail "use: what is handed in"); (case k5 => first | k_asm | fail "use: the top"); (case kd => first | k_room | fail "use: room"); (case ku => first | k_units | fail "use: units"); (case kC => first | assumption | fail "use: the table"))); ((intro D9 n9 t9 u9 h9 tk9 F9 N9 P9; (try dsimp only); (try k_fold))))))); k_steps)))
            (refine swap_src hw6 rfl (by k_asm) (by k_asm) ?_ ?_)
            (· intro b u I oI C oC D ys m₂ hp tk E' hC9 hx9 F N
               cases b
               · (k_steps; (repeat' ((refine unstop ?_; (first | ((with_reducible show wpAny _ _ (call (Value.ref 75) _) _ _ _); (refine' Ctr.useGrid (ctr_turned_grid _ _ _ _ _ _ _ _ _ _ _ _ _ _ _) ?k1 ?k2 ?k3 ?k4 ?kS ?k5 ?kd ?ku ?kC ?_; (( (case k1 => first | k_asm | fail "use: below"); (case k2 => first | k_asm | fail "use: the frame"); (case k3 => first | k_asm | fail "use: the part"); (case k4 => first | k_asm | fail "use: the ledger"); (case kS => first | (((repeat (refine sub_cons ?_ ?_; k_mem)); exact sub_nil)) | fail "use: what is handed in"); (case k5 => first | k_asm | fail "use: the top"); (case kd => first | k_room | fail "use: room"); (case ku => first | k_units | fail "use: units"); (case kC => first | assumption | fail "use: the table"))); ((intro g9 q9 p9 n0 n1 n2 t0 t1 t2 t3 h9 tk9 F9 N9 og9 o09 o19 e3 e4 e5; (try dsimp only); (try k_fold))))) | ((with_reducible show wpAny _ _ (call (Value.ref 122) _) _ _ _); (refine' Ctr.useR (ctr_less_ways _ _ _ _ _ _ _ _ _ _ _ ?a1 ?a2) ?k1 ?k2 ?k3 ?k4 ?kS ?k5 ?kd ?ku ?kC ?_; (( (case k1 => first | k_asm | fail "use: below"); (case k2 => first | k_asm | fail "use: the frame"); (case k3 => first | k_asm | fail "use: the part"); (case k4 => first | k_asm | fail "use: the ledger"); (case kS => first | (((repeat (refine sub_cons ?_ ?_; k_mem)); exact sub_nil)) | fail "use: what is handed in"); (case k5 => first | k_asm | fail "use: the top"); (case kd => first | k_room | fail "use: room"); (case ku => first | k_units | fail "use: units"); (case kC => first | assumption | fail "use: the table"))); (case a1 => with_reducible assumption); (case a2 => with_reducible assumption); intro v9 h9 tk9 ad9 F9 N9 P9 R9; obtain ⟨z9, y9, ⟨D9, n9, t9, u9, e1, e2⟩, o1, o2⟩ := R9; subst e1; subst e2; replace P9 := off1_of P9; (try simp only [List.cons_append, List.nil_append] at N9); (try dsimp only); (try k_fold))) | ((with_reducible show wpAny _ _ (call (Value.ref 198) _) _ _ _); (refine' Ctr.useR (ctr_grids_hit _ _ _ _ _ _ _ _ _ _ _ ?hw ?da ?db ?ea ?eb) ?k1 ?k2 ?k3 ?k4 ?kS ?k5 ?kd ?ku ?kC ?_; (( (case k1 => first | k_asm | fail "use: below"); (case k2 => first | k_asm | fail "use: the frame"); (case k3 => first | k_asm | fail "use: the part"); (case k4 => first | k_asm | fail "use: the ledger"); (case kS => first | (((repeat (refine sub_cons ?_ ?_; k_mem)); exact sub_nil)) | fail "use: what is handed in"); (case k5 => first | k_asm | fail "use: the top"); (case kd => first | k_room | fail "use: room"); (case ku => first | k_units | fail "use: units"); (case kC => first | assumption | fail "use: the table"))); (case hw => with_reducible assumption); (case da => with_reducible assumption); (case db => with_reducible assumption); (case ea => with_reducible assumption); (case eb => with_reducible assumption); intro v9 h9 tk9 ad9 F9 N9 P9 R9; obtain ⟨G9, i9, n9, g9, q0, q1, n0, n1, n2, t0, t1, t2, t3, e1, N8⟩ := grids_last R9 N9; clear N9 P9 R9; subst e1; (try dsimp only); (try k_fold))) | ((with_reducible show wpAny _ _ (call (Value.ref 184) _) _ _ _); (refine' Ctr.useTup (ctr_law_fraction _ _ _ _ _ _ _ _ _ _ _ _ _ _ _) ?k1 ?k2 ?k3 ?k4 ?kS ?k5 ?kd ?ku ?kC ?_; (( (case k1 => first | k_asm | fail "use: below"); (case k2 => first | k_asm | fail "use: the frame"); (case k3 => first | k_asm | fail "use: the part"); (case k4 => first | k_asm | fail "use: the ledger"); (case kS => first | (((repeat (refine sub_cons ?_ ?_; k_mem)); exact sub_nil)) | fail "use: what is handed in"); (case k5 => first | k_asm | fail "use: the top"); (case kd => first | k_room | fail "use: room"); (case ku => first | k_units | fail "use: units"); (case kC => first | assumption | fail "use: the table"))); ((intro D9 n9 t9 u9 h9 tk9 F9 N9 P9; (try dsimp only); (try k_fold))))))); k_steps)))
                 exact swap_end (by decide) (by k_asm) (by k_asm)
               · (k_steps; (repeat' ((refine unstop ?_; (first | ((with_reducible show wpAny _ _ (call (Value.ref 75) _) _ _ _); (refine' Ctr.useGrid (ctr_turned_grid _ _ _ _ _ _ _ _ _ _ _ _ _ _ _) ?k1 ?k2 ?k3 ?k4 ?kS ?k5 ?kd ?ku ?kC ?_; (( (case k1 => first | k_asm | fail "use: below"); (case k2 => first | k_asm | fail "use: the frame"); (case k3 => first | k_asm | fail "use: the part"); (case k4 => first | k_asm | fail "use: the ledger"); (case kS => first | (((repeat (refine sub_cons ?_ ?_; k_mem)); exact sub_nil)) | fail "use: what is handed in"); (case k5 => first | k_asm | fail "use: the top"); (case kd => first | k_room | fail "use: room"); (case ku => first | k_units | fail "use: units"); (case kC => first | assumption | fail "use: the table"))); ((intro g9 q9 p9 n0 n1 n2 t0 t1 t2 t3 h9 tk9 F9 N9 og9 o09 o19 e3 e4 e5; (try dsimp only); (try k_fold))))) | ((with_reducible show wpAny _ _ (call (Value.ref 122) _) _ _ _); (refine' Ctr.useR (ctr_less_ways _ _ _ _ _ _ _ _ _ _ _ ?a1 ?a2) ?k1 ?k2 ?k3 ?k4 ?kS ?k5 ?kd ?ku ?kC ?_; (( (case k1 => first | k_asm | fail "use: below"); (case k2 => first | k_asm | fail "use: the frame"); (case k3 => first | k_asm | fail "use: the part"); (case k4 => first | k_asm | fail "use: the ledger"); (case kS => first | (((repeat (refine sub_cons ?_ ?_; k_mem)); exact sub_nil)) | fail "use: what is handed in"); (case k5 => first | k_asm | fail "use: the top"); (case kd => first | k_room | fail "use: room"); (case ku => first | k_units | fail "use: units"); (case kC => first | assumption | fail "use: the table"))); (case a1 => with_reducible assumption); (case a2 => with_reducible assumption); intro v9 h9 tk9 ad9 F9 N9 P9 R9; obtain ⟨z9, y9, ⟨D9, n9, t9, u9, e1, e2⟩, o1, o2⟩ := R9; subst e1; subst e2; replace P9 := off1_of P9; (try simp only [List.cons_append, List.nil_append] at N9); (try dsimp only); (try k_fold))) | ((with_reducible show wpAny _ _ (call (Value.ref 198) _) _ _ _); (refine' Ctr.useR (ctr_grids_hit _ _ _ _ _ _ _ _ _ _ _ ?hw ?da ?db ?ea ?eb) ?k1 ?k2 ?k3 ?k4 ?kS ?k5 ?kd ?ku ?kC ?_; (( (case k1 => first | k_asm | fail "use: below"); (case k2 => first | k_asm | fail "use: the frame"); (case k3 => first | k_asm | fail "use: the part"); (case k4 => first | k_asm | fail "use: the ledger"); (case kS => first | (((repeat (refine sub_cons ?_ ?_; k_mem)); exact sub_nil)) | fail "use: what is handed in"); (case k5 => first | k_asm | fail "use: the top"); (case kd => first | k_room | fail "use: room"); (case ku => first | k_units | fail "use: units"); (case kC => first | assumption | fail "use: the table"))); (case hw => with_reducible assumption); (case da => with_reducible assumption); (case db => with_reducible assumption); (case ea => with_reducible assumption); (case eb => with_reducible assumption); intro v9 h9 tk9 ad9 F9 N9 P9 R9; obtain ⟨G9, i9, n9, g9, q0, q1, n0, n1, n2, t0, t1, t2, t3, e1, N8⟩ := grids_last R9 N9; clear N9 P9 R9; subst e1; (try dsimp only); (try k_fold))) | ((with_reducible show wpAny _ _ (call (Value.ref 184) _) _ _ _); (refine' Ctr.useTup (ctr_law_fraction _ _ _ _ _ _ _ _ _ _ _ _ _ _ _) ?k1 ?k2 ?k3 ?k4 ?kS ?k5 ?kd ?ku ?kC ?_; (( (case k1 => first | k_asm | fail "use: below"); (case k2 => first | k_asm | fail "use: the frame"); (case k3 => first | k_asm | fail "use: the part"); (case k4 => first | k_asm | fail "use: the ledger"); (case kS => first | (((repeat (refine sub_cons ?_ ?_; k_mem)); exact sub_nil)) | fail "use: what is handed in"); (case k5 => first | k_asm | fail "use: the top"); (case kd => first | k_room | fail "use: room"); (case ku => first | k_units | fail "use: units"); (case kC => first | assumption | fail "use: the table"))); ((intro D9 n9 t9 u9 h9 tk9 F9 N9 P9; (try dsimp only); (try k_fold))))))); k_steps)))
                 exact swap_end (by decide) (by k_asm) (by k_asm))
            intro ys D hp tk hy F N oD
            (try dsimp only)
            (k_steps; (repeat' ((refine unstop ?_; (first | ((with_reducible show wpAny _ _ (call (Value.ref 75) _) _ _ _); (refine' Ctr.useGrid (ctr_turned_grid _ _ _ _ _ _ _ _ _ _ _ _ _ _ _) ?k1 ?k2 ?k3 ?k4 ?kS ?k5 ?kd ?ku ?kC ?_; (( (case k1 => first | k_asm | fail "use: below"); (case k2 => first | k_asm | fail "use: the frame"); (case k3 => first | k_asm | fail "use: the part"); (case k4 => first | k_asm | fail "use: the ledger"); (case kS => first | (((repeat (refine sub_cons ?_ ?_; k_mem)); exact sub_nil)) | fail "use: what is handed in"); (case k5 => first | k_asm | fail "use: the top"); (case kd => first | k_room | fail "use: room"); (case ku => first | k_units | fail "use: units"); (case kC => first | assumption | fail "use: the table"))); ((intro g9 q9 p9 n0 n1 n2 t0 t1 t2 t3 h9 tk9 F9 N9 og9 o09 o19 e3 e4 e5; (try dsimp only); (try k_fold))))) | ((with_reducible show wpAny _ _ (call (Value.ref 122) _) _ _ _); (refine' Ctr.useR (ctr_less_ways _ _ _ _ _ _ _ _ _ _ _ ?a1 ?a2) ?k1 ?k2 ?k3 ?k4 ?kS ?k5 ?kd ?ku ?kC ?_; (( (case k1 => first | k_asm | fail "use: below"); (case k2 => first | k_asm | fail "use: the frame"); (case k3 => first | k_asm | fail "use: the part"); (case k4 => first | k_asm | fail "use: the ledger"); (case kS => first | (((repeat (refine sub_cons ?_ ?_; k_mem)); exact sub_nil)) | fail "use: what is handed in"); (case k5 => first | k_asm | fail "use: the top"); (case kd => first | k_room | fail "use: room"); (case ku => first | k_units | fail "use: units"); (case kC => first | assumption | fail "use: the table"))); (case a1 => with_reducible assumption); (case a2 => with_reducible assumption); intro v9 h9 tk9 ad9 F9 N9 P9 R9; obtain ⟨z9, y9, ⟨D9, n9, t9, u9, e1, e2⟩, o1, o2⟩ := R9; subst e1; subst e2; replace P9 := off1_of P9; (try simp only [List.cons_append, List.nil_append] at N9); (try dsimp only); (try k_fold))) | ((with_reducible show wpAny _ _ (call (Value.ref 198) _) _ _ _); (refine' Ctr.useR (ctr_grids_hit _ _ _ _ _ _ _ _ _ _ _ ?hw ?da ?db ?ea ?eb) ?k1 ?k2 ?k3 ?k4 ?kS ?k5 ?kd ?ku ?kC ?_; (( (case k1 => first | k_asm | fail "use: below"); (case k2 => first | k_asm | fail "use: the frame"); (case k3 => first | k_asm | fail "use: the part"); (case k4 => first | k_asm | fail "use: the ledger"); (case kS => first | (((repeat (refine sub_cons ?_ ?_; k_mem)); exact sub_nil)) | fail "use: what is handed in"); (case k5 => first | k_asm | fail "use: the top"); (case kd => first | k_room | fail "use: room"); (case ku => first | k_units | fail "use: units"); (case kC => first | assumption | fail "use: the table"))); (case hw => with_reducible assumption); (case da => with_reducible assumption); (case db => with_reducible assumption); (case ea => with_reducible assumption); (case eb => with_reducible assumption); intro v9 h9 tk9 ad9 F9 N9 P9 R9; obtain ⟨G9, i9, n9, g9, q0, q1, n0, n1, n2, t0, t1, t2, t3, e1, N8⟩ := grids_last R9 N9; clear N9 P9 R9; subst e1; (try dsimp only); (try k_fold))) | ((with_reducible show wpAny _ _ (call (Value.ref 184) _) _ _ _); (refine' Ctr.useTup (ctr_law_fraction _ _ _ _ _ _ _ _ _ _ _ _ _ _ _) ?k1 ?k2 ?k3 ?k4 ?kS ?k5 ?kd ?ku ?kC ?_; (( (case k1 => first | k_asm | fail "use: below"); (case k2 => first | k_asm | fail "use: the frame"); (case k3 => first | k_asm | fail "use: the part"); (case k4 => first | k_asm | fail "use: the ledger"); (case kS => first | (((repeat (refine sub_cons ?_ ?_; k_mem)); exact sub_nil)) | fail "use: what is handed in"); (case k5 => first | k_asm | fail "use: the top"); (case kd => first | k_room | fail "use: room"); (case ku => first | k_units | fail "use: units"); (case kC => first | assumption | fail "use: the table"))); ((intro D9 n9 t9 u9 h9 tk9 F9 N9 P9; (try dsimp only); (try k_fold))))))); k_steps)))
            (refine unstop ?_)
            (refine join_list (News.isList (by k_asm) (by k_mem)) hy (join_ok (by simpa using hw6)) ?_)
            (rw [join_steps])
            intro t7 k7
            (k_steps; (repeat' ((refine unstop ?_; (first | ((with_reducible show wpAny _ _ (call (Value.ref 75) _) _ _ _); (refine' Ctr.useGrid (ctr_turned_grid _ _ _ _ _ _ _ _ _ _ _ _ _ _ _) ?k1 ?k2 ?k3 ?k4 ?kS ?k5 ?kd ?ku ?kC ?_; (( (case k1 => first | k_asm | fail "use: below"); (case k2 => first | k_asm | fail "use: the frame"); (case k3 => first | k_asm | fail "use: the part"); (case k4 => first | k_asm | fail "use: the ledger"); (case kS => first | (((repeat (refine sub_cons ?_ ?_; k_mem)); exact sub_nil)) | fail "use: what is handed in"); (case k5 => first | k_asm | fail "use: the top"); (case kd => first | k_room | fail "use: room"); (case ku => first | k_units | fail "use: units"); (case kC => first | assumption | fail "use: the table"))); ((intro g9 q9 p9 n0 n1 n2 t0 t1 t2 t3 h9 tk9 F9 N9 og9 o09 o19 e3 e4 e5; (try dsimp only); (try k_fold))))) | ((with_reducible show wpAny _ _ (call (Value.ref 122) _) _ _ _); (refine' Ctr.useR (ctr_less_ways _ _ _ _ _ _ _ _ _ _ _ ?a1 ?a2) ?k1 ?k2 ?k3 ?k4 ?kS ?k5 ?kd ?ku ?kC ?_; (( (case k1 => first | k_asm | fail "use: below"); (case k2 => first | k_asm | fail "use: the frame"); (case k3 => first | k_asm | fail "use: the part"); (case k4 => first | k_asm | fail "use: the ledger"); (case kS => first | (((repeat (refine sub_cons ?_ ?_; k_mem)); exact sub_nil)) | fail "use: what is handed in"); (case k5 => first | k_asm | fail "use: the top"); (case kd => first | k_room | fail "use: room"); (case ku => first | k_units | fail "use: units"); (case kC => first | assumption | fail "use: the table"))); (case a1 => with_reducible assumption); (case a2 => with_reducible assumption); intro v9 h9 tk9 ad9 F9 N9 P9 R9; obtain ⟨z9, y9, ⟨D9, n9, t9, u9, e1, e2⟩, o1, o2⟩ := R9; subst e1; subst e2; replace P9 := off1_of P9; (try simp only [List.cons_append, List.nil_append] at N9); (try dsimp only); (try k_fold))) | ((with_reducible show wpAny _ _ (call (Value.ref 198) _) _ _ _); (refine' Ctr.useR (ctr_grids_hit _ _ _ _ _ _ _ _ _ _ _ ?hw ?da ?db ?ea ?eb) ?k1 ?k2 ?k3 ?k4 ?kS ?k5 ?kd ?ku ?kC ?_; (( (case k1 => first | k_asm | fail "use: below"); (case k2 => first | k_asm | fail "use: the frame"); (case k3 => first | k_asm | fail "use: the part"); (case k4 => first | k_asm | fail "use: the ledger"); (case kS => first | (((repeat (refine sub_cons ?_ ?_; k_mem)); exact sub_nil)) | fail "use: what is handed in"); (case k5 => first | k_asm | fail "use: the top"); (case kd => first | k_room | fail "use: room"); (case ku => first | k_units | fail "use: units"); (case kC => first | assumption | fail "use: the table"))); (case hw => with_reducible assumption); (case da => with_reducible assumption); (case db => with_reducible assumption); (case ea => with_reducible assumption); (case eb => with_reducible assumption); intro v9 h9 tk9 ad9 F9 N9 P9 R9; obtain ⟨G9, i9, n9, g9, q0, q1, n0, n1, n2, t0, t1, t2, t3, e1, N8⟩ := grids_last R9 N9; clear N9 P9 R9; subst e1; (try dsimp only); (try k_fold))) | ((with_reducible show wpAny _ _ (call (Value.ref 184) _) _ _ _); (refine' Ctr.useTup (ctr_law_fraction _ _ _ _ _ _ _ _ _ _ _ _ _ _ _) ?k1 ?k2 ?k3 ?k4 ?kS ?k5 ?kd ?ku ?kC ?_; (( (case k1 => first | k_asm | fail "use: below"); (case k2 => first | k_asm | fail "use: the frame"); (case k3 => first | k_asm | fail "use: the part"); (case k4 => first | k_asm | fail "use: the ledger"); (case kS => first | (((repeat (refine sub_cons ?_ ?_; k_mem)); exact sub_nil)) | fail "use: what is handed in"); (case k5 => first | k_asm | fail "use: the top"); (case kd => first | k_room | fail "use: room"); (case ku => first | k_units | fail "use: units"); (case kC => first | assumption | fail "use: the table"))); ((intro D9 n9 t9 u9 h9 tk9 F9 N9 P9; (try dsimp only); (try k_fold))))))); k_steps)))
            (refine unstop ?_)
            (k_dflt (refine eq_dataH (by ked_read) (by ked_read) (by ked_shaped) (by ked_shaped) (by ke_room) ?_))
            (rw [w5, w6, w7, w8, grid_eqv])
            clear w1 w2 w3 w4 w5 w6 w7 w8 hm6 hr6 z5 z6 z7 z8 hw3 hw6 ho3 ho6 hs1 hs2 hs3 hs4
            (k_steps; (repeat' ((refine unstop ?_; (first | ((with_reducible show wpAny _ _ (call (Value.ref 75) _) _ _ _); (refine' Ctr.useGrid (ctr_turned_grid _ _ _ _ _ _ _ _ _ _ _ _ _ _ _) ?k1 ?k2 ?k3 ?k4 ?kS ?k5 ?kd ?ku ?kC ?_; (( (case k1 => first | k_asm | fail "use: below"); (case k2 => first | k_asm | fail "use: the frame"); (case k3 => first | k_asm | fail "use: the part"); (case k4 => first | k_asm | fail "use: the ledger"); (case kS => first | (((repeat (refine sub_cons ?_ ?_; k_mem)); exact sub_nil)) | fail "use: what is handed in"); (case k5 => first | k_asm | fail "use: the top"); (case kd => first | k_room | fail "use: room"); (case ku => first | k_units | fail "use: units"); (case kC => first | assumption | fail "use: the table"))); ((intro g9 q9 p9 n0 n1 n2 t0 t1 t2 t3 h9 tk9 F9 N9 og9 o09 o19 e3 e4 e5; (try dsimp only); (try k_fold))))) | ((with_reducible show wpAny _ _ (call (Value.ref 122) _) _ _ _); (refine' Ctr.useR (ctr_less_ways _ _ _ _ _ _ _ _ _ _ _ ?a1 ?a2) ?k1 ?k2 ?k3 ?k4 ?kS ?k5 ?kd ?ku ?kC ?_; (( (case k1 => first | k_asm | fail "use: below"); (case k2 => first | k_asm | fail "use: the frame"); (case k3 => first | k_asm | fail "use: the part"); (case k4 => first | k_asm | fail "use: the ledger"); (case kS => first | (((repeat (refine sub_cons ?_ ?_; k_mem)); exact sub_nil)) | fail "use: what is handed in"); (case k5 => first | k_asm | fail "use: the top"); (case kd => first | k_room | fail "use: room"); (case ku => first | k_units | fail "use: units"); (case kC => first | assumption | fail "use: the table"))); (case a1 => with_reducible assumption); (case a2 => with_reducible assumption); intro v9 h9 tk9 ad9 F9 N9 P9 R9; obtain ⟨z9, y9, ⟨D9, n9, t9, u9, e1, e2⟩, o1, o2⟩ := R9; subst e1; subst e2; replace P9 := off1_of P9; (try simp only [List.cons_append, List.nil_append] at N9); (try dsimp only); (try k_fold))) | ((with_reducible show wpAny _ _ (call (Value.ref 198) _) _ _ _); (refine' Ctr.useR (ctr_grids_hit _ _ _ _ _ _ _ _ _ _ _ ?hw ?da ?db ?ea ?eb) ?k1 ?k2 ?k3 ?k4 ?kS ?k5 ?kd ?ku ?kC ?_; (( (case k1 => first | k_asm | fail "use: below"); (case k2 => first | k_asm | fail "use: the frame"); (case k3 => first | k_asm | fail "use: the part"); (case k4 => first | k_asm | fail "use: the ledger"); (case kS => first | (((repeat (refine sub_cons ?_ ?_; k_mem)); exact sub_nil)) | fail "use: what is handed in"); (case k5 => first | k_asm | fail "use: the top"); (case kd => first | k_room | fail "use: room"); (case ku => first | k_units | fail "use: units"); (case kC => first | assumption | fail "use: the table"))); (case hw => with_reducible assumption); (case da => with_reducible assumption); (case db => with_reducible assumption); (case ea => with_reducible assumption); (case eb => with_reducible assumption); intro v9 h9 tk9 ad9 F9 N9 P9 R9; obtain ⟨G9, i9, n9, g9, q0, q1, n0, n1, n2, t0, t1, t2, t3, e1, N8⟩ := grids_last R9 N9; clear N9 P9 R9; subst e1; (try dsimp only); (try k_fold))) | ((with_reducible show wpAny _ _ (call (Value.ref 184) _) _ _ _); (refine' Ctr.useTup (ctr_law_fraction _ _ _ _ _ _ _ _ _ _ _ _ _ _ _) ?k1 ?k2 ?k3 ?k4 ?kS ?k5 ?kd ?ku ?kC ?_; (( (case k1 => first | k_asm | fail "use: below"); (case k2 => first | k_asm | fail "use: the frame"); (case k3 => first | k_asm | fail "use: the part"); (case k4 => first | k_asm | fail "use: the ledger"); (case kS => first | (((repeat (refine sub_cons ?_ ?_; k_mem)); exact sub_nil)) | fail "use: what is handed in"); (case k5 => first | k_asm | fail "use: the top"); (case kd => first | k_room | fail "use: room"); (case ku => first | k_units | fail "use: units"); (case kC => first | assumption | fail "use: the table"))); ((intro D9 n9 t9 u9 h9 tk9 F9 N9 P9; (try dsimp only); (try k_fold))))))); k_steps)))))
end
end
end Mine
theorem PySem.Challenge.cw_xm0031_01_holds : PySem.Challenge.rw_xm0031_01.Holds := by
  exact Mine.law_holds
