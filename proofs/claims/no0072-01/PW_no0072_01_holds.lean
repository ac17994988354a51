import PyProof.Rows.All
import Wide.All
import OpenK.AllK
import Wide.FinOn
import PySem.Challenge.RW_no0072_01
open PySem PySem.W PySem.Calls PyProof.Rows
set_option Elab.async false
set_option maxRecDepth 100000
set_option maxHeartbeats 8000000
namespace Mine
noncomputable def Cln (c : Code) : Prop := ∀ (M : Model) (b : Addr) (p : Pos) (s : Shared), Sem.wp M ⟨c, none, none, [], none⟩ (Builtin.Bytes.exported (.ref b)) (fun r _ _ => r = false) (fun _ _ _ => False) p s
structure CtxC (Γ : Ctx) : Prop where
  here : Cln Γ.code
  below : ∀ q ∈ Γ.below, Cln q.1
noncomputable def wpG {α : Type} (κ : Bool) (M : Model) (A : Around) (t : Sem α) (Q : α → Shared → Prop) (E : Value → Shared → Prop) (s : Shared) : Prop :=
  ∀ Γ p, Γ.In A → (κ = true → CtxC Γ) → Sem.wp M Γ t (fun a _ s' => Q a s') (fun e _ s' => E e s') p s
theorem gThread {prog : Program} {w : World} {t : Sem Fin} {s : Shared} {R : Result → Shared → Prop} (hreg : s.asleep)
    (h : wpG true (model prog w) callerA t (fun fin s' => ∃ f, fin = .done f ∧ (R (.ok f) s' ∧ leftWithCleanup s'.gens = false)) (fun e s' => R (.error e) s' ∧ leftWithCleanup s'.gens = false) s) :
    ∃ n r s' s'', runN (denote table) prog w n s ⟨t, .builtin "claim.caller" {}, default, []⟩ = .halted (outcomeOf r) s' ∧
      schedN (denote table) prog w n (.single s ⟨t, .builtin "claim.caller" {}, default, []⟩) = .halted (outcomeOf r) s' ∧ s'.forget = s''.forget ∧ R r s'' := by
  obtain ⟨n, r, s₁, s₂, hs, hn, hfo, hR⟩ := wp_halts_full (M := model prog w) (R := R) (c := .builtin "claim.caller" {}) (p := default) hreg
    (Sem.wp_mono _ _ t (fun fin p' s' h' => by obtain ⟨f, rfl, hf⟩ := h'; exact hf) (fun _ _ _ h' => h') _ _ (h _ default caller_in fun _ => ⟨fun _ _ _ _ => rfl, fun q hq => nomatch hq⟩))
  exact ⟨n, r, s₂, s₁, hn, hs, hfo, hR⟩
abbrev Walk2 (r : RowW) (YP : World → Heap → Prop) : Prop :=
  ∀ (w : World) (s₀ s₁ : Shared) (mg mb : Str → Option Value) (a : Addr), YP w s₁.heap → (∃ p loose mean, Top p loose mean mg mb s₁.heap) → mg r.name = some (.ref a) → s₁.gens = #[] →
    ∀ (args : List WData) (vals : List Value) (as : List Addr), r.claim.pre args = true → WData.layableAll args = true → ReadsAllW r.records (classAt s₀.heap) s₁.heap vals args as →
      wpG true (model r.prog w) callerA (PySem.call (.ref a) vals) (fun v s' => GoodWG r.claim (classAt s₀.heap) (ExcName.means s₀.heap) args s₁ (.ok (.ret v)) s')
        (fun e s' => GoodWG r.claim (classAt s₀.heap) (ExcName.means s₀.heap) args s₁ (.error e) s') s₁
theorem pinName {b : Bool} {n x : Str} (h : n ∈ (if b = true then [x] else [])) : n = x := by
  cases b with
  | true => exact List.mem_singleton.mp h
  | false => exact nomatch h
theorem openHolds {r : OpenRow} {q : Program} {loose : List Str} {Xt : Shared → Bool} {XP : (Str → Option Value) → Heap → Prop} {α : Type} {Yf : Shared → α} {Ya : World → α} {YP : World → Heap → Prop} {d : DefRec} {kwd : List (Str × Expr)} {N : Nat}
    (left : LeftO r.prog q loose Xt Yf Ya N) (hY : ∀ w s, Yf s = Ya w → YP w s.heap) (hYk : ∀ w h h', YP w h → (∀ b o, h.get? b = some o → h'.get? b = some o) → YP w h')
    (hX : ∀ s, Xt s = true → XP (s.heap.nsMap mainGlobals) s.heap) (hXk : ∀ mg h h', XP mg h → (∀ b o, h.get? b = some o → h'.get? b = some o) → XP mg h')
    (hdef : defOf q r.name = some (d, kwd)) (hp : r.prog.theDef r.name = some (d.params, d.body, d.scope)) (hk : kwWritten? d.params.kwonlyargs d.params.kw_defaults = some kwd) (hRf : ∀ s, Xt s = true → RecFacts r.records s.heap) (hwr : (!r.writes || r.records.isEmpty) = true)
    (k1 : r.wellSaid = true) (ok : (chainsOk q && opensWell r.prog && (frees r.toRowW && r.within.isEmpty)) = true) (hb : r.prog.bare) (hw : r.toRowW.promised)
    (walk : Walk2 r.toRowW YP) : r.Holds := by
  refine ⟨k1, hw, ?_⟩
  obtain ⟨ok, k5⟩ := Bool.and_eq_true_iff.mp ok
  obtain ⟨hch, o1⟩ := Bool.and_eq_true_iff.mp ok
  obtain ⟨k5, k6⟩ := Bool.and_eq_true_iff.mp k5
  obtain ⟨hsame, hu, ha, hap, hm⟩ := frees_parts k5
  refine ⟨⟨hb, o1, by show r.makers.map _ = []; rw [hm]; rfl⟩, hw.witness, fun w => ⟨(left.behind hX hch w).1, fun s' hs' => ?_⟩⟩
  obtain ⟨s₀, hf, hg0, s, hT, hz, hgens, hg, G00, y⟩ := (left.behind (XP := fun mg h => XP mg h ∧ RecFacts r.records h) (fun s hs => ⟨hX s hs, hRf s hs⟩) hch w).2 s' hs'
  have G0 : Ground q loose [] XP w s (s.heap.nsMap mainGlobals) (s.heap.nsMap builtinsNs) s.heap := ⟨G00.T, G00.B, G00.D, G00.TE, G00.TD, G00.W, G00.X.1, G00.cls, G00.has, G00.apart, G00.once, G00.K⟩
  have RF := G00.X.2
  have G : Ground q loose r.records XP w s _ _ s.heap := RF.ground G0
  have hgens : s.gens = #[] := Array.eq_empty_of_size_eq_zero (beq_iff_eq.mp hgens)
  refine ⟨s₀, hf, hg0, s, hT, fun n hn => ?_, RF.1, RF.2.1, fun args hpre hlay ord hord => ?_⟩
  · obtain rfl : n = r.name := pinName hn
    exact pinned_of_view hg G0 hdef hp hk
  obtain ⟨⟨vs, s₁⟩, hlaid⟩ := Option.isSome_iff_exists.mp (layAllW_isSome (P := w.params) (ord := ord) G.has args r.args s (pre_splitW hpre).1)
  have keeps := layAllW_keeps _ _ _ hlaid
  have hal := layAllW_rest _ _ _ hlaid
  obtain ⟨as, hrd, hin, hold⟩ := reads_layAllW hord _ _ _ hlaid hlay s₁.heap (fun _ _ e => e)
  have L : Laid r.records w s s₁ args vs as := ⟨⟨ord, hord, hlaid⟩, hrd, hin, hold, keeps, hal.1.trans hgens, hal.2.2.1⟩
  have G₁ := G.keeps hXk keeps
  obtain ⟨a, _, _, _, _, _, _, h1, _⟩ := G₁.fn hdef
  have run := walk w s s₁ _ _ a (hYk _ _ _ (hY w s y) keeps) ⟨_, _, _, G₁.T⟩ h1 L.gens args vs as hpre hlay L.reads
  have hi := ident_freeW hu ha hap
  have hwi : r.toRowW.claim.within = [] := List.isEmpty_iff.mp k6
  obtain ⟨n, res, s', s'', hrun, hsched, hfo, hcase, hos, hkp⟩ := gThread (prog := r.prog) (w := w) (s := s₁)
    (t := do match ← nsGet mainNs r.name with
      | some f => do ret (← PySem.call f vs)
      | none => unsupported "claim.caller:no-such-global")
    (R := fun res s' => r.toRowW.claim.Ends s args vs s₁ res s' ∧ s'.os = s.os ∧ (r.writes = true → namesKept r.prog r.keeps s.heap s'.heap ∧ ∀ x ∈ r.records, ∀ a, classAt s.heap x.1 = some a → recordClass s'.heap a x.1 (x.2.map (·.1)) = true))
    (Shared.asleep_of_life hal.2.2.2 hz) (fun Γ p hΓ hC => by
      have last : ∀ res s', GoodWG r.toRowW.claim (classAt s.heap) (ExcName.means s.heap) args s₁ res s' →
          ((r.toRowW.claim.Ends s args vs s₁ res s' ∧ s'.os = s.os ∧ (r.writes = true → namesKept r.prog r.keeps s.heap s'.heap ∧ ∀ x ∈ r.records, ∀ a, classAt s.heap x.1 = some a → recordClass s'.heap a x.1 (x.2.map (·.1)) = true)) ∧ leftWithCleanup s'.gens = false) := fun res s' gd => by
        have z := gd.laid (c := r.toRowW.claim) hsame hwi hi L
        exact ⟨⟨z.1, z.2.1, fun q => ⟨namesKept_of hT hg _ keeps gd.2.1.old, noTable hwr q⟩⟩, leftWithCleanup_false_of_bare z.2.2⟩
      show Sem.wp _ Γ (nsGet mainGlobals r.name >>= _) _ _ p s₁
      rw [Sem.wp_bind', Sem.wp_nsGet _ _ _ _ _ G₁.T.g, (defOf_name hdef ▸ h1 : (s.heap.nsMap mainGlobals) r.name = some (.ref a))]
      show Sem.wp _ Γ (PySem.call (.ref a) vs >>= _) _ _ p s₁
      rw [Sem.wp_bind']
      exact Sem.wp_mono _ _ _ (fun v p' s' g => ⟨_, rfl, last _ _ g⟩) (fun e p' s' g => last _ _ g) _ _ (run Γ p hΓ hC))
  obtain ⟨eh, _, _, eo, _⟩ := Shared.forget_eq hfo
  have hcase := hcase.congr eh
  rw [← eo] at hos
  rw [← eh] at hkp
  have hlife : s'.heap.life = s.heap.life := (runN_life _ _ _ hrun).trans hal.2.2.2
  refine ⟨vs, s₁, hlaid, n, _, s', hsched, ?_, (fun _ i x hx => by rw [hgens] at hx; exact nomatch hx), hkp, by rw [hlife], Shared.rest_eq hos⟩
  rcases hcase with ⟨v, rfl, d1, d2, d3, d4, d5⟩ | ⟨e, ob, cls, rfl, d1, d2, d3, d4, d5⟩
  · exact .inl ⟨v, rfl, d1, d2, d3, fun b o y _ => d4 b o y, d5⟩
  · exact .inr ⟨e, ob, cls, rfl, d1, d2, d3, d4, fun b o y _ => d5 b o y⟩
noncomputable abbrev prg : Program := PySem.Challenge.rw_no0072_01.row.prog
noncomputable def nthS : List Stmt → Nat → Stmt
  | [], _ => .Pass ⟨0, 0, 0, 0⟩
  | s :: _, 0 => s
  | _ :: r, n + 1 => nthS r n
noncomputable def fd (i : Nat) : Stmt := nthS prg.main.body i
noncomputable def md (i j : Nat) : Stmt := match fd i with | .ClassDef _ _ _ body _ _ _ _ _ _ _ => nthS body j | s => s
noncomputable def mE : Value := .str "quic.errors" 187
noncomputable def mV : Value := .str "quic.varint" 284
noncomputable def mH : Value := .str "quic.h3frames" 338
noncomputable def mL : Value := .str "law_no0072_01" 496
noncomputable def fnO (d : Stmt) (q : Option Str) (m : Value) (c : Addr) : Obj := match d with
  | .FunctionDef name args body _ _ _ scope _ _ _ => { cls := .type "function", data := .func { name := name, qualname := q.getD name, params := args, body := .stmts body, scope := scope, globals := 3, closure := [], defaults := .none, kwdefaults := .none, pyModule := m, code := .ref c } }
  | _ => default
noncomputable def fileT : Nat → Value := fun t => .str "/claim/cut.py" t
noncomputable def cdO (d : Stmt) (q : Option Str) (c : Addr) (v : Bool) (n t l k : Nat) : Obj := match d with
  | .FunctionDef name _ _ _ _ _ _ _ _ _ => { cls := .type "code", data := .fields #[.str name t, .str (q.getD name) (t + 1), fileT (t + 2), .int l 0, .int n 0, .int 0 0, .int 0 0, .int 3 0, .ref (bif v then c - 5 else c - 3), .bool true, .int 181 0, .ref (bif v then c - 4 else c - 2), .none,
      bif v then .ref (c - 3) else .none, bif v then .ref (c - 2) else .none, .ref (c - 1), .int k 0, .int l 0, fileT (k + 1)] }
  | _ => default
noncomputable def dcO (P : Params) (es : List (Str × Nat × Value)) (n : Nat) : Obj := { cls := .type "dict", data := .dict (es.map fun e => { hash := PyData.keyHash P e.1, key := .str e.1 e.2.1, val := e.2.2 : DictEntry }).toArray n }
noncomputable def tpO (vs : List Value) : Obj := { cls := .type "tuple", data := .seq vs.toArray 0 }
noncomputable def clO (n : Str) (a ns : Addr) (bs ms : List Value) (b : Option Value) (t u : Nat) (nw : String) : Obj :=
  { cls := .type "type", data := .cls { name := n, bases := bs, mro := .ref a :: ms, ns := ns, qualname := n }, slots := #[b, none, some (.str n t), some (.str n u), some (.builtin nw), some (.bool true)] }
noncomputable def tbO : Obj := { cls := .none, data := .fields #[] }
noncomputable def dMain0 : List (Str × Nat × Value) := [("__name__", 165, .str "law_no0072_01" 496), ("__doc__", 166, .none), ("__package__", 167, .none), ("__loader__", 168, .builtin "__main__.__loader__#opaque"), ("__spec__", 169, .none), ("__annotations__", 170, .ref 6), ("__builtins__", 171, .ref 4), ("__file__", 173, .str "/claim/cut.py" 172), ("__cached__", 174, .none), ("INTERNAL_ERROR", 190, .int 1 189), ("QuicError", 223, .ref 31), ("H3Error", 254, .ref 51), ("Short", 283, .ref 71), ("VARINT_SIZES", 290, .ref 75)]
noncomputable def dMain1 : List (Str × Nat × Value) := [("put_whole", 300, .ref 82), ("get_whole", 311, .ref 89), ("varint_size", 319, .ref 96), ("put_varint", 328, .ref 103), ("get_varint", 337, .ref 110), ("H3_INTERNAL_ERROR", 341, .int 258 340), ("H3_FRAME_UNEXPECTED", 343, .int 261 342), ("H3_FRAME_ERROR", 345, .int 262 344), ("H3_EXCESSIVE_LOAD", 347, .int 263 346), ("H3_SETTINGS_ERROR", 349, .int 265 348), ("TYPE_DATA", 351, .int 0 350), ("TYPE_HEADERS", 353, .int 1 352), ("TYPE_SETTINGS", 355, .int 4 354), ("TYPE_PUSH_PROMISE", 357, .int 5 356)]
noncomputable def dMain2 : List (Str × Nat × Value) := [("ID_TYPES", 364, .ref 114), ("OLD_TYPES", 369, .ref 115), ("OLD_SETTINGS", 374, .ref 116), ("put_plain", 382, .ref 123), ("put_settings", 392, .ref 130), ("put_h3", 402, .ref 137), ("whole_varint", 410, .ref 144), ("read_settings", 416, .ref 149), ("read_only_id", 426, .ref 156), ("read_payload", 437, .ref 163), ("FrameStream", 495, .ref 201), ("_law_next", 504, .ref 212), ("_law_box", 510, .ref 217), ("_law_varint", 522, .ref 224)]
noncomputable def dMain3 : List (Str × Nat × Value) := [("_law_plain", 530, .ref 231), ("_law_number", 537, .ref 238), ("_law_frame", 543, .ref 243), ("_law_code", 551, .ref 250), ("_law_wrong_right", 561, .ref 257), ("law", 567, .ref 262)]
noncomputable def dH30 : List (Str × Nat × Value) := [("__module__", 231, .str "quic.errors" 187), ("__firstlineno__", 235, .int 10 234), ("__init__", 244, .ref 48), ("__static_attributes__", 247, .ref 49), ("__weakref__", 249, .ref 52), ("__doc__", 250, .none)]
noncomputable def dSh0 : List (Str × Nat × Value) := [("__module__", 262, .str "quic.errors" 187), ("__firstlineno__", 266, .int 16 265), ("__init__", 274, .ref 68), ("__static_attributes__", 276, .ref 69), ("__weakref__", 278, .ref 72), ("__doc__", 279, .none)]
noncomputable def dFS0 : List (Str × Nat × Value) := [("__module__", 445, .str "quic.h3frames" 338), ("__firstlineno__", 449, .int 124 448), ("__init__", 457, .ref 177), ("take", 467, .ref 184), ("next_frame", 478, .ref 191), ("end", 485, .ref 198), ("__static_attributes__", 488, .ref 199), ("__dict__", 490, .ref 202), ("__weakref__", 492, .ref 203), ("__doc__", 493, .none)]
noncomputable def cH3 : Obj := clO "H3Error" 51 50 [.type "Exception"] [.type "Exception", .type "BaseException", .type "object"] (some (.ref 35)) 224 232 "Exception.__new__"
noncomputable def cSh : Obj := clO "Short" 71 70 [.type "Exception"] [.type "Exception", .type "BaseException", .type "object"] (some (.ref 55)) 255 263 "Exception.__new__"
noncomputable def cFS : Obj := clO "FrameStream" 201 200 [.type "object"] [.type "object"] none 438 446 "object.__new__"
noncomputable def KK : Params → Frag := fun P =>
  (nat_lit 3, dcO P (dMain0 ++ dMain1 ++ dMain2 ++ dMain3) 48) ::
  (nat_lit 47, cdO (md 3 0) (some "H3Error.__init__") 47 true 3 236 12 242) ::
  (nat_lit 48, fnO (md 3 0) (some "H3Error.__init__") mE 47) ::
  (nat_lit 50, dcO P (dH30) 3) ::
  (nat_lit 51, cH3) ::
  (nat_lit 67, cdO (md 4 0) (some "Short.__init__") 67 true 2 267 18 272) ::
  (nat_lit 68, fnO (md 4 0) (some "Short.__init__") mE 67) ::
  (nat_lit 70, dcO P (dSh0) 3) ::
  (nat_lit 71, cSh) ::
  (nat_lit 75, tpO [.int 1 286, .int 2 287, .int 4 288, .int 8 289]) ::
  (nat_lit 81, cdO (fd 7) none 81 true 2 291 23 298) ::
  (nat_lit 82, fnO (fd 7) none mV 81) ::
  (nat_lit 88, cdO (fd 8) none 88 true 3 301 31 309) ::
  (nat_lit 89, fnO (fd 8) none mV 88) ::
  (nat_lit 95, cdO (fd 9) none 95 true 1 312 38 317) ::
  (nat_lit 96, fnO (fd 9) none mV 95) ::
  (nat_lit 102, cdO (fd 10) none 102 true 2 320 43 326) ::
  (nat_lit 103, fnO (fd 10) none mV 102) ::
  (nat_lit 109, cdO (fd 11) none 109 true 2 329 50 335) ::
  (nat_lit 110, fnO (fd 11) none mV 109) ::
  (nat_lit 111, tpO [.int 3 358, .str "cancel_push" 359]) ::
  (nat_lit 112, tpO [.int 7 360, .str "goaway" 361]) ::
  (nat_lit 113, tpO [.int 13 362, .str "max_push" 363]) ::
  (nat_lit 114, tpO [.ref 111, .ref 112, .ref 113]) ::
  (nat_lit 115, tpO [.int 2 365, .int 6 366, .int 8 367, .int 9 368]) ::
  (nat_lit 116, tpO [.int 2 370, .int 3 371, .int 4 372, .int 5 373]) ::
  (nat_lit 122, cdO (fd 25) none 122 true 2 375 68 380) ::
  (nat_lit 123, fnO (fd 25) none mH 122) ::
  (nat_lit 129, cdO (fd 26) none 129 true 1 383 70 390) ::
  (nat_lit 130, fnO (fd 26) none mH 129) ::
  (nat_lit 136, cdO (fd 27) none 136 true 1 393 75 400) ::
  (nat_lit 137, fnO (fd 27) none mH 136) ::
  (nat_lit 143, cdO (fd 28) none 143 true 2 403 89 408) ::
  (nat_lit 144, fnO (fd 28) none mH 143) ::
  (nat_lit 148, cdO (fd 29) none 148 false 1 411 94 414) ::
  (nat_lit 149, fnO (fd 29) none mH 148) ::
  (nat_lit 155, cdO (fd 30) none 155 true 2 417 103 424) ::
  (nat_lit 156, fnO (fd 30) none mH 155) ::
  (nat_lit 162, cdO (fd 31) none 162 true 2 427 108 435) ::
  (nat_lit 163, fnO (fd 31) none mH 162) ::
  (nat_lit 176, cdO (md 32 0) (some "FrameStream.__init__") 176 true 2 450 126 455) ::
  (nat_lit 177, fnO (md 32 0) (some "FrameStream.__init__") mH 176) ::
  (nat_lit 183, cdO (md 32 1) (some "FrameStream.take") 183 true 2 458 130 465) ::
  (nat_lit 184, fnO (md 32 1) (some "FrameStream.take") mH 183) ::
  (nat_lit 190, cdO (md 32 2) (some "FrameStream.next_frame") 190 true 1 468 139 476) ::
  (nat_lit 191, fnO (md 32 2) (some "FrameStream.next_frame") mH 190) ::
  (nat_lit 197, cdO (md 32 3) (some "FrameStream.end") 197 true 1 479 155 483) ::
  (nat_lit 198, fnO (md 32 3) (some "FrameStream.end") mH 197) ::
  (nat_lit 200, dcO P (dFS0) 4) ::
  (nat_lit 201, cFS) ::
  (nat_lit 211, cdO (fd 34) none 211 true 1 498 159 502) ::
  (nat_lit 212, fnO (fd 34) none mL 211) ::
  (nat_lit 216, cdO (fd 35) none 216 false 1 505 163 508) ::
  (nat_lit 217, fnO (fd 35) none mL 216) ::
  (nat_lit 223, cdO (fd 36) none 223 true 1 511 165 520) ::
  (nat_lit 224, fnO (fd 36) none mL 223) ::
  (nat_lit 230, cdO (fd 37) none 230 true 2 523 174 528) ::
  (nat_lit 231, fnO (fd 37) none mL 230) ::
  (nat_lit 237, cdO (fd 38) none 237 true 1 531 176 535) ::
  (nat_lit 238, fnO (fd 38) none mL 237) ::
  (nat_lit 242, cdO (fd 39) none 242 false 1 538 178 541) ::
  (nat_lit 243, fnO (fd 39) none mL 242) ::
  (nat_lit 249, cdO (fd 40) none 249 true 1 544 194 549) ::
  (nat_lit 250, fnO (fd 40) none mL 249) ::
  (nat_lit 256, cdO (fd 41) none 256 true 1 552 200 559) ::
  (nat_lit 257, fnO (fd 41) none mL 256) ::
  (nat_lit 261, cdO (fd 42) none 261 false 1 562 209 565) ::
  (nat_lit 262, fnO (fd 42) none mL 261) :: []
noncomputable def KA : List Addr := nat_lit 3 :: nat_lit 47 :: nat_lit 48 :: nat_lit 50 :: nat_lit 51 :: nat_lit 67 :: nat_lit 68 :: nat_lit 70 :: nat_lit 71 :: nat_lit 75 :: nat_lit 81 :: nat_lit 82 :: nat_lit 88 :: nat_lit 89 :: nat_lit 95 :: nat_lit 96 :: nat_lit 102 :: nat_lit 103 :: nat_lit 109 :: nat_lit 110 :: nat_lit 111 :: nat_lit 112 :: nat_lit 113 :: nat_lit 114 :: nat_lit 115 :: nat_lit 116 :: nat_lit 122 :: nat_lit 123 :: nat_lit 129 :: nat_lit 130 :: nat_lit 136 :: nat_lit 137 :: nat_lit 143 :: nat_lit 144 :: nat_lit 148 :: nat_lit 149 :: nat_lit 155 :: nat_lit 156 :: nat_lit 162 :: nat_lit 163 :: nat_lit 176 :: nat_lit 177 :: nat_lit 183 :: nat_lit 184 :: nat_lit 190 :: nat_lit 191 :: nat_lit 197 :: nat_lit 198 :: nat_lit 200 :: nat_lit 201 :: nat_lit 211 :: nat_lit 212 :: nat_lit 216 :: nat_lit 217 :: nat_lit 223 :: nat_lit 224 :: nat_lit 230 :: nat_lit 231 :: nat_lit 237 :: nat_lit 238 :: nat_lit 242 :: nat_lit 243 :: nat_lit 249 :: nat_lit 250 :: nat_lit 256 :: nat_lit 257 :: nat_lit 261 :: nat_lit 262 :: []
end Mine

open PySem PySem.W
set_option Elab.async false
namespace Mine
def be : Nat → Nat → List UInt8
  | 0, _ => []
  | k + 1, n => (n / 256 ^ k % 256).toUInt8 :: be k n
def vix (n : Nat) : Nat := if n < 2 ^ 6 then 0 else if n < 2 ^ 14 then 1 else if n < 2 ^ 30 then 2 else 3
def vsz (n : Nat) : Nat := 2 ^ vix n
def enc (n : Nat) : List UInt8 := be (vsz n) (vix n * 2 ^ (8 * vsz n - 2) + n)
theorem be_len : ∀ (k n : Nat), (be k n).length = k
  | 0, _ => rfl
  | k + 1, n => congrArg (· + 1) (be_len k n)
theorem setAt {α : Type} {a v : α} {r : List α} : ∀ j, (List.replicate (j + 1) a ++ r).set j v = List.replicate j a ++ v :: r
  | 0 => rfl
  | j + 1 => congrArg (a :: ·) (setAt j)
theorem setBe {n z i : Nat} {x : Array UInt8} (hi : i < z) (hx : x.toList = List.replicate (z - i) 0 ++ be i n) : (x.setIfInBounds (z - (i + 1)) (n / 256 ^ i % 256).toUInt8).toList = List.replicate (z - (i + 1)) 0 ++ be (i + 1) n := by
  rw [Array.toList_setIfInBounds, hx, show z - i = z - (i + 1) + 1 by omega, setAt]; rfl
theorem rngDown : ∀ z : Nat, z < 9 → 0 < z → Builtin.Range.small ((z : Int) - 1) (-1) (-1) = true ∧ Builtin.Range.rangeSize ((z : Int) - 1) (-1) (-1) = z := by decide +kernel
end Mine

open PySem PySem.W PySem.Calls PyProof.Rows
set_option Elab.async false
set_option maxRecDepth 100000
set_option linter.unusedVariables false
namespace Mine
@[reducible] def St (s : Shared) (h : Heap) (k : Nat) : Shared := ⟨h, s.gens, s.drawn, k, s.os⟩
def But (b : Addr) (h h' : Heap) : Prop := ∀ c o, c ≠ b → h.get? c = some o → h'.get? c = some o
theorem updIn {b : Addr} {o : Obj} {news : List (Addr × Obj)} {G : Obj → List (Addr × Obj)} (U : UpdF b o news G) : (b, o) ∈ news := by
  obtain ⟨pre, post, rfl, _⟩ := U.split
  simp
theorem updNext {b : Addr} {o o' : Obj} : ∀ {news : List (Addr × Obj)} {G : Obj → List (Addr × Obj)}, UpdF b o news G → UpdF b o' (G o') G
  | _, _, .head h => .head h
  | _, _, .tail h r => .tail h (updNext r)
def Gd (w : World) (g : Heap) : Prop := (KK w.params).In g ∧ ∃ p loose mean mg mb, Top p loose mean mg mb g
theorem Gd.X {w : World} {g : Heap} (G : Gd w g) : (KK w.params).In g := G.1
theorem Gd.on {w : World} {g h : Heap} (G : Gd w g) (k : g.StaysIn h) : Gd w h := ⟨G.1.keeps k, let ⟨_, _, _, _, _, T⟩ := G.2; ⟨_, _, _, _, _, T.keeps k⟩⟩
theorem Gd.lim {w : World} {g : Heap} (G : Gd w g) : g.NoLimit := let ⟨_, _, _, _, _, T⟩ := G.2; T.nolimit
abbrev Fs := List (Addr × (Str → Option Value))
structure Cx (w : World) (g : Heap) (fr : Fs) (h : Heap) (news : List (Addr × Obj)) : Prop where
  G : Gd w g
  keep : g.StaysIn h
  P : fr.Pairwise fun p q => p.1 ≠ q.1
  F : ∀ p ∈ fr, h.Ns p.1 p.2 ∧ g.get? p.1 = none
  N : ∀ q ∈ news, h.get? q.1 = some q.2 ∧ g.get? q.1 = none ∧ ∀ p ∈ fr, q.1 ≠ p.1
section
variable {w : World} {g h h' : Heap} {L : Addr} {m m' : Str → Option Value} {news : List (Addr × Obj)} {fr : Fs}
theorem Cx.on (C : Cx w g fr h news) (k : h.StaysIn h') : Cx w g fr h' news := ⟨C.G, fun b o e => k _ _ (C.keep b o e), C.P, fun p hp => ⟨(C.F p hp).1.keeps k, (C.F p hp).2⟩, fun q hq => ⟨k _ _ (C.N q hq).1, (C.N q hq).2⟩⟩
theorem Cx.gd (C : Cx w g fr h news) : Gd w h := C.G.on C.keep
theorem Cx.ns (C : Cx w g ((L, m) :: fr) h news) : h.Ns L m := (C.F _ (.head _)).1
theorem Cx.out (C : Cx w g ((L, m) :: fr) h news) : g.get? L = none := (C.F _ (.head _)).2
theorem Cx.set (C : Cx w g ((L, m) :: fr) h news) (hn : h'.Ns L m') (hs : Heap.SameBut L h h') : Cx w g ((L, m') :: fr) h' news := by
  obtain ⟨P1, P2⟩ := List.pairwise_cons.mp C.P
  refine ⟨C.G, fun b o e => (hs.2 b (fun q => by rw [q, C.out] at e; cases e)).trans (C.keep b o e), List.pairwise_cons.mpr ⟨P1, P2⟩, fun p hp => ?_, fun q hq => ?_⟩
  · rcases List.mem_cons.mp hp with rfl | hp
    · exact ⟨hn, C.out⟩
    · have z := C.F p (.tail _ hp)
      exact ⟨z.1.sameBut hs (P1 p hp).symm, z.2⟩
  · have z := C.N q hq
    refine ⟨(hs.2 q.1 (z.2.2 _ (.head _))).trans z.1, z.2.1, fun p hp => ?_⟩
    rcases List.mem_cons.mp hp with rfl | hp
    · exact z.2.2 (L, m) (.head _)
    · exact z.2.2 p (.tail _ hp)
theorem stays_push (h : Heap) (o : Obj) : h.StaysIn (h.push o) := fun _ _ e => Heap.get?_push_of_some _ e
theorem get_size (h : Heap) : h.get? h.objs.size = none := Heap.get?_none_of_le (Nat.le_refl _)
theorem Cx.no (C : Cx w g fr h news) {a : Addr} (hn : h.get? a = none) : g.get? a = none := by
  cases q : g.get? a with
  | none => rfl
  | some x => exact absurd (hn.symm.trans (C.keep a x q)) (fun z => by cases z)
theorem Cx.noFr (C : Cx w g fr h news) {a : Addr} (hn : h.get? a = none) : ∀ p ∈ fr, a ≠ p.1 := fun p hp q => by
  obtain ⟨oL, _, _, e, _⟩ := (C.F p hp).1; rw [← q] at e; exact absurd (hn.symm.trans e) (fun z => by cases z)
theorem Cx.add {a : Addr} {o : Obj} (C : Cx w g fr h news) (k : h.StaysIn h') (ho : h'.get? a = some o) (hn : h.get? a = none) : Cx w g fr h' ((a, o) :: news) := by
  have C' := C.on k
  refine ⟨C.G, C'.keep, C.P, C'.F, fun p hp => ?_⟩
  rcases List.mem_cons.mp hp with rfl | hp
  · exact ⟨ho, C.no hn, C.noFr hn⟩
  · exact C'.N p hp
theorem Cx.push (C : Cx w g fr h news) (o : Obj) (hfree : o.isFreed = false := by rfl) : Cx w g fr (h.push o) ((h.objs.size, o) :: news) :=
  C.add (stays_push h o) (Heap.get?_push_size _ hfree) (get_size h)
theorem Cx.but {b : Addr} {o o' : Obj} {G : Obj → List (Addr × Obj)} (C : Cx w g fr h news) (U : UpdF b o news G) (k : But b h h') (ho : h'.get? b = some o') : Cx w g fr h' (G o') := by
  have hm := C.N (b, o) (updIn U)
  refine ⟨C.G, fun c oc e => k c oc (fun q => by rw [q, hm.2.1] at e; cases e) (C.keep c oc e), C.P, fun p hp => ?_, ?_⟩
  · obtain ⟨⟨oL, es, ep, e, r⟩, z⟩ := C.F p hp
    exact ⟨⟨oL, es, ep, k p.1 oL (hm.2.2 p hp).symm e, r⟩, z⟩
  · obtain ⟨pre, post, rfl, hG, h1, h2⟩ := U.split
    rw [hG]
    intro p hp
    rcases List.mem_append.mp hp with hp | hp
    · have P := C.N p (List.mem_append_left _ hp); exact ⟨k _ _ (h1 p hp) P.1, P.2⟩
    · rcases List.mem_cons.mp hp with rfl | hp
      · exact ⟨ho, hm.2⟩
      · have P := C.N p (List.mem_append_right _ (.tail _ hp)); exact ⟨k _ _ (h2 p hp) P.1, P.2⟩
def reb (h : Heap) (fr : Fs) (news : List (Addr × Obj)) : Heap := hideAll h (fr.map (·.1) ++ news.map (·.1))
theorem reb_get {b : Addr} {o : Obj} (e : h.get? b = some o) (hL : ∀ p ∈ fr, b ≠ p.1) (hn : ∀ p ∈ news, p.1 ≠ b) : (reb h fr news).get? b = some o :=
  hideAll_get _ e fun q => by
    rcases List.mem_append.mp q with q | q
    · obtain ⟨p, hp, q⟩ := List.mem_map.mp q; exact hL p hp q.symm
    · obtain ⟨p, hp, q⟩ := List.mem_map.mp q; exact hn p hp q
theorem reb_of {b : Addr} {o : Obj} (e : (reb h fr news).get? b = some o) : h.get? b = some o := of_hideAll _ e
theorem Cx.grow (C : Cx w g fr h news) : g.StaysIn (reb h fr news) := fun b o e => reb_get (C.keep b o e) (fun p hp q => by have := (C.F p hp).2; rw [← q, e] at this; cases this) fun p hp q => by
  have := (C.N p hp).2.1; rw [q, e] at this; cases this
theorem Cx.rebase (C : Cx w g fr h news) : Cx w (reb h fr news) fr h news :=
  ⟨C.G.on C.grow, fun _ _ e => reb_of e, C.P, fun p hp => ⟨(C.F p hp).1, hideAll_none _ (List.mem_append_left _ (List.mem_map_of_mem hp))⟩,
   fun p hp => ⟨(C.N p hp).1, hideAll_none _ (List.mem_append_right _ (List.mem_map_of_mem hp)), (C.N p hp).2.2⟩⟩
theorem Cx.less {g₀ : Heap} (C : Cx w g fr h news) (G : Gd w g₀) (k : g₀.StaysIn g) : Cx w g₀ fr h news := by
  have no : ∀ b, g.get? b = none → g₀.get? b = none := fun b e => by
    cases q : g₀.get? b with
    | none => rfl
    | some o => rw [k b o q] at e; cases e
  exact ⟨G, fun b o e => C.keep b o (k b o e), C.P, fun p hp => ⟨(C.F p hp).1, no _ (C.F p hp).2⟩, fun p hp => ⟨(C.N p hp).1, no _ (C.N p hp).2.1, (C.N p hp).2.2⟩⟩
theorem Cx.drop {news' : List (Addr × Obj)} (C : Cx w g fr h news) (hs : ∀ p ∈ news', p ∈ news) : Cx w g fr h news' := ⟨C.G, C.keep, C.P, C.F, fun p hp => C.N p (hs p hp)⟩
theorem Cx.pop (C : Cx w g ((L, m) :: fr) h news) : Cx w g fr h news :=
  ⟨C.G, C.keep, (List.pairwise_cons.mp C.P).2, fun p hp => C.F p (.tail _ hp), fun q hq => ⟨(C.N q hq).1, (C.N q hq).2.1, fun p hp => (C.N q hq).2.2 p (.tail _ hp)⟩⟩
theorem Cx.into (C : Cx w g fr h news) (k : h.StaysIn h') (hn : h.get? L = none) (hm : h'.Ns L m) : Cx w g ((L, m) :: fr) h' news := by
  have C' := C.on k
  refine ⟨C.G, C'.keep, List.pairwise_cons.mpr ⟨fun p hp => C.noFr hn p hp, C.P⟩, fun p hp => ?_, fun q hq => ?_⟩
  · rcases List.mem_cons.mp hp with rfl | hp
    · exact ⟨hm, C.no hn⟩
    · exact C'.F p hp
  · refine ⟨(C'.N q hq).1, (C.N q hq).2.1, fun p hp => ?_⟩
    rcases List.mem_cons.mp hp with rfl | hp
    · exact fun z => by have := (C.N q hq).1; rw [z, hn] at this; cases this
    · exact (C.N q hq).2.2 p hp
end
def PEv (w : World) (A : Around) (env : Env) (s : Shared) (h : Heap) (e : Expr) (f : Tok → Value) : Prop :=
  ∀ k (Q E : Value → Shared → Prop), (∀ t k', Q (f t) (St s h k')) → wpAny (model prg w) A (eval e env) Q E (St s h k)
def PTs (w : World) (A : Around) (env : Env) (s : Shared) (h : Heap) (e : Expr) (b : Bool) : Prop :=
  ∀ k whole (Q : Bool → Shared → Prop) (E : Value → Shared → Prop), (∀ k', Q b (St s h k')) → wpAny (model prg w) A (isTrue e env whole) Q E (St s h k)
section
variable {w : World} {A : Around} {s : Shared} {g h : Heap} {fr : Fs} {L a : Addr} {m : Str → Option Value} {news : List (Addr × Obj)} {cn : Str} {cs : Scope} {ccd : Value} {cl : List (Str × Addr)} {env : Env}
  {e l r : Expr} {x : Str} {pos px : Pos} {v : Value} {i j : Int} {τ σ : Tok → Tok} {n : Nat}
theorem nmL (C : Cx w g ((L, m) :: fr) h news) (hx : cs.names.lookup x = some .local := by rfl) (hv : m x = some v := by rfl) (hk : cs.kind = .function := by rfl) (hd : (x == ("__debug__" : Str)) = false := by decide +kernel) :
    PEv w A (envX cn cs L a ccd cl) s h (.Name x px) fun _ => v := fun k Q E hQ => wpAny_Name (s := St s h k) (wpAny_loadName_local hk hx C.ns hv (hQ 0 k)) hd
theorem nmK (C : Cx w g ((L, m) :: fr) h news) (hx : cs.names.lookup x = some .globalImplicit) (hv : nsIn (KK w.params) mainGlobals x = some (some v)) (hk : cs.kind = .function := by rfl) (hd : (x == ("__debug__" : Str)) = false := by decide +kernel) :
    PEv w A (envX cn cs L a ccd cl) s h (.Name x px) fun _ => v := fun k Q E hQ => by
  obtain ⟨_, _, _, _, _, T⟩ := C.G.2
  exact Name_function_global (s := St s h k) hk hx (loadGlobal_global (env := envX cn cs L a ccd cl) (T.g.keeps C.keep) (mg_of C.G.X T.g hv) (hQ 0 k)) hd
theorem nmB (C : Cx w g ((L, m) :: fr) h news) (hx : cs.names.lookup x = some .globalImplicit) (hv : nsIn (KK w.params) mainGlobals x = some none) (hb : bootBuiltins x = some v) (hn : x ≠ "__name__") (hk : cs.kind = .function := by rfl) (hd : (x == ("__debug__" : Str)) = false := by decide +kernel) :
    PEv w A (envX cn cs L a ccd cl) s h (.Name x px) fun _ => v := fun k Q E hQ => by
  obtain ⟨_, _, _, _, _, T⟩ := C.G.2
  exact Name_function_global (s := St s h k) hk hx (loadGlobal_builtin (env := envX cn cs L a ccd cl) (T.g.keeps C.keep) (mg_none_of C.G.X T.g hv) (T.b.keeps C.keep) ((T.builtins _ hn).trans hb) (hQ 0 k)) hd
theorem cI : PEv w A env s h (.Constant (.int i) n px) fun t => .int i t := fun k Q E hQ => wpAny_Constant_int (hQ _ _)
theorem cB {b : Bool} : PEv w A env s h (.Constant (.bool b) n px) fun _ => .bool b := fun k Q E hQ => wpAny_Constant_bool (hQ 0 _)
theorem cS : PEv w A env s h (.Constant (.str x) n px) fun t => .str x t := fun k Q E hQ => Calls.Constant_str (hQ _ _)
theorem cY {b : List UInt8} : PEv w A env s h (.Constant (.bytes b) n px) fun t => .bytes b.toArray t := fun k Q E hQ => Constant_bytes (hQ _ _)
theorem cN : PEv w A env s h (.Constant .none n px) fun _ => .none := fun k Q E hQ => wpAny_Constant_none (hQ 0 _)
theorem pBin {op : Operator} {f f₁ f₂ : Tok → Value} (hl : PEv w A env s h l f₁) (hr : PEv w A env s h r f₂)
    (ho : ∀ t u k (Q E : Value → Shared → Prop), (∀ t k', Q (f t) (St s h k')) → wpAny (model prg w) A (binaryOp op (f₁ t) (f₂ u)) Q E (St s h k)) : PEv w A env s h (.BinOp l op r pos) f :=
  fun k Q E hQ => wpAny_BinOp (hl k _ E fun t k₁ => hr k₁ _ E fun u k₂ => ho t u k₂ Q E hQ)
theorem pAdd (hl : PEv w A env s h l fun t => .int i (τ t)) (hr : PEv w A env s h r fun t => .int j (σ t)) : PEv w A env s h (.BinOp l .Add r pos) fun t => .int (i + j) t := pBin hl hr fun _ _ _ _ _ hQ => add_int (hQ _ _)
theorem pSub (hl : PEv w A env s h l fun t => .int i (τ t)) (hr : PEv w A env s h r fun t => .int j (σ t)) : PEv w A env s h (.BinOp l .Sub r pos) fun t => .int (i - j) t := pBin hl hr fun _ _ _ _ _ hQ => PyProof.Rows.sub_int (hQ _ _)
theorem mulOk {a b : Int} (h : a.natAbs < 2 ^ 63) : IntMulOk a b := by
  refine .of_left ?_
  unfold Builtin.Int.intBits
  split
  · omega
  · by_cases h0 : a.natAbs = 0
    · rw [h0]; decide
    · have := (Nat.log2_lt h0 (k := 63)).mpr h
      omega
theorem noPy {a b : Int} (h : b.natAbs < 2 ^ 63) : Builtin.divisionGoesByPylong a b = false := by
  refine PyProof.noPylong_of_log2 ?_
  by_cases h0 : b.natAbs = 0
  · simp [h0]
  · have := (Nat.log2_lt h0 (k := 63)).mpr h
    omega
theorem pMul (hl : PEv w A env s h l fun t => .int i (τ t)) (hr : PEv w A env s h r fun t => .int j (σ t)) (hc : i.natAbs < 2 ^ 63) : PEv w A env s h (.BinOp l .Mult r pos) fun t => .int (i * j) t := pBin hl hr fun _ _ _ _ _ hQ => PyProof.Rows.mul_int (hQ _ _) (mulOk hc)
theorem pMod (hl : PEv w A env s h l fun t => .int i (τ t)) (hr : PEv w A env s h r fun t => .int j (σ t)) (hc : 0 < j) : PEv w A env s h (.BinOp l .Mod r pos) fun t => .int (i % j) t := pBin hl hr fun _ _ _ _ _ hQ => mod_int (by omega) (by rw [Int.fmod_eq_emod_of_nonneg i (by omega)]; exact hQ _ _)
theorem pDiv (hl : PEv w A env s h l fun t => .int i (τ t)) (hr : PEv w A env s h r fun t => .int j (σ t)) (hc : 0 < j ∧ j.natAbs < 2 ^ 63) : PEv w A env s h (.BinOp l .FloorDiv r pos) fun t => .int (i / j) t :=
  pBin hl hr fun _ _ _ _ _ hQ => PyProof.Rows.floordiv_int (by omega) (by rw [Int.fdiv_eq_ediv_of_nonneg i (by omega)]; exact hQ _ _) (.inl (noPy hc.2))
theorem pShl (hl : PEv w A env s h l fun t => .int i (τ t)) (hr : PEv w A env s h r fun t => .int j (σ t)) (hc : 0 ≤ j ∧ j ≤ 1000000 ∧ i.natAbs < 2 ^ 64) : PEv w A env s h (.BinOp l .LShift r pos) fun t => .int (i * 2 ^ j.toNat) t := pBin hl hr fun _ _ _ _ _ hQ => lshift_int_small hc.1 hc.2.1 hc.2.2 (hQ _ _)
theorem pShr (hl : PEv w A env s h l fun t => .int i (τ t)) (hr : PEv w A env s h r fun t => .int j (σ t)) (hc : 0 ≤ j) : PEv w A env s h (.BinOp l .RShift r pos) fun t => .int (i / 2 ^ j.toNat) t :=
  pBin hl hr fun _ _ _ _ _ hQ => rshift_int hc (by rw [Int.fdiv_eq_ediv_of_nonneg i (Int.le_of_lt (Int.pow_pos (by decide)))]; exact hQ _ _)
theorem pOr (hl : PEv w A env s h l fun t => .int i (τ t)) (hr : PEv w A env s h r fun t => .int j (σ t)) : PEv w A env s h (.BinOp l .BitOr r pos) fun t => .int (Builtin.bitOr i j) t := pBin hl hr fun _ _ _ _ _ hQ => or_int (hQ _ _)
theorem pAnd (hl : PEv w A env s h l fun t => .int i (τ t)) (hr : PEv w A env s h r fun t => .int j (σ t)) : PEv w A env s h (.BinOp l .BitAnd r pos) fun t => .int (Builtin.bitAnd i j) t := pBin hl hr fun _ _ _ _ _ hQ => and_int (hQ _ _)
theorem pPow (hl : PEv w A env s h l fun t => .int i (τ t)) (hr : PEv w A env s h r fun t => .int j (σ t)) (hc : 0 ≤ j ∧ j ≤ 1000000 ∧ i.natAbs < 2 ^ 64) : PEv w A env s h (.BinOp l .Pow r pos) fun t => .int (i ^ j.toNat) t := pBin hl hr fun _ _ _ _ _ hQ => pow_int_small hc.1 hc.2.1 hc.2.2 (hQ _ _)
theorem pCat {b c : Array UInt8} (hl : PEv w A env s h l fun t => .bytes b (τ t)) (hr : PEv w A env s h r fun t => .bytes c (σ t)) (hc : b.size + c.size ≤ 16777216) : PEv w A env s h (.BinOp l .Add r pos) fun t => .bytes (b ++ c) t := pBin hl hr fun _ _ _ _ _ hQ => KBy.add_bytes hc fun t k => hQ t k
theorem pNeg (hl : PEv w A env s h l fun t => .int i (τ t)) : PEv w A env s h (.UnaryOp .USub l pos) fun t => .int (-i) t := fun k Q E hQ => wpAny_UnaryOp (hl k _ E fun t k₁ => PyProof.Rows.neg_int (hQ _ _))
theorem pBlt {id : String} {f f₁ : Tok → Value} (hf : PEv w A env s h (.Name x px) fun _ => .builtin id) (hl : PEv w A env s h l f₁) (hs : starEach [l] env = [(false, eval l env)])
    (ho : ∀ t k (Q E : Value → Shared → Prop), (∀ t k', Q (f t) (St s h k')) → wpAny (model prg w) A (call (.builtin id) [f₁ t]) Q E (St s h k)) : PEv w A env s h (.Call (.Name x px) [l] [] pos) f :=
  fun k Q E hQ => wpAny_Call_Name_kw (hf k _ E fun _ k₁ => PyProof.Rows.callWith_builtin1 (by rw [hs]; exact Calls.spliced_cons (hl k₁ _ E fun t k₂ => Calls.spliced_nil (ho t k₂ Q E hQ))) hs)
theorem pLenY {b : Array UInt8} (hf : PEv w A env s h (.Name x px) fun _ => .builtin "len") (hl : PEv w A env s h l fun t => .bytes b (τ t)) (hc : b.size ≤ 1099511627776) (hs : starEach [l] env = [(false, eval l env)] := by rfl) :
    PEv w A env s h (.Call (.Name x px) [l] [] pos) fun t => .int b.size t := pBlt hf hl hs fun _ _ _ _ hQ => len_bytes hc (hQ _ _)
theorem pItY {b : List UInt8} (hl : PEv w A env s h l fun t => .bytes b.toArray (τ t)) (hr : PEv w A env s h r fun t => .int i (σ t)) (hc : b.length ≤ 1099511627776 ∧ 0 ≤ i ∧ i < b.length)
    (hs : ∀ t u, subscripted r false (.bytes b.toArray t) (.int i u) = operate [.bytes b.toArray t, .int i u] (getItem (.bytes b.toArray t) (.int i u))) (ht : ∀ t v, letTemporaryGo l (.bytes b.toArray t) v = pure ()) :
    PEv w A env s h (.Subscript l r pos) fun t => .int ((b.getD i.toNat 0).toNat : Nat) t :=
  fun k Q E hQ => PyProof.Rows.Subscript_ (hl k _ E fun t k₁ => hr k₁ _ E fun u k₂ => KBy.item_N hc.1 hc.2.1 hc.2.2 (hQ _ _) (hs _ _) (ht _))
theorem seqIx {n len : Nat} (h : n < len) : seqIndex? (n : Int) len = some n := by
  unfold seqIndex?
  have h1 : ¬ ((n : Int) < 0) := by omega
  simp [h1, h]
theorem pItT {t₀ : Addr} {vs : List Value} {n : Nat} (ht : IsTup h t₀ vs.toArray) (hl : PEv w A env s h l fun _ => .ref t₀) (hr : PEv w A env s h r fun t => .int i (σ t)) (hc : i = n ∧ n < 1000000) (hv : vs[n]? = some v)
    (hs : ∀ u, subscripted r false (.ref t₀) (.int i u) = operate [.ref t₀, .int i u] (getItem (.ref t₀) (.int i u))) : PEv w A env s h (.Subscript l r pos) fun _ => v :=
  fun k Q E hQ => PyProof.Rows.Subscript_ (hl k _ E fun _ k₁ => hr k₁ _ E fun u k₂ => item_tupleT (s := St s h k₂) ht (by omega) (by omega)
    (by rw [hc.1]; exact seqIx (List.getElem?_eq_some_iff.mp hv).1) hv (hQ 0 _) (hs _))
theorem tCmp {op : CmpOp} {b : Bool} {f₁ f₂ : Tok → Value} (hl : PEv w A env s h l f₁) (hr : PEv w A env s h r f₂)
    (ho : ∀ t u k (Q E : Value → Shared → Prop), (∀ k', Q (.bool b) (St s h k')) → wpAny (model prg w) A (compareOp op (f₁ t) (f₂ u)) Q E (St s h k)) (hb : behindInMarks op r = false) : PTs w A env s h (.Compare l [op] [r] pos) b :=
  fun k _ Q E hQ => wpAny_isTrue_Compare1 (hl k _ E fun t k₁ => hr k₁ _ E fun u k₂ => ho t u k₂ _ E fun k' => wpAny_truthy_bool (hQ k')) hb
theorem tLt (hl : PEv w A env s h l fun t => .int i (τ t)) (hr : PEv w A env s h r fun t => .int j (σ t)) (hb : behindInMarks .Lt r = false := by rfl) : PTs w A env s h (.Compare l [.Lt] [r] pos) (decide (i < j)) := tCmp hl hr (fun _ _ _ _ _ hQ => lt_int (hQ _)) hb
theorem tGt (hl : PEv w A env s h l fun t => .int i (τ t)) (hr : PEv w A env s h r fun t => .int j (σ t)) (hb : behindInMarks .Gt r = false := by rfl) : PTs w A env s h (.Compare l [.Gt] [r] pos) (decide (j < i)) := tCmp hl hr (fun _ _ _ _ _ hQ => gt_int (hQ _)) hb
theorem tGe (hl : PEv w A env s h l fun t => .int i (τ t)) (hr : PEv w A env s h r fun t => .int j (σ t)) (hb : behindInMarks .GtE r = false := by rfl) : PTs w A env s h (.Compare l [.GtE] [r] pos) (decide (j ≤ i)) := tCmp hl hr (fun _ _ _ _ _ hQ => ge_int (hQ _)) hb
theorem tEq (hl : PEv w A env s h l fun t => .int i (τ t)) (hr : PEv w A env s h r fun t => .int j (σ t)) (hb : behindInMarks .Eq r = false := by rfl) : PTs w A env s h (.Compare l [.Eq] [r] pos) (i == j) := tCmp hl hr (fun _ _ _ _ _ hQ => eq_int (hQ _)) hb
theorem tNe (hl : PEv w A env s h l fun t => .int i (τ t)) (hr : PEv w A env s h r fun t => .int j (σ t)) (hb : behindInMarks .NotEq r = false := by rfl) : PTs w A env s h (.Compare l [.NotEq] [r] pos) (i != j) := tCmp hl hr (fun _ _ _ _ _ hQ => ne_int (hQ _)) hb
theorem tEqS {x y : Str} (hl : PEv w A env s h l fun t => .str x (τ t)) (hr : PEv w A env s h r fun t => .str y (σ t)) (hb : behindInMarks .Eq r = false := by rfl) : PTs w A env s h (.Compare l [.Eq] [r] pos) (x == y) := tCmp hl hr (fun _ _ _ _ _ hQ => eq_str (hQ _)) hb
theorem tNeY {b c : Array UInt8} (hl : PEv w A env s h l fun t => .bytes b (τ t)) (hr : PEv w A env s h r fun t => .bytes c (σ t)) (hb : behindInMarks .NotEq r = false := by rfl) : PTs w A env s h (.Compare l [.NotEq] [r] pos) (b.toList != c.toList) := tCmp hl hr (fun _ _ _ _ _ hQ => ne_bytes (hQ _)) hb
theorem tIsN {f : Tok → Value} (hl : PEv w A env s h l f) (hv : ∀ t, (f t == .none) = (f 0 == .none)) : PTs w A env s h (.Compare l [.Is] [.Constant .none n px] pos) (f 0 == .none) := tCmp hl cN (fun t _ _ _ _ hQ => is_none (by rw [hv]; exact hQ _)) rfl
theorem tOr {b c : Bool} (hl : PTs w A env s h l b) (hr : b = false → PTs w A env s h r c) : PTs w A env s h (.BoolOp .Or [l, r] pos) (b || c) := fun k _ Q E hQ =>
  wpAny_isTrue_BoolOp (wpAny_allTrue_Or_cons (hl k _ _ E fun k₁ => by
    cases b with
    | true => exact hQ k₁
    | false => exact wpAny_allTrue_Or_cons (hr rfl k₁ _ _ E fun k₂ => by
        cases c with
        | true => exact hQ k₂
        | false => exact wpAny_allTrue_Or_nil (hQ k₂))))
end
end Mine

open PySem PySem.W PySem.Calls PyProof.Rows
set_option Elab.async false
set_option maxRecDepth 100000
namespace Mine
theorem CtxC.enter0 {Γ : Ctx} (h : CtxC Γ) {c : Code} (hc : Cln c) (hd : Option Value) (p : Pos) : CtxC (Γ.enter c hd p) :=
  ⟨hc, fun q hq => by
    rcases List.mem_cons.mp hq with rfl | hq
    · exact h.here
    · exact h.below q hq⟩
theorem CtxC.goto0 {Γ : Ctx} (h : CtxC Γ) {c : Code} (hc : Cln c) : CtxC (Γ.goto c) := ⟨hc, h.below⟩
theorem CtxC.enter {κ : Bool} {Γ : Ctx} (h : κ = true → CtxC Γ) {c : Code} (hc : Cln c) (hd : Option Value) (p : Pos) : κ = true → CtxC (Γ.enter c hd p) := fun e => (h e).enter0 hc hd p
theorem CtxC.goto {κ : Bool} {Γ : Ctx} (h : κ = true → CtxC Γ) {c : Code} (hc : Cln c) : κ = true → CtxC (Γ.goto c) := fun e => (h e).goto0 hc
def codeG (κ : Bool) (M : Model) (A : Around) (c : Code) (R : Result → Shared → Prop) (s : Shared) : Prop :=
  ∀ Γ p, Γ.code = c → Γ.Below A → (κ = true → CtxC Γ) → wpCode M Γ R p s
section
variable {κ : Bool} {α β : Type} {M : Model} {A : Around} {E : Value → Shared → Prop} {s : Shared}
theorem gOf {t : Sem α} {Q : α → Shared → Prop} (h : wpAny M A t Q E s) : wpG κ M A t Q E s := fun Γ p hΓ _ => h Γ p hΓ
theorem gAny {t : Sem α} {Q : α → Shared → Prop} (h : wpG false M A t Q E s) : wpAny M A t Q E s := fun Γ p hΓ => h Γ p hΓ (fun e => nomatch e)
theorem gPure {a : α} {Q : α → Shared → Prop} (h : Q a s) : wpG κ M A (pure a) Q E s := fun _ _ _ _ => h
theorem gMono {t : Sem α} {Q Q' : α → Shared → Prop} {E' : Value → Shared → Prop} (h : wpG κ M A t Q E s) (hQ : ∀ a s, Q a s → Q' a s) (hE : ∀ e s, E e s → E' e s) : wpG κ M A t Q' E' s :=
  fun Γ p hΓ hC => Sem.wp_mono M Γ t (fun a _ s => hQ a s) (fun e _ s => hE e s) p s (h Γ p hΓ hC)
theorem gBind {m : Sem α} {f : α → Sem β} {Q : β → Shared → Prop} (h : wpG κ M A m (fun a s' => wpG κ M A (f a) Q E s') E s) : wpG κ M A (m >>= f) Q E s := fun Γ p hΓ hC => by
  rw [Sem.wp_bind']
  exact Sem.wp_mono M Γ m (fun a p' s' h' => h' Γ p' hΓ hC) (fun _ _ _ h' => h') p s (h Γ p hΓ hC)
theorem gHolding {vs : List Value} {m : Sem α} {Q : α → Shared → Prop} (h : wpG κ M A m Q E s) : wpG κ M A (holding vs m) Q E s := fun Γ p hΓ hC => by rw [Sem.wp_holding]; exact h Γ p hΓ hC
theorem gKeep {vs : List Value} {m : Sem α} {Q : α → Shared → Prop} (h : wpG κ M A m Q E s) : wpG κ M A (m.keep vs) Q E s := fun Γ p hΓ hC => by rw [Sem.wp_keep]; exact h Γ p hΓ hC
theorem gOperate {vs : List Value} {m : Sem Value} {Q : Value → Shared → Prop} (h : wpG κ M A m Q E s) : wpG κ M A (operate vs m) Q E s := fun Γ p hΓ hC => by rw [Sem.wp_operate]; exact h Γ p hΓ hC
theorem gOnRaise {m : Sem α} {k : Value → Sem Unit} {Q : α → Shared → Prop} (h : wpG κ M A m Q (fun _ _ => False) s) : wpG κ M A (m.onRaise k) Q E s := fun Γ p hΓ hC => by
  rw [Sem.wp_onRaise]
  exact Sem.wp_mono M Γ m (fun _ _ _ h' => h') (fun e p' s' h' => h'.elim) p s (h Γ p hΓ hC)
theorem gStand {pos : Pos} {Q : Unit → Shared → Prop} (h : Q () s) : wpG κ M A (standAt pos) Q E s := gOf (wpAny_standAt h)
theorem gEq {m : Sem α} {a : α} {Q : α → Shared → Prop} (e : m = pure a) (h : Q a s) : wpG κ M A m Q E s := e ▸ gPure h
theorem cgMono {c : Code} {R R' : Result → Shared → Prop} (h : codeG κ M A c R s) (hR : ∀ r s, R r s → R' r s) : codeG κ M A c R' s := fun Γ p hc hΓ hC => wpCode_mono hR (h Γ p hc hΓ hC)
theorem gRunValue {c : Code} {Q : Value → Shared → Prop} (hc : codeG κ M A c (fun r s' => match r with | .ok (.ret v) => Q v s' | .ok _ => False | .error e => E e s') s) (hn : Cln c) : wpG κ M A (runValue c) Q E s :=
  fun Γ p hΓ hC => by rw [Sem.wp_runValue]; exact hc _ p rfl (hΓ.enter c none p (by intro x; cases x)) (CtxC.enter hC hn none p)
theorem gCallC {f : Value} {pos : List Value} {kw : List (Str × Value)} {Q : Value → Shared → Prop}
    (hc : codeG κ M A (.call f ⟨pos, kw⟩) (fun r s' => match r with | .ok (.ret v) => Q v s' | .ok _ => False | .error e => E e s') s) : wpG κ M A (call f pos kw) Q E s := gRunValue hc fun _ _ _ _ => rfl
theorem gRun {c : Code} {h : Option Value} {Q : Flow → Shared → Prop}
    (hc : codeG κ M (A.mark h) c (fun r s' => match r with | .ok f => Q f s' | .error e => E e s') s) (hn : Cln c) (hnb : h ≠ some byPass := by intro x; cases x) : wpG κ M A (run c h) Q E s :=
  fun Γ p hΓ hC => by rw [Sem.wp_run]; exact hc _ p rfl (hΓ.enter c h p hnb) (CtxC.enter hC hn h p)
theorem cgTree {c : Code} {R : Result → Shared → Prop}
    (h : wpG κ M (A.under c) (M.den c) (fun fin s' => match fin with | .done f => R (.ok f) s' | .again c' => c'.quiet = true ∧ Cln c' ∧ codeG κ M A c' R s') (fun e s' => R (.error e) s') s) : codeG κ M A c R s := fun Γ p hc hΓ hC => by
  rw [wpCode_iff_wp, hc]
  refine Sem.wp_mono M Γ _ (fun fin p' s' h' => ?_) (fun _ _ _ h' => h') p s (h Γ p (hc ▸ hΓ.in) hC)
  cases fin with
  | done f => exact h'
  | again c' => exact ⟨h'.1, h'.2.2 (Γ.goto c') p' rfl (hΓ.goto c') (CtxC.goto hC h'.2.1)⟩
theorem cgOf {c : Code} {R : Result → Shared → Prop} (h : codeAny M A c R s) : codeG κ M A c R s := fun Γ p hc hΓ _ => h Γ p hc hΓ
theorem cgLoop {c : Code} {R : Result → Shared → Prop} (hq : c.quiet = true) (hn : Cln c) (I : Nat → Shared → Prop)
    (turn : ∀ n s, I n s → wpG κ M (A.under c) (M.den c) (fun fin s' => match fin with
        | .done f => R (.ok f) s'
        | .again c' => (c' = c ∧ ∃ m, m < n ∧ I m s') ∨ (c'.quiet = true ∧ Cln c' ∧ codeG κ M A c' R s')) (fun e s' => R (.error e) s') s)
    (n : Nat) (h : I n s) : codeG κ M A c R s := by
  induction n using Nat.strongRecOn generalizing s with
  | ind n ih =>
    refine cgTree (gMono (turn n s h) (fun fin s' hf => ?_) fun _ _ h' => h')
    cases fin with
    | done f => exact hf
    | again c' =>
      rcases hf with ⟨rfl, m, hm, hI⟩ | hf
      · exact ⟨hq, hn, ih m hm hI⟩
      · exact hf
end
section
variable {κ : Bool} {prog : Program} {w : World} {A : Around} {E : Value → Shared → Prop} {s : Shared}
theorem cgBuiltin {id : String} {args : Args} {b : Builtin} {R : Result → Shared → Prop} (hb : entryFor table id = some b)
    (h : wpG κ (model prog w) (A.under (.builtin id args)) (b args) (fun fin s' => match fin with | .done f => R (.ok f) s' | .again c' => c'.quiet = true ∧ Cln c' ∧ codeG κ (model prog w) A c' R s') (fun e s' => R (.error e) s') s) :
    codeG κ (model prog w) A (.builtin id args) R s := by
  refine cgTree ?_
  show wpG _ _ _ (match entryFor table id with | some b => b args | none => unsupported ((withoutEnding? id "#data").getD id)) _ _ s
  rw [hb]; exact h
theorem cgFunc {body : List Stmt} {env : Env} {R : Result → Shared → Prop}
    (h : wpG κ (model prog w) (A.deeper env) (execs body env) (fun f s' => R (.ok (.ret (match f with | .ret v => v | _ => .none))) s') (fun _ _ => False) s) : codeG κ (model prog w) A (.func body env) R s := by
  refine cgTree ?_
  show wpG _ _ (A.deeper env) (do point; match ← (execs body env).onRaise (leaving env) with | .ret v => ret v | _ => ret .none) _ _ s
  refine gBind (gOf (wpAny_point (gBind (gOnRaise (gMono h (fun f s' h' => ?_) fun _ _ h' => h')))))
  cases f <;> exact gPure h'
theorem cgDef {R : Result → Shared → Prop} {a : Addr} {o : Obj} {fd : FuncData} {body : List Stmt} {args : Args} {binds : List (Str × Value)}
    (hroom : A.depth < recursionLimit) (ho : s.heap.get? a = some o) (hdata : o.data = .func fd) (hlim : s.heap.NoLimit) (hcd : s.heap.CodeRec fd.code fd.qualname)
    (hbody : fd.body = .stmts body) (hbind : BindsTo s fd args binds) (hcell : ∀ x ∈ fd.scope.names, x.2 ≠ .cell) (hloc : ∀ x ∈ binds, fd.scope.names.lookup x.1 = some .local)
    (h : ∀ h₀, h₀.Ns s.heap.objs.size (fun x => binds.reverse.lookup x) → (∀ b o, s.heap.get? b = some o → h₀.get? b = some o) →
      wpG κ (model prog w) (A.deeper (callEnv fd s.heap.objs.size a)) (execs body (callEnv fd s.heap.objs.size a)) (fun f s' => R (.ok (.ret (match f with | .ret v => v | _ => .none))) s') (fun _ _ => False)
        { s with heap := h₀, toks := s.toks + binds.length })
    (hco : fd.scope.isCoroutine = false) (hgen : fd.scope.isGenerator = false) (hk : fd.scope.kind = .function) :
    codeG κ (model prog w) A (.call (.ref a) args) R s := by
  refine cgTree ?_
  show wpG _ _ A.in1 (callAny (.ref a) args) _ _ s
  simp only [callAny]
  refine gBind (gOf (wpAny_load ho ?_))
  obtain ⟨c, oc, vs, tq, hc, hoc, hdc, hq⟩ := hcd
  simp only [hdata, callFunction, hco, hgen, hbody, hc]
  refine gBind (m := field (.ref c) 1) (gOf (wpAny_field hoc hdc hq ?_))
  refine gBind (gOf (wpAny_pure ?_))
  refine gBind (gOf (hbind _ _ _ _ ?_))
  refine gBind (gOf (wpAny_newFunctionEnv hcell hloc (fun h₀ hns₀ hsb₀ => ?_) hk))
  refine gBind (gOf (wpAny_enterFrame (hlim.fresh _ hsb₀) hroom ?_))
  refine gPure ⟨rfl, fun _ _ _ _ => rfl, ?_⟩
  have := cgFunc (R := R) (A := A) (h h₀ hns₀ fun b o e => hsb₀.extBut b o (Nat.ne_of_lt (Heap.lt_size e)) (Heap.get?_push_of_some _ e))
  unfold callEnv at this
  rw [hc] at this
  exact this
end
end Mine

open PySem PySem.W PySem.Calls PyProof.Rows
set_option Elab.async false
set_option maxRecDepth 100000
set_option linter.unusedVariables false
namespace Mine
def Rt (Q : Value → Shared → Prop) (f : Flow) (s : Shared) : Prop := match f with | .ret v => Q v s | _ => Q .none s
def Sq (κ : Bool) (M : Model) (A : Around) (env : Env) (rest : List Stmt) (Q : Flow → Shared → Prop) (E : Value → Shared → Prop) (f : Flow) (s : Shared) : Prop := match f with | .next => wpG κ M A (execs rest env) Q E s | f => Q f s
section
variable {κ : Bool} {M : Model} {A : Around} {env : Env} {st : Stmt} {rest : List Stmt} {E : Value → Shared → Prop} {s : Shared} {e e1 e2 l r : Expr} {pos px : Pos} {x : Str}
theorem gSt {Q : Flow → Shared → Prop} (h : wpG κ M A (exec st env) (Sq κ M A env rest Q E) E s) : wpG κ M A (execs (st :: rest) env) Q E s := by
  rw [execs_cons]
  exact gBind (gMono h (fun f s' x => by cases f <;> first | exact x | exact gPure x) fun _ _ x => x)
theorem gNil {Q : Flow → Shared → Prop} (h : Q .next s) : wpG κ M A (execs [] env) Q E s := fun _ _ _ _ => h
theorem gAsg {Q : Flow → Shared → Prop} (h : wpG κ M A (eval e env) (fun v s₁ => wpAny M A (storeName env x v) (fun _ => wpG κ M A (execs rest env) Q E) E s₁) E s)
    (hs : swapsWith e (some (.Name x px)) pos.line env = pure false := by rfl) : wpG κ M A (execs (.Assign [.Name x px] e pos :: rest) env) Q E s := by
  refine gSt ?_
  rw [exec_Assign_Name _ _ _ _ _ hs]
  exact gBind (gStand (gBind (gMono h (fun v s₁ y => gBind (gStand (gBind (gOf (wpAny_bindName (wpAny_mono y (fun _ _ z => gPure z) fun _ _ z => z)))))) fun _ _ z => z)))
theorem gRet {Q : Flow → Shared → Prop} (h : wpG κ M A (eval e env) (fun v => Q (.ret v)) E s) : wpG κ M A (execs (.Return (some e) pos :: rest) env) Q E s :=
  gSt (gBind (gStand (gBind (gMono h (fun _ _ y => gPure y) fun _ _ z => z))))
theorem gIf {Q : Flow → Shared → Prop} {test : Expr} {body orelse : List Stmt}
    (h : wpG κ M A (isTrue test env (eval test env)) (fun b s₂ => wpG κ M A (execs (match b with | true => body | false => orelse) env) (Sq κ M A env rest Q E) E s₂) E s) :
    wpG κ M A (execs (.If test body orelse pos :: rest) env) Q E s :=
  gSt (gBind (gStand (gBind (gMono h (fun b s' y => by cases b <;> exact y) fun _ _ z => z))))
theorem gBin {op : Operator} {Q : Value → Shared → Prop} (h : wpG κ M A (eval l env) (fun a s₁ => wpG κ M A (eval r env) (fun b s₂ => wpG κ M A (binaryOp op a b) Q E s₂) E s₁) E s) : wpG κ M A (eval (.BinOp l op r pos) env) Q E s :=
  gBind (gMono h (fun a s₁ y => gBind (gHolding (gMono y (fun b s₂ z => gBind (gStand (gOperate z))) fun _ _ z => z))) fun _ _ z => z)
theorem gCmp {op : CmpOp} {whole : Sem Value} {Q : Bool → Shared → Prop} (h : wpG κ M A (eval l env) (fun a s₁ => wpG κ M A (eval r env) (fun b s₂ => wpG κ M A (compareOp op a b) (fun c s₃ => wpG κ M A (truthy c) Q E s₃) E s₂) E s₁) E s)
    (hm : behindInMarks op r = false := by rfl) : wpG κ M A (isTrue (.Compare l [op] [r] pos) env whole) Q E s := by
  rw [isTrue_Compare1, markedBehindIn_of_false hm]
  exact gBind (gMono h (fun a s₁ y => gBind (gHolding (gMono y (fun b s₂ z => gBind (gStand (gBind (gOperate (gMono z (fun c s₃ q => gHolding q) fun _ _ z => z))))) fun _ _ z => z))) fun _ _ z => z)
theorem gSpl0 {Q : List Value → Shared → Prop} (h : Q [] s) : wpG κ M A (spliced []) Q E s := gPure h
theorem gSpl {x : Sem Value} {rest : List (Bool × Sem Value)} {Q : List Value → Shared → Prop} (h : wpG κ M A x (fun v s₁ => wpG κ M A (spliced rest) (fun vs => Q (v :: vs)) E s₁) E s) : wpG κ M A (spliced ((false, x) :: rest)) Q E s := by
  rw [spliced]
  exact gBind (gMono h (fun v s₁ y => gBind (gPure (gBind (gHolding (gMono y (fun vs s₂ z => gPure z) fun _ _ z => z))))) fun _ _ z => z)
def Kp (M : Model) (f : Value) (s : Shared) : Prop := ∃ k, (k = Keeper.frame ∨ k = Keeper.machine ∨ k = Keeper.boundFrame) ∧ Looks M s.heap (keeperOf f) k
theorem gEa {f : Value} {x : Sem Value} {rest : List (Bool × Sem Value)} {Q : Args → Shared → Prop} (h : wpG κ M A (spliced ((false, x) :: rest)) (fun vs s' => Q ⟨vs, []⟩ s') E s) : wpG κ M A (evalArgs f true ((false, x) :: rest) []) Q E s := by
  unfold evalArgs
  show wpG κ M A (spliced ((false, x) :: rest) >>= _) Q E s
  exact gBind (gMono h (fun vs s' h' => gHolding (gBind (gPure (gBind (gPure (gPure h')))))) fun _ _ x => x)
theorem gCW {f : Value} {first : List Value} {args : List (Bool × Sem Value)} {Q : Value → Shared → Prop} (h : wpG κ M A (evalArgs f true args []) (fun a s₁ => Kp M f s₁ ∧ wpG κ M A (call f (first ++ a.pos) a.kw) Q E s₁) E s)
    (hp : (args.any (·.1) || false) = false) : wpG κ M A (callWith pos f first args []) Q E s := by
  unfold callWith
  refine gBind (gHolding (gMono h (fun a s₁ y => gBind (gStand ?_)) fun _ _ z => z))
  obtain ⟨⟨k, hk', L⟩, y⟩ := y
  have e : (args.any (·.1) || ([] : List (Option Str × Sem Value)).any (·.1.isNone)) = false := hp
  simp only [e]
  refine gBind (gOf (L.here ?_))
  have tail : ∀ {t : Sem Value}, wpG κ M A t Q E s₁ → wpG κ M A (t >>= fun r => holding [r] point >>= fun _ => pure r) Q E s₁ :=
    fun ht => gBind (gMono ht (fun r s₂ hr => gBind (gHolding (gOf (wpAny_point (gPure hr))))) fun _ _ x => x)
  have marked (mk : Value) : wpG κ M A (callMarked mk f (first ++ a.pos) a.kw) Q E s₁ := gKeep y
  rcases hk' with rfl | rfl | rfl <;> dsimp only <;> first | exact tail y | (split <;> first | exact tail y | exact tail (marked _))
theorem gCallN {args : List Expr} {Q : Value → Shared → Prop} (h : wpG κ M A (eval (.Name x px) env) (fun f s₁ => wpG κ M A (callWith pos f [] (backTo pos (starEach args env)) []) Q E s₁) E s) : wpG κ M A (eval (.Call (.Name x px) args [] pos) env) Q E s := by
  rw [arm_eval_Call_Name']
  exact gBind h
end
def Evs (κ : Bool) (M : Model) (A : Around) (env : Env) : List Expr → (List Value → Shared → Prop) → (Value → Shared → Prop) → Shared → Prop
  | [], Q, _, s => Q [] s
  | e :: es, Q, E, s => wpG κ M A (eval e env) (fun v s₁ => Evs κ M A env es (fun vs => Q (v :: vs)) E s₁) E s
abbrev No : Value → Shared → Prop := fun _ _ => False
section
variable {κ : Bool} {M : Model} {A : Around} {env : Env} {rest : List Stmt} {E : Value → Shared → Prop} {s : Shared} {e : Expr} {pos px : Pos} {x : Str}
theorem evsMono : ∀ {es : List Expr} {Q Q' : List Value → Shared → Prop} {s : Shared}, Evs κ M A env es Q E s → (∀ vs s, Q vs s → Q' vs s) → Evs κ M A env es Q' E s
  | [], _, _, _, h, hq => hq _ _ h
  | _ :: _, _, _, _, h, hq => gMono h (fun v s₁ y => evsMono y fun vs s => hq (v :: vs) s) fun _ _ x => x
theorem gSplE : ∀ {es : List Expr} {Q : List Value → Shared → Prop} {s : Shared}, Evs κ M A env es Q E s → wpG κ M A (spliced (es.map fun e => (false, eval e env))) Q E s
  | [], _, _, h => gSpl0 h
  | _ :: _, _, _, h => gSpl (gMono h (fun _ _ y => gSplE y) fun _ _ x => x)
theorem backPlain (es : List Expr) : backTo pos (es.map fun e => (false, eval e env)) = es.map fun e => (false, eval e env) := by
  unfold backTo
  rw [List.map_map]; rfl
theorem anyPlain : ∀ (es : List Expr), ((es.map fun e => (false, eval e env)).any (·.1) || false) = false
  | [] => rfl
  | _ :: es => anyPlain es
theorem gCall {es : List Expr} {f : Value} {first : List Value} {Q : Value → Shared → Prop} (h : Evs κ M A env es (fun vs s₁ => Kp M f s₁ ∧ wpG κ M A (call f (first ++ vs)) Q E s₁) E s) (hs : starEach es env = es.map fun e => (false, eval e env)) :
    wpG κ M A (callWith pos f first (backTo pos (starEach es env)) []) Q E s := by
  rw [hs, backPlain]
  cases es with
  | nil =>
    refine gCW ?_ rfl
    unfold evalArgs
    show wpG κ M A (spliced [] >>= _) _ E s
    exact gBind (gSpl0 (gBind (gPure (gHolding (gBind (gPure (gBind (gPure (gPure h)))))))))
  | cons e es => exact gCW (gEa (gSplE h)) (anyPlain (e :: es))
theorem gTup {es : List Expr} {n : Nat} {Q : Value → Shared → Prop} (h : Evs κ M A env es (fun vs s₁ => wpG κ M A (newTuple vs) Q E s₁) E s) (hs : starEach es env = es.map fun e => (false, eval e env)) : wpG κ M A (eval (.Tuple es n pos) env) Q E s := by
  show wpG κ M A (do standAt pos; newTuple (← spliced (backTo pos (starEach es env)))) Q E s
  rw [hs, backPlain]
  exact gBind (gStand (gBind (gSplE h)))
theorem gLst {es : List Expr} {Q : Value → Shared → Prop} (h : Evs κ M A env es (fun vs s₁ => wpG κ M A (newList vs) Q E s₁) E s) (hs : starEach es env = es.map fun e => (false, eval e env)) : wpG κ M A (eval (.List es pos) env) Q E s := by
  show wpG κ M A (do standAt pos; newList (← spliced (backTo pos (starEach es env)))) Q E s
  rw [hs, backPlain]
  exact gBind (gStand (gBind (gSplE h)))
theorem gSub {value slice : Expr} {Q : Value → Shared → Prop} (h : wpG κ M A (eval value env) (fun o s₁ => wpG κ M A (eval slice env) (fun i s₂ => wpAny M A (subscriptTail value slice o i) Q E s₂) E s₁) E s) : wpG κ M A (eval (.Subscript value slice pos) env) Q E s := by
  rw [eval_Subscript]
  exact gBind (gMono h (fun o s₁ y => gBind (gHolding (gMono y (fun i s₂ z => gBind (gStand (gOf z))) fun _ _ x => x))) fun _ _ x => x)
theorem gOnR {α : Type} {m : Sem α} {k : Value → Sem Unit} {Q : α → Shared → Prop} (h : wpG κ M A m Q (fun e s' => wpG κ M A (k e) (fun _ s'' => E e s'') E s') s) : wpG κ M A (m.onRaise k) Q E s := fun Γ p hΓ hC => by
  rw [Sem.wp_onRaise]
  exact Sem.wp_mono M Γ m (fun _ _ _ h' => h') (fun e p' s' h' => h' Γ p' hΓ hC) p s (h Γ p hΓ hC)
theorem gRunOwn {c : Code} {hd : Option Value} {Q : Flow → Shared → Prop} (hc : codeG κ M (A.mark hd) c (fun r s' => match r with | .ok f => Q f s' | .error e => cameBackBy M A env E e s') s) (hn : Cln c) (hnb : hd ≠ some byPass := by intro x; cases x) : wpG κ M A (runOwn c env hd) Q E s := by
  unfold runOwn
  refine gOnR (gRun (cgMono hc fun r s' y => ?_) hn hnb)
  cases r with
  | ok f => exact y
  | error e => exact gOf (wpAny_mono y (fun _ _ z => z) fun _ _ z => z)
theorem gFor {target iter : Expr} {body : List Stmt} {Q : Flow → Shared → Prop}
    (h : wpG κ M A (eval iter env) (fun x s₁ => wpAny M A (pyIter x) (fun it s₂ => codeG κ M A (.forLoop target it body [] env) (fun r s' => match r with | .ok f => Sq κ M A env rest Q E f s' | .error e => cameBackBy M A env E e s') s₂) E s₁) E s)
    (hs : ∀ x, foldedSetIterable iter env x = pure x) : wpG κ M A (execs (.For target iter body [] pos :: rest) env) Q E s := by
  refine gSt ?_
  rw [exec_For]
  exact gBind (gStand (gBind (gMono h (fun x s₁ y => gBind (gEq (hs x) (gBind (gStand (gBind (gHolding (gOf (wpAny_mono y (fun it s₂ z => gRunOwn z fun _ _ _ _ => rfl) fun _ _ z => z)))))))) fun _ _ z => z)))
theorem gWhile {test : Expr} {body : List Stmt} {Q : Flow → Shared → Prop}
    (h : codeG κ M A (.whileLoop test body [] env) (fun r s' => match r with | .ok f => Sq κ M A env rest Q E f s' | .error e => cameBackBy M A env E e s') s) : wpG κ M A (execs (.While test body [] pos :: rest) env) Q E s := by
  refine gSt ?_
  rw [exec_While]
  exact gBind (gStand (gRunOwn h fun _ _ _ _ => rfl))
end
def Noted (M : Model) (A : Around) (env : Env) (R : Result → Shared → Prop) (e : Value) (s : Shared) : Prop := wpAny M A (noteFrame e env) (fun _ s'' => R (.error e) s'') (fun e s'' => R (.error e) s'') s
section
variable {κ : Bool} {prog : Program} {w : World} {A : Around} {env : Env} {E : Value → Shared → Prop} {R : Result → Shared → Prop} {s : Shared}
theorem gNoted {α : Type} {m : Sem α} {Q : α → Shared → Prop} (h : wpG κ (model prog w) A m Q (Noted (model prog w) A env R) s) : wpG κ (model prog w) A (m.onRaise fun x => do noteFrame x env; theTreesLotGoes x) Q (fun e s' => R (.error e) s') s :=
  gOnR (gMono h (fun _ _ q => q) fun _ _ hx => gBind (gOf (wpAny_mono hx (fun _ _ y => gOf (wpAny_theTreesLotGoes y)) fun _ _ y => y)))
theorem cgFor {target : Expr} {iv : Value} {body : List Stmt} (I : Nat → Shared → Prop)
    (turn : ∀ n s, I n s → wpAny (model prog w) A (pyNext iv) (fun r s₁ => match r with
      | none => R (.ok .next) s₁
      | some v => wpAny (model prog w) A (letOwnedTupleGo target iv v) (fun _ s' => wpAny (model prog w) A (assign target env v) (fun _ s₂ => wpG κ (model prog w) A (execs body env) (fun f s₃ => match f with
          | .next | .cont => ∃ m, m < n ∧ I m s₃
          | .brk => R (.ok .next) s₃
          | .ret v => R (.ok (.ret v)) s₃) (Noted (model prog w) A env R) s₂) (Noted (model prog w) A env R) s') (Noted (model prog w) A env R) s₁) (Noted (model prog w) A env R) s)
    (n : Nat) (h : I n s) : codeG κ (model prog w) A (.forLoop target iv body [] env) R s := by
  refine cgLoop rfl (fun _ _ _ _ => rfl) I (fun n s hI => ?_) n h
  show wpG _ _ _ ((forTurn target iv body [] env).onRaise (fun x => do noteFrame x env; theTreesLotGoes x)) _ _ s
  refine gNoted ?_
  simp only [forTurn]
  refine gBind (gStand (gBind (gOf (wpAny_onRaise (wpAny_mono (turn n s hI) (fun r s₁ h₁ => ?_) fun _ _ h' => wpAny_standAt h')))))
  cases r with
  | none => exact gPure (.inr ⟨rfl, fun _ _ _ _ => rfl, cgOf (codeAny_block (wpAny_execs_nil h₁))⟩)
  | some v =>
    refine gBind (gOf (wpAny_mono h₁ (fun _ s' h₂ => gBind (gOf (wpAny_mono h₂ (fun _ s₂ h₃ => gBind (gMono h₃ (fun f s₃ h₄ => ?_) fun _ _ h' => h')) fun _ _ h' => h'))) fun _ _ h' => h'))
    cases f with
    | next => exact gPure (.inl ⟨rfl, h₄⟩)
    | cont => exact gPure (.inl ⟨rfl, h₄⟩)
    | brk => exact gPure h₄
    | ret v => exact gPure h₄
theorem cgWhile {test : Expr} {body : List Stmt} (I : Nat → Shared → Prop)
    (turn : ∀ n s, I n s → wpG κ (model prog w) A (isTrue test env (eval test env)) (fun b s₂ => match b with
      | true => wpG κ (model prog w) A (execs body env) (fun f s₃ => match f with
          | .next | .cont => ∃ m, m < n ∧ I m s₃
          | .brk => R (.ok .next) s₃
          | .ret v => R (.ok (.ret v)) s₃) (Noted (model prog w) A env R) s₂
      | false => R (.ok .next) s₂) (Noted (model prog w) A env R) s)
    (n : Nat) (h : I n s) : codeG κ (model prog w) A (.whileLoop test body [] env) R s := by
  refine cgLoop rfl (fun _ _ _ _ => rfl) I (fun n s hI => ?_) n h
  show wpG _ _ _ ((whileTurn test body [] env).onRaise (fun x => do noteFrame x env; theTreesLotGoes x)) _ _ s
  refine gNoted ?_
  simp only [whileTurn]
  refine gBind (gMono (turn n s hI) (fun b s₂ h₂ => ?_) fun _ _ h' => h')
  cases b with
  | false => exact gBind (gNil (gPure h₂))
  | true =>
    refine gBind (gMono h₂ (fun f s₃ h₃ => ?_) fun _ _ h' => h')
    cases f with
    | next => exact gPure (.inl ⟨rfl, h₃⟩)
    | cont => exact gPure (.inl ⟨rfl, h₃⟩)
    | brk => exact gPure h₃
    | ret v => exact gPure h₃
end
end Mine

open PySem PySem.W PySem.Calls PyProof.Rows
set_option Elab.async false
set_option maxRecDepth 100000
set_option linter.unusedVariables false
namespace Mine
abbrev NsM := Str → Option Value
abbrev up (m : NsM) (x : Str) (v : Value) : NsM := fun y => if y = x then some v else m y
structure Rm (A : Around) (n : Nat) : Prop where
  hh : A.handled = none
  room : A.depth + n < recursionLimit
theorem Rm.lt {A : Around} {n : Nat} (h : Rm A n) : A.depth < recursionLimit := Nat.lt_of_le_of_lt (Nat.le_add_right _ _) h.room
theorem Rm.le {A : Around} {n m : Nat} (h : Rm A n) (hm : m ≤ n) : Rm A m := ⟨h.hh, Nat.lt_of_le_of_lt (Nat.add_le_add_left hm _) h.room⟩
theorem Rm.in {A : Around} {n : Nat} {env : Env} (h : Rm A (n + 1)) : Rm (A.deeper env) n := ⟨h.hh, by
  show A.depth + 1 + n < _
  rw [Nat.add_assoc, Nat.add_comm 1 n]; exact h.room⟩
section
variable {κ : Bool} {w : World} {A : Around} {s : Shared} {g h : Heap} {fr : Fs} {L a : Addr} {m : NsM} {news : List (Addr × Obj)} {cn : Str} {cs : Scope} {ccd : Value} {cl : List (Str × Addr)}
  {E : Value → Shared → Prop} {k : Nat} {rest body : List Stmt} {e e1 e2 e3 : Expr} {es : List Expr} {pos px : Pos} {x : Str} {f f₁ f₂ f₃ : Tok → Value} {fa : Addr} {T : String} {env : Env}
theorem gP {Q : Value → Shared → Prop} (he : PEv w A env s h e f) (hQ : ∀ t k', Q (f t) (St s h k')) : wpG κ (model prg w) A (eval e env) Q E (St s h k) := gOf (he k Q E hQ)
theorem gT {Q : Bool → Shared → Prop} {b : Bool} {whole : Sem Value} (he : PTs w A env s h e b) (hQ : ∀ k', Q b (St s h k')) : wpG κ (model prg w) A (isTrue e env whole) Q E (St s h k) := gOf (he k _ Q E hQ)
theorem stoX {Q : Unit → Shared → Prop} {v : Value} (C : Cx w g ((L, m) :: fr) h news) (hQ : ∀ h' k', Cx w g ((L, up m x v) :: fr) h' news → Q () (St s h' k')) (hk : cs.kind = .function := by rfl) (hx : cs.names.lookup x = some .local := by rfl) :
    wpAny (model prg w) A (storeName (envX cn cs L a ccd cl) x v) Q E (St s h k) :=
  wpAny_storeName_local (s := St s h k) hx C.ns (fun h' hn hs => hQ h' _ (C.set hn hs)) (by show (cs.kind == .class || (cs.kind == .module && L != mainGlobals)) = false; rw [hk]; rfl)
theorem asgP {Q : Flow → Shared → Prop} (C : Cx w g ((L, m) :: fr) h news) (he : PEv w A (envX cn cs L a ccd cl) s h e f)
    (hQ : ∀ h' t k', Cx w g ((L, up m x (f t)) :: fr) h' news → wpG κ (model prg w) A (execs rest (envX cn cs L a ccd cl)) Q E (St s h' k'))
    (hsw : swapsWith e (some (.Name x px)) pos.line (envX cn cs L a ccd cl) = pure false := by rfl) (hk : cs.kind = .function := by rfl) (hx : cs.names.lookup x = some .local := by rfl) :
    wpG κ (model prg w) A (execs (.Assign [.Name x px] e pos :: rest) (envX cn cs L a ccd cl)) Q E (St s h k) :=
  gAsg (gP he fun t k' => stoX C (fun h' k'' C' => hQ h' t k'' C') hk hx) hsw
theorem retP {Q : Flow → Shared → Prop} (he : PEv w A env s h e f) (hQ : ∀ t k', Q (.ret (f t)) (St s h k')) : wpG κ (model prg w) A (execs (.Return (some e) pos :: rest) env) Q E (St s h k) := gRet (gP he hQ)
theorem ifP {Q : Flow → Shared → Prop} {test : Expr} {b : Bool} (ht : PTs w A env s h test b)
    (h1 : b = true → ∀ k', wpG κ (model prg w) A (execs body env) (Sq κ (model prg w) A env rest Q E) E (St s h k'))
    (h2 : b = false → ∀ k', wpG κ (model prg w) A (execs rest env) Q E (St s h k')) :
    wpG κ (model prg w) A (execs (.If test body [] pos :: rest) env) Q E (St s h k) :=
  gIf (gT ht fun k' => by
    cases b with
    | true => exact h1 rfl k'
    | false => exact gNil (h2 rfl k'))
theorem ifNo {Q : Flow → Shared → Prop} {test : Expr} {b : Bool} (ht : PTs w A env s h test b) (hb : b = false)
    (h2 : ∀ k', wpG κ (model prg w) A (execs rest env) Q E (St s h k')) : wpG κ (model prg w) A (execs (.If test body [] pos :: rest) env) Q E (St s h k) :=
  ifP ht (fun e => by rw [hb] at e; cases e) fun _ => h2
theorem ifYes {Q : Flow → Shared → Prop} {test : Expr} {b : Bool} (ht : PTs w A env s h test b) (hb : b = true)
    (h1 : ∀ k', wpG κ (model prg w) A (execs body env) (Sq κ (model prg w) A env rest Q E) E (St s h k')) : wpG κ (model prg w) A (execs (.If test body [] pos :: rest) env) Q E (St s h k) :=
  ifP ht (fun _ => h1) (fun e => by rw [hb] at e; cases e)
def okDef (scope : Scope) (binds : List (Str × Value)) : Bool :=
  !scope.isCoroutine && (!scope.isGenerator && (scope.kind == .function && (scope.names.all (fun x => x.2 != .cell) && binds.all fun y => scope.names.lookup y.1 == some .local)))
theorem enterG {name qual : Str} {params : Arguments} {scope : Scope} {dV kV doc pm cdv ct oc : Value} {an od : Option Addr} {osl : Array (Option Value)} {args : List Value} {binds : List (Str × Value)} {Q : Value → Shared → Prop}
    (C : Cx w g fr h news) (hroom : A.depth < recursionLimit) (ho : (KK w.params).lookup fa = some ⟨oc, od, .func (fnOf name qual params body scope dV kV doc pm an cdv ct), osl⟩) (hcd : codeIn (KK w.params) cdv qual = true)
    (hbind : ∀ s, BindsTo s (fnOf name qual params body scope dV kV doc pm an cdv ct) ⟨args, []⟩ binds) (hok : okDef scope binds = true)
    (hQ : ∀ L' h₁ k', Cx w g ((L', fun y => binds.reverse.lookup y) :: fr) h₁ news →
      wpG κ (model prg w) (A.deeper (envX qual scope L' fa cdv [])) (execs body (envX qual scope L' fa cdv [])) (Rt Q) No (St s h₁ k')) : wpG κ (model prg w) A (call (.ref fa) args) Q E (St s h k) := by
  simp only [okDef, Bool.and_eq_true, Bool.not_eq_true', List.all_eq_true, beq_iff_eq, bne_iff_ne] at hok
  obtain ⟨hco, hgen, hk, hcell, hloc⟩ := hok
  refine gCallC (cgDef (fd := fnOf name qual params body scope dV kV doc pm an cdv ct) (body := body) (binds := binds) hroom (C.keep _ _ (C.G.X _ _ ho)) rfl (C.G.lim.keeps C.keep) (codeRec_of (C.G.X.keeps C.keep) hcd) rfl (hbind _) hcell hloc (fun h₁ hns hk₁ => ?_) hco hgen hk)
  refine gMono (hQ _ h₁ _ (C.into hk₁ (get_size h) hns)) (fun f s' x => ?_) fun _ _ x => x
  cases f <;> exact x
theorem kpT {M : Model} {s : Shared} : Kp M (.type T) s := ⟨.machine, .inr (.inl rfl), .now⟩
theorem kpB {M : Model} {s : Shared} {id : String} : Kp M (.builtin id) s := ⟨.machine, .inr (.inl rfl), .now⟩
theorem callF {Q : Value → Shared → Prop} (C : Cx w g ((L, m) :: fr) h news) (hx : cs.names.lookup x = some .globalImplicit) (hv : nsIn (KK w.params) mainGlobals x = some (some (.ref fa))) (hkp : keepIn (KK w.params) (.ref fa) = true)
    (h1 : ∀ k, Evs κ (model prg w) A (envX cn cs L a ccd cl) es (fun vs s' => g.StaysIn s'.heap ∧ wpG κ (model prg w) A (call (.ref fa) vs) Q E s') E (St s h k))
    (hs : starEach es (envX cn cs L a ccd cl) = es.map fun e => (false, eval e (envX cn cs L a ccd cl)) := by rfl) (hk : cs.kind = .function := by rfl) (hd : (x == ("__debug__" : Str)) = false := by decide +kernel) :
    wpG κ (model prg w) A (eval (.Call (.Name x px) es [] pos) (envX cn cs L a ccd cl)) Q E (St s h k) :=
  gCallN (gP (nmK C hx hv hk hd) fun _ k₁ => gCall (evsMono (h1 k₁) fun vs s' y => ⟨keeps_K hkp _ (C.G.X.keeps y.1), y.2⟩) hs)
theorem callB {v : Value} {Q : Value → Shared → Prop} (hv : PEv w A env s h (.Name x px) fun _ => v) (hkp : ∀ s, Kp (model prg w) v s)
    (h1 : ∀ k, Evs κ (model prg w) A env es (fun vs s' => wpG κ (model prg w) A (call v vs) Q E s') E (St s h k))
    (hs : starEach es env = es.map fun e => (false, eval e env) := by rfl) : wpG κ (model prg w) A (eval (.Call (.Name x px) es [] pos) env) Q E (St s h k) :=
  gCallN (gP hv fun _ k₁ => gCall (evsMono (h1 k₁) fun vs s' y => ⟨hkp s', y⟩) hs)
def LsO (o : Obj) (its : Array Value) : Prop := o.cls = .type "list" ∧ ∃ n, o.data = .seq its n
theorem LsO.is {b : Addr} {o : Obj} {its : Array Value} (h1 : LsO o its) (e : h.get? b = some o) : h.IsList b its := ⟨o, e, h1⟩
theorem pItL {b : Addr} {its : Array Value} {i : Int} {v : Value} {l r : Expr} {σ : Tok → Tok} (hb : h.IsList b its) (hl : PEv w A env s h l fun _ => .ref b) (hr : PEv w A env s h r fun t => .int i (σ t)) (hc : 0 ≤ i ∧ i < 2 ^ 63) (hv : its[i.toNat]? = some v)
    (hs : ∀ u, subscripted r false (.ref b) (.int i u) = operate [.ref b, .int i u] (getItem (.ref b) (.int i u)) := by intro _; rfl) : PEv w A env s h (.Subscript l r pos) fun _ => v :=
  fun k Q E hQ => Subscript_ (hl k _ E fun _ k₁ => hr k₁ _ E fun u k₂ => tail_any hb.typeIs slot_list_getitem.lookup (wpAny_getItem_list (s := St s h k₂) hb hc.1 hc.2 hv (hQ 0 _)) (hs _))
theorem pLenL {b : Addr} {its : Array Value} (C : Cx w g ((L, m) :: fr) h news) (hb : h.IsList b its) (hl : PEv w A (envX cn cs L a ccd cl) s h e fun _ => .ref b) (hc : its.size ≤ 1000000) (hx : cs.names.lookup ("len" : Str) = some .globalImplicit := by rfl) (hk : cs.kind = .function := by rfl)
    (hv : nsIn (KK w.params) mainGlobals "len" = some none) (hs : starEach [e] (envX cn cs L a ccd cl) = [(false, eval e (envX cn cs L a ccd cl))] := by rfl) :
    PEv w A (envX cn cs L a ccd cl) s h (.Call (.Name "len" px) [e] [] pos) fun t => .int its.size t :=
  pBlt (nmB (v := .builtin "len") C hx hv (by rfl) (by decide +kernel) hk) hl hs fun t k Q E hQ => len_list (s := St s h k) hb (by omega) (hQ _ _)
theorem setL {b : Addr} {o : Obj} {its : Array Value} {i : Int} {σ : Tok → Tok} {G : Obj → List (Addr × Obj)} {l r : Expr} {Q : Flow → Shared → Prop} (C : Cx w g fr h news) (U : UpdF b o news G) (ho : LsO o its)
    (he : PEv w A env s h e f) (hl : PEv w A env s h l fun _ => .ref b) (hr : PEv w A env s h r fun t => .int i (σ t)) (hc : 0 ≤ i ∧ i < 2 ^ 63 ∧ i < its.size)
    (hQ : ∀ h' t k' o', Cx w g fr h' (G o') → LsO o' (its.setIfInBounds i.toNat (f t)) → wpG κ (model prg w) A (execs rest env) Q E (St s h' k'))
    (hsw : swapsWith e (some (.Subscript l r px)) pos.line env = pure false := by rfl) :
    wpG κ (model prg w) A (execs (.Assign [.Subscript l r px] e pos :: rest) env) Q E (St s h k) := by
  refine gSt ?_
  rw [exec_Assign_Subscript _ _ _ _ _ hsw]
  refine gBind (gStand (gBind (gP he fun t k₁ => gBind ?_)))
  rw [assign_Subscript]
  have hb := (C.N _ (updIn U)).1
  refine gBind (gHolding (gP hl fun _ k₂ => gBind (gHolding (gP hr fun u k₃ => gBind (gStand (gBind (gHolding (gOf (wpAny_setItem_list (s := St s h k₃) (ho.is hb) hc.1 hc.2.1 hc.2.2 fun h' hl' hs' => ?_)))))))))
  obtain ⟨o', ho', hl'⟩ := hl'
  exact gOf (wpAny_release (gPure (hQ h' t _ o' (C.but U (fun c oc hc' e => (hs'.2 c hc').trans e) ho') hl')))
end
end Mine

open PySem PySem.W PySem.Calls PyProof.Rows
set_option Elab.async false
set_option maxRecDepth 100000
set_option linter.unusedVariables false
namespace Mine
def Tn (w : World) (s : Shared) (g' : Heap) (L : Addr) (fr : Fs) (J : NsM → List (Addr × Obj) → Prop) (Q : Flow → Shared → Prop) (f : Flow) (s' : Shared) : Prop := match f with
  | .next | .cont => ∃ h' m' nx' k', s' = St s h' k' ∧ Cx w g' ((L, m') :: fr) h' nx' ∧ J m' nx'
  | .brk => Q .next s'
  | .ret v => Q (.ret v) s'
abbrev Lr (M : Model) (A : Around) (env : Env) (Q : Flow → Shared → Prop) (E : Value → Shared → Prop) (r : Result) (s : Shared) : Prop := match r with | .ok f => Q f s | .error e => cameBackBy M A env E e s
section
variable {κ : Bool} {w : World} {A : Around} {s : Shared} {g h : Heap} {fr : Fs} {L a : Addr} {m : NsM} {news : List (Addr × Obj)} {env : Env}
  {E E₁ : Value → Shared → Prop} {k : Nat} {rest body : List Stmt} {e target : Expr} {pos px : Pos} {x : Str}
theorem tnNext {g' h' : Heap} {m' : NsM} {nx' : List (Addr × Obj)} {k' : Nat} {J : NsM → List (Addr × Obj) → Prop} {Q : Flow → Shared → Prop} (C : Cx w g' ((L, m') :: fr) h' nx') (hJ : J m' nx') : Tn w s g' L fr J Q .next (St s h' k') := ⟨h', m', nx', k', rfl, C, hJ⟩
theorem Cx.walked {wr : List Addr} {h₁ : Heap} (C : Cx w g fr h news) (hk : ∀ b o, b ∉ wr → h.get? b = some o → h₁.get? b = some o) (hf : ∀ p ∈ fr, p.1 ∉ wr) (hn : ∀ q ∈ news, q.1 ∉ wr) (hg : ∀ b ∈ wr, g.get? b = none) : Cx w g fr h₁ news :=
  ⟨C.G, fun b o e => hk b o (fun hb => by rw [hg b hb] at e; cases e) (C.keep b o e), C.P, fun p hp => ⟨(let ⟨oL, es, ep, e, r⟩ := (C.F p hp).1; ⟨oL, es, ep, hk _ oL (hf p hp) e, r⟩), (C.F p hp).2⟩, fun q hq => ⟨hk _ _ (hn q hq) (C.N q hq).1, (C.N q hq).2⟩⟩
theorem forX {I : Addr} {fp wr : List Addr} {n : Nat} {P : Nat → Value → Prop} {S : Nat → Heap → Prop} {R : Result → Shared → Prop} {Q : Flow → Shared → Prop} {bnd : Nat → Value → NsM → NsM} (J : Nat → NsM → List (Addr × Obj) → Prop)
    (W : Walks prg w A I fp wr n P S) (hex : ∀ i h, S i h → ∀ b ∈ fp, ∃ o, h.get? b = some o)
    (C : Cx w g ((L, m) :: fr) h news) (hst : S 0 h) (hL : L ∉ fp) (hf : ∀ p ∈ fr, p.1 ∉ fp) (hnf : ∀ q ∈ news, q.1 ∉ fp) (hgw : ∀ b ∈ wr, g.get? b = none) (hJ : J 0 m news)
    (hgo : ∀ i v h k (Q : Unit → Shared → Prop) E, S (i + 1) h → P i v → Q () (St s h k) → wpAny (model prg w) A (letOwnedTupleGo target (.ref I) v) Q E (St s h k))
    (hasg : ∀ i v g' h m nx k (Q : Unit → Shared → Prop) E, P i v → g.StaysIn g' → Cx w g' ((L, m) :: fr) h nx → (∀ h' k', Cx w g' ((L, bnd i v m) :: fr) h' nx → Q () (St s h' k')) → wpAny (model prg w) A (assign target env v) Q E (St s h k))
    (hE : ∀ e s', E₁ e s' → Noted (model prg w) A env R e s') (hQ : ∀ f s', Q f s' → R (.ok f) s')
    (turn : ∀ i v g' h m nx k, i < n → P i v → J i m nx → g.StaysIn g' → Cx w g' ((L, bnd i v m) :: fr) h nx → wpG κ (model prg w) A (execs body env) (Tn w s g' L fr (J (i + 1)) Q) E₁ (St s h k))
    (done : ∀ h m nx k, Cx w g ((L, m) :: fr) h nx → J n m nx → Q .next (St s h k)) : codeG κ (model prg w) A (.forLoop target (.ref I) body [] env) R (St s h k) := by
  refine cgFor (fun q s' => ∃ i h m nx k, s' = St s h k ∧ Cx w g ((L, m) :: fr) h nx ∧ S i h ∧ (∀ q ∈ nx, q.1 ∉ fp) ∧ J i m nx ∧ i ≤ n ∧ q = n - i) ?_ n ⟨0, h, m, news, k, rfl, C, hst, hnf, hJ, Nat.zero_le _, rfl⟩
  rintro q s' ⟨i, h, m, nx, k, rfl, C, hst, hnf, hJ, hi, rfl⟩
  have hf' : ∀ (m : NsM) (p), p ∈ ((L, m) :: fr : Fs) → p.1 ∉ fp := fun m p hp => by
    rcases List.mem_cons.mp hp with rfl | hp
    · exact hL
    · exact hf p hp
  have walked : ∀ h₁ : Heap, (∀ b o, b ∉ wr → h.get? b = some o → h₁.get? b = some o) → Cx w g ((L, m) :: fr) h₁ nx := fun h₁ hk =>
    C.walked hk (fun p hp hb => hf' m p hp (W.sub _ hb)) (fun q hq hb => hnf q hq (W.sub _ hb)) hgw
  have kept : ∀ {m m' : NsM} {nx nx' : List (Addr × Obj)} {h₁ h₂ : Heap} {j : Nat}, (∀ q ∈ nx, q.1 ∉ fp) → S j h₁ → Cx w (reb h₁ ((L, m) :: fr) nx) ((L, m') :: fr) h₂ nx' → S j h₂ ∧ ∀ q ∈ nx', q.1 ∉ fp := fun {m m' nx nx' h₁ h₂ j} hnf S₁ C₂ => by
    have got : ∀ b ∈ fp, ∀ o, h₁.get? b = some o → (reb h₁ ((L, m) :: fr) nx).get? b = some o := fun b hb o e => reb_get e (fun p hp z => hf' m p hp (z ▸ hb)) fun p hp z => hnf p hp (z ▸ hb)
    refine ⟨W.frame _ _ _ S₁ fun b hb o e => C₂.keep b o (got b hb o e), fun q hq hb => ?_⟩
    obtain ⟨o, e⟩ := hex _ _ S₁ q.1 hb
    have := (C₂.N q hq).2.1
    rw [got _ hb o e] at this
    cases this
  by_cases hlt : i < n
  · refine W.item i _ _ _ hlt hst fun v h₁ tk₁ hP hst₁ hk₁ => ?_
    refine hgo i v h₁ tk₁ _ _ hst₁ hP ?_
    have C₁ := walked h₁ hk₁
    refine hasg i v _ h₁ m nx tk₁ _ _ hP C₁.grow C₁.rebase fun h₂ k₂ C₂ => ?_
    obtain ⟨S₂, hn₂⟩ := kept hnf hst₁ C₂
    refine gMono (turn i v _ h₂ m nx k₂ hlt hP hJ C₁.grow C₂) (fun f s₃ x => ?_) hE
    have fin : ∀ h' m' nx' k', Cx w (reb h₁ ((L, m) :: fr) nx) ((L, m') :: fr) h' nx' → J (i + 1) m' nx' → ∃ q', q' < n - i ∧ ∃ i' h m nx k, St s h' k' = St s h k ∧ Cx w g ((L, m) :: fr) h nx ∧ S i' h ∧ (∀ q ∈ nx, q.1 ∉ fp) ∧ J i' m nx ∧ i' ≤ n ∧ q' = n - i' := fun h' m' nx' k' C' hJ' => by
      obtain ⟨S', hn'⟩ := kept hnf hst₁ C'
      exact ⟨n - (i + 1), Nat.sub_succ_lt_self _ _ hlt, i + 1, h', m', nx', k', rfl, C'.less C.G C₁.grow, S', hn', hJ', hlt, rfl⟩
    cases f with
    | next => obtain ⟨h', m', nx', k', rfl, C', hJ'⟩ := x; exact fin h' m' nx' k' C' hJ'
    | cont => obtain ⟨h', m', nx', k', rfl, C', hJ'⟩ := x; exact fin h' m' nx' k' C' hJ'
    | brk => exact hQ _ _ x
    | ret v => exact hQ _ _ x
  · have hin : i = n := Nat.le_antisymm hi (Nat.not_lt.mp hlt)
    subst hin
    refine W.done _ _ _ hst fun h₁ tk₁ hk₁ => hQ _ _ (done h₁ m nx tk₁ (walked h₁ hk₁) hJ)
abbrev ForG (κ : Bool) (w : World) (A : Around) (s : Shared) (target : Expr) (body : List Stmt) (env : Env) (rest : List Stmt) (Q : Flow → Shared → Prop) (E : Value → Shared → Prop) (v₀ : Value) (s' : Shared) : Prop :=
  wpAny (model prg w) A (pyIter v₀) (fun it s₂ => codeG κ (model prg w) A (.forLoop target it body [] env) (Lr (model prg w) A env (Sq κ (model prg w) A env rest Q E) E) s₂) E s'
theorem forI {v₀ : Value} {oI : Obj} {fp : List Addr} {n : Nat} {P : Nat → Value → Prop} {S : Nat → Heap → Prop} {Q : Flow → Shared → Prop} {bnd : Nat → Value → NsM → NsM} (J : Nat → NsM → List (Addr × Obj) → Prop)
    (C : Cx w g ((L, m) :: fr) h news)
    (hit : ∀ k (Q : Value → Shared → Prop) E, Q (.ref h.objs.size) (St s (h.push oI) k) → wpAny (model prg w) A (pyIter v₀) Q E (St s h k))
    (W : Walks prg w A h.objs.size (h.objs.size :: fp) [h.objs.size] n P S) (hfp : ∀ b ∈ fp, ∃ o, g.get? b = some o) (hex : ∀ i h', S i h' → ∀ b ∈ h.objs.size :: fp, ∃ o, h'.get? b = some o) (hst : S 0 (h.push oI)) (hJ : J 0 m news)
    (hgo : ∀ i v h' k (Q : Unit → Shared → Prop) E, S (i + 1) h' → P i v → Q () (St s h' k) → wpAny (model prg w) A (letOwnedTupleGo target (.ref h.objs.size) v) Q E (St s h' k))
    (hasg : ∀ i v g' h m nx k (Q : Unit → Shared → Prop) E, P i v → g.StaysIn g' → Cx w g' ((L, m) :: fr) h nx → (∀ h' k', Cx w g' ((L, bnd i v m) :: fr) h' nx → Q () (St s h' k')) → wpAny (model prg w) A (assign target env v) Q E (St s h k))
    (hE : ∀ e s', E₁ e s' → Noted (model prg w) A env (Lr (model prg w) A env (Sq κ (model prg w) A env rest Q E) E) e s')
    (turn : ∀ i v g' h m nx k, i < n → P i v → J i m nx → g.StaysIn g' → Cx w g' ((L, bnd i v m) :: fr) h nx → wpG κ (model prg w) A (execs body env) (Tn w s g' L fr (J (i + 1)) (Sq κ (model prg w) A env rest Q E)) E₁ (St s h k))
    (done : ∀ h m nx k, Cx w g ((L, m) :: fr) h nx → J n m nx → wpG κ (model prg w) A (execs rest env) Q E (St s h k)) : ForG κ w A s target body env rest Q E v₀ (St s h k) := by
  have no : ∀ b, h.get? b ≠ none → b ∉ fp → b ∉ h.objs.size :: fp := fun b hb hf hm => by
    rcases List.mem_cons.mp hm with rfl | hm
    · exact hb (get_size h)
    · exact hf hm
  have gn : ∀ b, g.get? b = none → b ∉ fp := fun b hb hf => by obtain ⟨o, e⟩ := hfp b hf; rw [hb] at e; cases e
  have fn : ∀ p ∈ ((L, m) :: fr : Fs), p.1 ∉ h.objs.size :: fp := fun p hp => no _ (by obtain ⟨o, _, _, e, _⟩ := (C.F p hp).1; rw [e]; intro z; cases z) (gn _ (C.F p hp).2)
  exact hit k _ _ (forX (R := Lr (model prg w) A env (Sq κ (model prg w) A env rest Q E) E) (m := m) J W hex (C.on (stays_push h oI)) hst (fn _ (.head _)) (fun p hp => fn p (.tail _ hp))
    (fun q hq => no _ (by rw [(C.N q hq).1]; intro z; cases z) (gn _ (C.N q hq).2.1)) (fun b hb => by rw [List.mem_singleton.mp hb]; exact C.no (get_size h)) hJ hgo hasg hE (fun _ _ y => y) turn done)
end
section
variable {κ : Bool} {w : World} {A : Around} {s : Shared} {g h : Heap} {fr : Fs} {L a : Addr} {m : NsM} {news : List (Addr × Obj)} {cn : Str} {cs : Scope} {ccd : Value} {cl : List (Str × Addr)}
  {E E₁ : Value → Shared → Prop} {k : Nat} {rest body : List Stmt} {e target : Expr} {pos px py pt : Pos} {x y : Str} {nt : Nat}
theorem asgN {A : Around} (hk : cs.kind = .function := by rfl) (hx : cs.names.lookup x = some .local := by rfl) : ∀ (i : Nat) (v : Value) (g' h : Heap) (m : NsM) (nx : List (Addr × Obj)) (k : Nat) (Q : Unit → Shared → Prop) (E : Value → Shared → Prop), Cx w g' ((L, m) :: fr) h nx →
    (∀ h' k', Cx w g' ((L, up m x v) :: fr) h' nx → Q () (St s h' k')) → wpAny (model prg w) A (assign (.Name x px) (envX cn cs L a ccd cl) v) Q E (St s h k) :=
  fun _ _ _ _ _ _ _ _ _ C hQ => wpAny_assign_Name (stoX C hQ hk hx)
theorem asgT {A : Around} (hh : A.handled = none) {t : Addr} {u v : Value} {Q : Unit → Shared → Prop} (C : Cx w g ((L, m) :: fr) h news) (ht : h.IsTuple t #[u, v]) (hQ : ∀ h' k', Cx w g ((L, up (up m x u) y v) :: fr) h' news → Q () (St s h' k'))
    (hk : cs.kind = .function := by rfl) (hx : cs.names.lookup x = some .local := by rfl) (hy : cs.names.lookup y = some .local := by rfl) :
    wpAny (model prg w) A (assign (.Tuple [.Name x px, .Name y py] nt pt) (envX cn cs L a ccd cl) (.ref t)) Q E (St s h k) :=
  wpAny_assign_Tuple (s := St s h k) hh ht rfl rfl fun h₁ he => by
    have C₁ : Cx w g ((L, m) :: fr) h₁ news := C.on fun b o e => he b o (Nat.ne_of_lt (Heap.lt_size e)) e
    show wpAny _ _ (do holding [v] (assign (.Name x px) (envX cn cs L a ccd cl) u); do holding [] (assign (.Name y py) (envX cn cs L a ccd cl) v); pure ()) _ _ _
    exact wpAny_bind (wpAny_holding (wpAny_assign_Name (stoX C₁ (fun h₂ k₂ C₂ => wpAny_bind (wpAny_holding (wpAny_assign_Name (stoX C₂ (fun h₃ k₃ C₃ => wpAny_pure (hQ h₃ k₃ C₃)) hk hy)))) hk hx)))
theorem goTupleIter {elts : List Expr} {I l T : Addr} {i : Nat} {Q : Unit → Shared → Prop} {s : Shared} (hit : s.heap.IsTupleIter I l i) (hQ : Q () s) : wpAny (model prg w) A (letOwnedTupleGo (.Tuple elts nt pos) (.ref I) (.ref T)) Q E s := by
  obtain ⟨o, ho, hc, hd⟩ := hit
  unfold letOwnedTupleGo
  refine wpAny_bind (wpAny_load ho ?_)
  rw [hc, hd]
  show wpAny _ A (if (["enumerate", "zip", "dict_itemiterator", "dict_reverseitemiterator", "odict_iterator", "itertools.zip_longest", "itertools.pairwise"].contains "tuple_iterator" && (#[.ref l, .int i 0] : Array Value)[0]? == some (rawInt T)) = true then _ else _) Q E s
  rw [show (["enumerate", "zip", "dict_itemiterator", "dict_reverseitemiterator", "odict_iterator", "itertools.zip_longest", "itertools.pairwise"].contains "tuple_iterator") = false from by decide, Bool.false_and]
  exact wpAny_pure hQ
theorem two {I a : Addr} {h : Heap} (h1 : ∃ o, h.get? I = some o) (h2 : ∃ o, h.get? a = some o) : ∀ b ∈ [I, a], ∃ o, h.get? b = some o := fun b hb => by
  rcases List.mem_cons.mp hb with rfl | hb
  · exact h1
  · rw [List.mem_singleton.mp hb]; exact h2
theorem forTup {t₀ : Addr} {items : Array Value} {Q : Flow → Shared → Prop} (J : Nat → NsM → List (Addr × Obj) → Prop) (hh : A.handled = none) (C : Cx w g ((L, m) :: fr) h news) (ht : g.IsTuple t₀ items) (hJ : J 0 m news)
    (turn : ∀ i v g' h m nx k, items[i]? = some v → J i m nx → g.StaysIn g' → Cx w g' ((L, up m x v) :: fr) h nx → wpG κ (model prg w) A (execs body (envX cn cs L a ccd cl)) (Tn w s g' L fr (J (i + 1)) (Sq κ (model prg w) A (envX cn cs L a ccd cl) rest Q E)) No (St s h k))
    (done : ∀ h m nx k, Cx w g ((L, m) :: fr) h nx → J items.size m nx → wpG κ (model prg w) A (execs rest (envX cn cs L a ccd cl)) Q E (St s h k))
    (hk : cs.kind = .function := by rfl) (hx : cs.names.lookup x = some .local := by rfl) : ForG κ w A s (.Name x px) body (envX cn cs L a ccd cl) rest Q E (.ref t₀) (St s h k) := by
  obtain ⟨ot, hot, hor⟩ := id ht
  have hth : h.IsTuple t₀ items := ht.at fun o z => C.keep _ _ z
  exact forI (bnd := fun _ v m => up m x v) J C (fun k Q E hQ => wpAny_pyIter_tuple (s := St s h k) hth hQ)
    (Walks.tuple (prog := prg) (w := w) (A := A) hh h.objs.size t₀ (Nat.ne_of_lt (Heap.lt_size (C.keep _ _ hot))) items) (fun b hb => by rw [List.mem_singleton.mp hb]; exact ⟨ot, hot⟩)
    (fun i h' S => two (let ⟨o, ho, _⟩ := S.1; ⟨o, ho⟩) (let ⟨o, ho, _⟩ := S.2; ⟨o, ho⟩)) ⟨⟨_, Heap.get?_push_size _ rfl, rfl, rfl⟩, hth.at fun o z => Heap.get?_push_of_some _ z⟩ hJ
    (fun i v h' k Q E _ _ hQ => wpAny_of_eq rfl hQ) (fun i v g' h m nx k Q E _ _ C hQ => asgN hk hx i v g' h m nx k Q E C hQ) (fun _ _ z => False.elim z) (fun i v g' h m nx k _ hP => turn i v g' h m nx k hP) done
theorem forRng {i₀ j : Int} {r : Addr} {n : Nat} {Q : Flow → Shared → Prop} {st : Int} {ta tb tc : Tok} (J : Nat → NsM → List (Addr × Obj) → Prop) (hh : A.handled = none) (C : Cx w g ((L, m) :: fr) h news)
    (hr : IsRange h r i₀ j st ta tb tc) (hsm : Builtin.Range.small i₀ j st = true) (hn : Builtin.Range.rangeSize i₀ j st = n) (hJ : J 0 m news)
    (turn : ∀ i t g' h m nx k, i < n → J i m nx → g.StaysIn g' → Cx w g' ((L, up m x (.int (i₀ + i * st) t)) :: fr) h nx → wpG κ (model prg w) A (execs body (envX cn cs L a ccd cl)) (Tn w s g' L fr (J (i + 1)) (Sq κ (model prg w) A (envX cn cs L a ccd cl) rest Q E)) No (St s h k))
    (done : ∀ h m nx k, Cx w g ((L, m) :: fr) h nx → J n m nx → wpG κ (model prg w) A (execs rest (envX cn cs L a ccd cl)) Q E (St s h k))
    (hk : cs.kind = .function := by rfl) (hx : cs.names.lookup x = some .local := by rfl) : ForG κ w A s (.Name x px) body (envX cn cs L a ccd cl) rest Q E (.ref r) (St s h k) := by
  refine forI (bnd := fun _ v m => up m x v) (fp := []) J C (fun k Q E hQ => wpAny_pyIter_range (s := St s h k) hr hsm hQ)
    (Walks.range (prog := prg) (w := w) (A := A) hh h.objs.size i₀ st n) (fun b hb => nomatch hb) (fun i h' S b hb => ⟨_, (List.mem_singleton.mp hb) ▸ S⟩) ?_ hJ
    (fun i v h' k Q E _ _ hQ => wpAny_of_eq rfl hQ) (fun i v g' h m nx k Q E _ _ C hQ => asgN hk hx i v g' h m nx k Q E C hQ) (fun _ _ z => False.elim z) (fun i v g' h m nx k hi hP hJ hg C => ?_) done
  · show (h.push _).get? h.objs.size = _
    rw [hn, show i₀ + ((0 : Nat) : Int) * st = i₀ by rw [Int.natCast_zero, Int.zero_mul, Int.add_zero], show ((n : Nat) : Int) - ((0 : Nat) : Int) = n from Int.sub_zero _]
    exact Heap.get?_push_size _ rfl
  · obtain ⟨t, rfl⟩ := hP
    exact turn i t g' h m nx k hi hJ hg C
end
end Mine

open PySem PySem.W PySem.Calls PyProof.Rows
set_option Elab.async false
set_option maxRecDepth 100000
set_option linter.unusedVariables false
namespace Mine
theorem fill_Dr : PySem.Challenge.rw_no0072_01.row.prog = PySem.Challenge.rw_no0072_01.row.prog ∧ (KK = KK) := by
  k_fill
  exact ⟨rfl, rfl⟩
local macro_rules | `(tactic| walk_at "M enter") => `(tactic| ((case k1 => k_is); (case k2 => k_is); (case k3 => exact fun _ => .of_eq rfl); (case k4 => rfl)))
def Inner (g : Heap) (l : Addr) : Prop := ∃ items : Array Value, g.IsList l items ∧ 0 < items.size ∧ items.size < 100 ∧ ∀ (i : Nat) (v : Value), items[i]? = some v → ∃ x t, v = Value.int x t ∧ 0 ≤ x ∧ x < 99991
theorem Inner.keeps {g h : Heap} {l : Addr} (I : Inner g l) (k : g.StaysIn h) : Inner h l := by
  obtain ⟨items, ⟨o, ho, r⟩, q⟩ := I
  exact ⟨items, ⟨o, k _ _ ho, r⟩, q⟩
def BoxO (l : Addr) (o : Obj) : Prop := ∃ a k ta tk, LsO o #[.int a ta, .ref l, .int k tk] ∧ 0 ≤ a ∧ a < 1000003 ∧ 0 ≤ k
def Draws (w : World) (s : Shared) (fa : Addr) (n : Nat) (R : Heap → Value → Prop) : Prop :=
  ∀ {κ : Bool} {A : Around} {g h : Heap} {fr : Fs} {news : List (Addr × Obj)} {b l : Addr} {o : Obj} {G : Obj → List (Addr × Obj)} {k : Nat} {Q E : Value → Shared → Prop}, Rm A n → Cx w g fr h news → UpdF b o news G → BoxO l o → Inner g l →
    (∀ g' h' k' o' v, g.StaysIn g' → Cx w g' fr h' (G o') → BoxO l o' → R g' v → Q v (St s h' k')) → wpG κ (model prg w) A (call (.ref fa) [.ref b]) Q E (St s h k)
theorem next_d {w : World} {s : Shared} : Draws w s 212 1 fun _ v => ∃ x t, v = .int x t ∧ 0 ≤ x ∧ x < 76924 := by
  intro κ A g h fr news b l o G k Q E hR C U B I ret
  refine' enterG (binds := [("box", .ref b)]) C hR.lt ?k1 ?k2 ?k3 ?k4 fun L h₁ k₁ C₁ => ?_
  walk_at "M enter"
  obtain ⟨a, q, ta, tq, ho, a0, a1, q0⟩ := B
  obtain ⟨items, hl, n0, n1, hit⟩ := I.keeps C₁.keep
  have hb := ho.is (C₁.N _ (updIn U)).1
  have p0 := Int.emod_nonneg q (b := items.size) (by omega)
  have p1 := Int.emod_lt_of_pos q (b := items.size) (by omega)
  obtain ⟨x, t, hv, x0, x1⟩ := hit (q % items.size).toNat _ (Array.getElem?_eq_getElem (by omega))
  have hv := (Array.getElem?_eq_getElem (by omega : (q % items.size).toNat < items.size)).trans (congrArg some hv)
  refine setL C₁ U ho (pMod (pAdd (pAdd (pMul (pItL hb (nmL C₁) cI (by decide) rfl) cI (by omega)) cI) (pItL hl (pItL hb (nmL C₁) cI (by decide) rfl) (pMod (pItL hb (nmL C₁) cI (by decide) rfl)
    (pLenL C₁ hl (pItL hb (nmL C₁) cI (by decide) rfl) (by omega) (hv := by k_is)) (by omega)) (by omega) hv)) cI (by omega)) (nmL C₁) cI ⟨by decide, by decide, (by decide : (0 : Int) < (3 : Nat))⟩ fun h₂ t₂ k₂ o₂ C₂ ho₂ => ?_
  have y0 := Int.emod_nonneg (a * 4021 + 9973 + x) (b := 1000003) (by decide)
  have y1 := Int.emod_lt_of_pos (a * 4021 + 9973 + x) (b := 1000003) (by decide)
  generalize (a * 4021 + 9973 + x) % 1000003 = y at *
  have hb₂ := ho₂.is (C₂.N _ (updIn (updNext U))).1
  refine setL C₂ (updNext U) ho₂ (pAdd (pItL hb₂ (nmL C₂) cI (by decide) rfl) cI) (nmL C₂) cI ⟨by decide, by decide, (by decide : (2 : Int) < (3 : Nat))⟩ fun h₃ t₃ k₃ o₃ C₃ ho₃ => ?_
  have hb₃ := ho₃.is (C₃.N _ (updIn (updNext U))).1
  exact retP (pDiv (pItL hb₃ (nmL C₃) cI (by decide) rfl) cI (by decide)) fun t k' => ret g _ _ o₃ _ (fun _ _ e => e) C₃.pop ⟨y, q + 1, _, _, ho₃, y0, y1, by omega⟩ ⟨_, _, rfl, by omega, by omega⟩
end Mine

open PySem PySem.W PySem.Calls PyProof.Rows
set_option Elab.async false
set_option maxRecDepth 100000
set_option linter.unusedVariables false
namespace Mine
namespace BA
theorem mro : mroOf (.type "bytearray") = pure [.type "bytearray", .type "object"] := by rw [mroOf_type]; kernel_rfl
theorem lookNew : typeLookup (.type "bytearray") "__new__" = pure (some (.builtin "bytearray.__new__")) := by rw [typeLookup_type, builtinLookup_eq_fast]; kernel_rfl
theorem sub : isSubtype (.type "bytearray") (.type "bytearray") = pure true := by rw [isSubtype_type]; kernel_rfl
theorem slotInit : Slot "bytearray" "__init__" "bytearray.__init__" :=
  .of (owner := "bytearray") (n := "__init__") (by rw [typeLookup_type, builtinLookup_eq_fast]; kernel_rfl) (by decide +kernel) (by decide +kernel) (by decide +kernel)
    (by first | exact .inl (by decide +kernel) | exact .inr (by decide +kernel)) sub
theorem called : TypeCalled "bytearray" "bytearray.__new__" "bytearray.__init__" :=
  ⟨by decide +kernel, by decide +kernel, ⟨_, _, mro⟩, madeBy_type mro lookNew (by decide +kernel), by decide +kernel, sub, slotInit⟩
theorem typeCall (a : Value) : checkTypeCall "bytearray" ⟨[a], []⟩ = pure () := by kernel_rfl
theorem newCall (a : Value) : checkBuiltinCall "bytearray.__new__" ⟨[.type "bytearray", a], []⟩ = pure () := by kernel_rfl
theorem entryNew : entryFor table "bytearray.__new__" = some Builtin.«list.__new__» :=
  entryFor_alias (id' := "list.__new__") (by kernel_rfl) (by first | rfl | decide +kernel | (unfold String.splitOn; simp +decide [String.splitOnAux])) (by decide +kernel) (by kernel_rfl)
theorem entryInit : entryFor table "bytearray.__init__" = some Builtin.«bytearray.__init__» := by first | exact entryFor_of_fast (by kernel_rfl) | exact entryFor_of_tree (by kernel_rfl)
set_option maxRecDepth 1000000 in
set_option maxHeartbeats 4000000 in
theorem owner : ("bytearray.__new__".splitOn ".__new__").headD "" = "bytearray" := by simp +decide [String.splitOn, String.splitOnAux]
theorem initArgs (obj a : Value) : argsOk "bytearray.__init__" ⟨[obj, a], []⟩ := by
  unfold argsOk
  kernel_rfl
theorem binds (v : Value) : Builtin.Bytes.bindOptional "bytearray.__init__" "bytearray" ["source", "encoding", "errors"] [v] [] = pure [some v, none, none] := by kernel_rfl
section
variable {prog : Program} {w : World} {A : Around} {E : Value → Shared → Prop} {s : Shared}
theorem codeNew (a : Value) {Q₁ : Value → Shared → Prop} (h : Q₁ (.ref s.heap.objs.size) { s with heap := s.heap.push { cls := .type "bytearray", data := .bytearray #[] } }) :
    codeAny (model prog w) A (.call (.builtin "bytearray.__new__") ⟨[.type "bytearray", a], []⟩) (wants Q₁ E) s := by
  refine codeAny_of_tree ?_
  show wpAny _ A.in1 (do checkBuiltinCall "bytearray.__new__" ⟨[.type "bytearray", a], []⟩; again (.builtin "bytearray.__new__" ⟨[.type "bytearray", a], []⟩)) _ _ s
  refine wpAny_bind (wpAny_of_eq (newCall a) (wpAny_pure ⟨plainId_quiet called.plain _, codeAny_builtin_stack entryNew rfl fun p st => ?_⟩))
  rw [Around.under_plainId called.plain _]
  have hsub := sub
  have hown := owner
  obtain ⟨hp, g, d, tk, os⟩ := s
  simp only [hown]
  wp_walk
  exact h
theorem lookRel : typeLookup (.type "bytearray") "__release_buffer__" = pure (some (.builtin "bytearray.__release_buffer__")) := by rw [typeLookup_type, builtinLookup_eq_fast]; kernel_rfl
theorem ownRel {b : Addr} {Q : Bool → Shared → Prop} (hT : s.TypeIs (.ref b) "bytearray") (h : Q false s) : wpAny (model prog w) A (Builtin.Bytes.ownRelease (.ref b)) Q E s := by
  unfold Builtin.Bytes.ownRelease Builtin.Bytes.slotIsOwn
  refine wpAny_bind (wpAny_bind (wpAny_specialOf hT lookRel ?_))
  have e : ("bytearray.__release_buffer__".endsWith ("." ++ "__release_buffer__")) = true := by decide +kernel
  set_option linter.deprecated false in
  have e2 : ("bytearray.__release_buffer__".dropRight ("__release_buffer__".length + 1)) = "bytearray" := by decide +kernel
  simp only [e, Bool.not_true, Bool.false_eq_true, if_false, e2]
  refine wpAny_isInstance hT sub ?_
  exact wpAny_pure h
theorem exported {b : Addr} {Q : Bool → Shared → Prop} (h : Q false s) : wpG true (model prog w) A (Builtin.Bytes.exported (.ref b)) Q E s := fun Γ p hΓ hC => by
  show Q (((Γ.code, p) :: Γ.below).any _) s
  rw [show ((Γ.code, p) :: Γ.below).any _ = false from ?_]
  · exact h
  · refine List.any_eq_false.mpr fun q hq hx => ?_
    have z : Cln q.1 := by
      rcases List.mem_cons.mp hq with rfl | hq
      · exact (hC rfl).here
      · exact (hC rfl).below q hq
    have y : (_ || false) = false := z (model prog w) b q.2 s
    rw [Bool.or_false] at y
    exact Bool.false_ne_true (y.symm.trans hx)
abbrev baO (x : Array UInt8) : Obj := { cls := .type "bytearray", data := .bytearray x }
theorem write {b : Addr} {x : Array UInt8} {f : Array UInt8 → Array UInt8} {Q : Unit → Shared → Prop} (ho : s.heap.get? b = some (baO x)) (hz : (f x).size ≤ sizeLine)
    (h : ∀ h', Heap.SameBut b s.heap h' → h'.get? b = some (baO (f x)) → Q () { s with heap := h' }) : wpAny (model prog w) A (Builtin.Bytes.write (.ref b) f) Q E s := by
  show wpAny _ _ (updateBytearray b f) _ _ _
  unfold updateBytearray
  refine wpAny_bind (wpAny_load ho ?_)
  show wpAny _ _ (update b (Obj.mapBytearray f) >>= fun _ => lookBehind b) _ _ _
  refine wpAny_bind (wpAny_update ho ?_)
  have h₂ : (s.heap.update b (Obj.mapBytearray f)).get? b = some (baO (f x)) := Heap.get?_update_self (Obj.mapBytearray f) ho rfl
  refine wpAny_lookBehind h₂ ?_ (h _ (Heap.SameBut.update ..) h₂)
  show (if (f x).size > sizeLine then some "bytearray:memory" else none) = none
  rw [if_neg]
  omega
theorem clnType (a b : Value) : Cln (.builtin "type.__call__" ⟨[a, b], []⟩) := fun _ c _ _ => by
  show ((Builtin.Bytes.sameRef a (.ref c) && _) || false) = false
  rw [show Builtin.Bytes.decodersThatHold.contains "type.__call__" = false by decide +kernel, Bool.and_false]; rfl
theorem clnInit (a b : Value) : Cln (.builtin "bytearray.__init__" ⟨[a, b], []⟩) := fun _ c _ _ => by
  show ((Builtin.Bytes.sameRef a (.ref c) && _) || false) = false
  rw [show Builtin.Bytes.decodersThatHold.contains "bytearray.__init__" = false by decide +kernel, Bool.and_false]; rfl
theorem initG {b : Addr} {n : Int} {t : Tok} {Q : Fin → Shared → Prop} (ho : s.heap.get? b = some (baO #[])) (h0 : 0 < n) (h1 : n ≤ 16)
    (h : ∀ h', Heap.ExtBut b s.heap h' → h'.get? b = some (baO (Array.replicate n.toNat 0)) → Q (.done (.ret .none)) { s with heap := h' }) :
    wpG true (model prog w) A (Builtin.«bytearray.__init__» ⟨[.ref b, .int n t], []⟩) Q E s := by
  unfold Builtin.«bytearray.__init__»
  refine gBind (gOf (ownRel ⟨_, ho, rfl⟩ ?_))
  show wpG _ _ _ (Builtin.Bytes.bindOptional "bytearray.__init__" "bytearray" ["source", "encoding", "errors"] [.int n t] [] >>= _) _ _ _
  refine gBind (gEq (binds _) ?_)
  refine gBind (gEq (a := ()) rfl ?_)
  refine gBind (gEq (a := ()) rfl ?_)
  refine gBind (gBind (exported ?_))
  refine gBind (gOf (wpAny_bind (wpAny_load ho (wpAny_pure ?_))))
  refine gPure (gOf ?_)
  show wpAny _ _ (Builtin.Bytes.write (.ref b) (fun _ => #[]) >>= _) _ _ _
  refine wpAny_bind (write ho (Nat.zero_le _) fun h₁ hs₁ ho₁ => ?_)
  refine wpAny_bind (wpAny_of_eq (a := none) rfl ?_)
  show wpAny _ _ (pure () >>= _) _ _ _
  refine wpAny_bind (wpAny_pure ?_)
  refine wpAny_bind (wpAny_specialOf (T := "int") (typeIs_int _ _ _) F.slot_int_index.lookup ?_)
  show wpAny _ _ ((asIndex (.int n t)).attempt >>= _) _ _ _
  refine wpAny_bind (wpAny_of_eq (a := Except.ok n) rfl ?_)
  have f1 : Builtin.Bytes.fitsIndex n = true := by
    unfold Builtin.Bytes.fitsIndex
    simp only [Bool.and_eq_true, decide_eq_true_eq]
    omega
  have f2 : ¬ n < 0 := by omega
  have f3 : (n == 2 ^ 63 - 1) = false := by rw [beq_eq_false_iff_ne]; omega
  have f4 : Builtin.Bytes.tooLong n.toNat = false := KBy.tooLong_not (by omega)
  simp only [f1, f2, f3, f4, Bool.not_true, Bool.false_eq_true, if_false, h0, if_true]
  refine wpAny_bind (wpAny_rule ?_)
  refine wpAny_bind (write ho₁ ?_ fun h₂ hs₂ ho₂ => ?_)
  · rw [Array.size_replicate, sizeLine_eq]; omega
  · exact wpAny_pure (h h₂ (fun c o hc e => (hs₂.2 c hc).trans ((hs₁.2 c hc).trans e)) ho₂)
theorem callG {n : Int} {t : Tok} {Q : Value → Shared → Prop} (h0 : 0 < n) (h1 : n ≤ 16)
    (h : ∀ h' b, s.heap.get? b = none → s.heap.StaysIn h' → h'.get? b = some (baO (Array.replicate n.toNat 0)) → Q (.ref b) { s with heap := h' }) :
    wpG true (model prog w) A (call (.type "bytearray") [.int n t]) Q E s := by
  refine gCallC (cgTree ?_)
  show wpG _ _ _ (callAny (.type "bytearray") _) _ _ _
  refine gPure ⟨Code.quiet_builtin _ (by decide +kernel), clnType _ _, cgBuiltin F.entry_type_call ?_⟩
  show wpG _ _ _ (Builtin.«type.__call__» ⟨[.type "bytearray", .int n t], []⟩) _ _ _
  unfold Builtin.«type.__call__»
  have c1 : (Value.type "bytearray" == Value.type "type") = false := by decide +kernel
  simp only [c1, Bool.false_eq_true, if_false]
  rw [if_neg (by intro q; exact absurd (called.canCreate.symm.trans q) Bool.false_ne_true)]
  refine gBind (gEq (typeCall _) ?_)
  refine gBind (gEq mro ?_)
  simp only [List.isEmpty_cons, Bool.false_eq_true, if_false]
  refine gBind (gEq called.made ?_)
  show wpG _ _ _ (pure (Value.builtin _) >>= _) _ _ _
  refine gBind (gPure ?_)
  refine gBind (gHolding (gOf (wpAny_call (codeAny_mono (codeNew _ ?_) fun r s₁ hr => hr))))
  have hb : (s.heap.push (baO #[])).get? s.heap.objs.size = some (baO #[]) := Heap.get?_push_size _ rfl
  have hT : ({ s with heap := s.heap.push (baO #[]) } : Shared).TypeIs (.ref s.heap.objs.size) "bytearray" := ⟨_, hb, rfl⟩
  refine gBind (gOf (wpAny_isInstance hT sub ?_))
  simp only [Bool.not_true, Bool.false_eq_true, if_false]
  refine gBind (gHolding ?_)
  unfold callSpecial?
  refine gBind (gOf (wpAny_specialOf hT slotInit.lookup ?_))
  refine gHolding ?_
  refine gBind (gEq (slotInit.bind _) ?_)
  refine gBind (gCallC (cgTree ?_))
  show wpG _ _ _ (do checkBuiltinCall "bytearray.__init__" ⟨[.ref s.heap.objs.size, .int n t], []⟩; again (.builtin "bytearray.__init__" ⟨[.ref s.heap.objs.size, .int n t], []⟩)) _ _ _
  refine gBind (gOf (slotInit.check _ _ _ _ _ _ _ _ hT (initArgs _ _) ?_))
  refine gPure ⟨plainId_quiet slotInit.plain _, clnInit _ _, cgBuiltin entryInit ?_⟩
  refine initG hb h0 h1 fun h' hx ho => ?_
  refine gPure (gPure ?_)
  exact h h' _ (get_size _) (fun c o e => hx c o (Nat.ne_of_lt (Heap.lt_size e)) (Heap.get?_push_of_some _ e)) ho
theorem slotSet : Slot "bytearray" "__setitem__" "bytearray.__setitem__" :=
  .of (owner := "bytearray") (n := "__setitem__") (by rw [typeLookup_type, builtinLookup_eq_fast]; kernel_rfl) (by decide +kernel) (by decide +kernel) (by decide +kernel)
    (by first | exact .inl (by decide +kernel) | exact .inr (by decide +kernel)) sub
theorem entrySet : entryFor table "bytearray.__setitem__" = some Builtin.«bytearray.__setitem__» := by first | exact entryFor_of_fast (by kernel_rfl) | exact entryFor_of_tree (by kernel_rfl)
theorem argsSet (a b c : Value) : argsOk "bytearray.__setitem__" ⟨[a, b, c], []⟩ := by
  unfold argsOk
  kernel_rfl
theorem subIdx {i : Int} {t : Tok} {Q : Option Int → Shared → Prop} (hr : Builtin.Bytes.fitsIndex i = true) (h : Q (some i) s) : wpAny (model prog w) A (Builtin.Bytes.subscript? (.int i t)) Q E s := by
  unfold Builtin.Bytes.subscript?
  refine wpAny_bind (wpAny_specialOf (typeIs_int s i t) F.slot_int_index.lookup ?_)
  show wpAny _ A (if (!Builtin.Bytes.fitsIndex i) = true then _ else pure (some i)) _ E s
  rw [hr]
  exact wpAny_pure h
theorem byteVal {n : Int} {t : Tok} {Q : UInt8 → Shared → Prop} (hr : 0 ≤ n ∧ n < 256) (h : Q n.toNat.toUInt8 s) : wpAny (model prog w) A (Builtin.Bytes.byteValue (.int n t)) Q E s := by
  unfold Builtin.Bytes.byteValue
  refine wpAny_bind (wpAny_of_eq (a := n) rfl ?_)
  have f2 : (decide (n < 0) || decide (n ≥ 256)) = false := by
    simp only [Bool.or_eq_false_iff, decide_eq_false_iff_not]
    omega
  simp only [f2, Bool.false_eq_true, if_false]
  exact wpAny_pure h
theorem payOf {b : Addr} {x : Array UInt8} {Q : Array UInt8 → Shared → Prop} (ho : s.heap.get? b = some (baO x)) (h : Q x s) : wpAny (model prog w) A (Builtin.Bytes.payload (.ref b)) Q E s := by
  unfold Builtin.Bytes.payload Builtin.Bytes.payload?
  exact wpAny_bind (wpAny_bind (wpAny_load ho (wpAny_pure (wpAny_pure h))))
theorem setItem {b : Addr} {x : Array UInt8} {i n : Int} {t u : Tok} {Q : Unit → Shared → Prop} (ho : s.heap.get? b = some (baO x)) (hi : 0 ≤ i ∧ i < x.size) (hz : x.size ≤ 1000) (hn : 0 ≤ n ∧ n < 256)
    (h : ∀ h', Heap.SameBut b s.heap h' → h'.get? b = some (baO (x.setIfInBounds i.toNat n.toNat.toUInt8)) → Q () { s with heap := h' }) : wpAny (model prog w) A (setItem (.ref b) (.int i t) (.int n u)) Q E s := by
  have hT : s.TypeIs (.ref b) "bytearray" := ⟨_, ho, rfl⟩
  unfold PySem.setItem
  refine wpAny_holding (wpAny_bind (wpAny_sequenceKey hT (by decide +kernel) ?_))
  refine wpAny_bind (wpAny_callSpecial?_slot hT slotSet (wpAny_call_entry slotSet hT entrySet ?_ (argsSet _ _ _)))
  show wpAny _ _ (Builtin.Bytes.subscript? (.int i t) >>= fun r => _) _ _ _
  refine wpAny_bind (subIdx ?_ ?_)
  · simp only [Builtin.Bytes.fitsIndex, Bool.and_eq_true, decide_eq_true_eq]; omega
  show wpAny _ _ (Builtin.Bytes.byteValue (.int n u) >>= fun r => _) _ _ _
  refine wpAny_bind (byteVal hn ?_)
  show wpAny _ _ (Builtin.Bytes.payload (.ref b) >>= fun r => _) _ _ _
  refine wpAny_bind (payOf ho ?_)
  have e : seqIndex? i x.size = some i.toNat := by
    have hh : ¬ i < 0 := by omega
    simp [seqIndex?, hh, hi.1, hi.2]
  show wpAny _ _ (match seqIndex? i x.size with | some k => _ | none => _) _ _ _
  rw [e]
  show wpAny _ _ (Builtin.Bytes.write (.ref b) (·.setIfInBounds i.toNat n.toNat.toUInt8) >>= fun r => _) _ _ _
  refine wpAny_bind (write ho (by rw [Array.size_setIfInBounds, sizeLine_eq]; omega) fun h' hs ho' => ?_)
  exact wpAny_pure ⟨.none, rfl, wpAny_pure (h h' hs ho')⟩
end
end BA
end Mine

open PySem PySem.W PySem.Calls PyProof.Rows
set_option Elab.async false
set_option maxRecDepth 100000
set_option linter.unusedVariables false
namespace Mine
namespace BA
theorem noBytes : typeLookup (.type "bytearray") "__bytes__" = pure none := by rw [typeLookup_type, builtinLookup_eq_fast]; kernel_rfl
theorem noIndex : typeLookup (.type "bytearray") "__index__" = pure none := by rw [typeLookup_type, builtinLookup_eq_fast]; kernel_rfl
theorem lookBuf : typeLookup (.type "bytearray") "__buffer__" = pure (some (.builtin "bytearray.__buffer__")) := by rw [typeLookup_type, builtinLookup_eq_fast]; kernel_rfl
section
variable {prog : Program} {w : World} {A : Around} {E : Value → Shared → Prop} {s : Shared}
theorem ownBuf {b : Addr} {Q : Bool → Shared → Prop} (hT : s.TypeIs (.ref b) "bytearray") (h : Q true s) : wpAny (model prog w) A (Builtin.Bytes.slotIsOwn (.ref b) "__buffer__") Q E s := by
  unfold Builtin.Bytes.slotIsOwn
  refine wpAny_bind (wpAny_specialOf hT lookBuf ?_)
  have e : ("bytearray.__buffer__".endsWith ("." ++ "__buffer__")) = true := by decide +kernel
  set_option linter.deprecated false in
  have e2 : ("bytearray.__buffer__".dropRight ("__buffer__".length + 1)) = "bytearray" := by decide +kernel
  simp only [e, Bool.not_true, Bool.false_eq_true, if_false, e2]
  exact wpAny_isInstance hT sub h
theorem newOf {b : Addr} {x : Array UInt8} {Q : Value → Shared → Prop} (ho : s.heap.get? b = some (baO x)) (hz : x.size ≤ 1000)
    (hQ : ∀ t k, Q (.bytes x t) { s with toks := k }) :
    codeAny (model prog w) A (.call (.builtin "bytes.__new__") ⟨[.type "bytes", .ref b], []⟩) (wants Q E) s := by
  have hT : s.TypeIs (.ref b) "bytearray" := ⟨_, ho, rfl⟩
  refine codeAny_of_tree ?_
  show wpAny _ A.in1 (do checkBuiltinCall "bytes.__new__" ⟨[.type "bytes", .ref b], []⟩; again (.builtin "bytes.__new__" ⟨[.type "bytes", .ref b], []⟩)) _ _ s
  refine wpAny_bind (wpAny_of_eq (F.bm_newCall _) (wpAny_pure ⟨plainId_quiet F.bm_plain _, codeAny_builtin F.bm_entry ?_⟩))
  rw [Around.under_plainId F.bm_plain _]
  unfold Builtin.«bytes.__new__»
  refine wpAny_bind (wpAny_of_eq (a := true) rfl ?_)
  refine bm_if_false rfl ?_
  refine wpAny_bind (wpAny_of_eq F.bm_sub ?_)
  refine bm_if_false rfl ?_
  refine wpAny_bind (wpAny_of_eq (F.bm_bind _) ?_)
  refine wpAny_bind (wpAny_of_eq (a := ()) rfl ?_)
  refine wpAny_bind (wpAny_of_eq (a := ()) rfl ?_)
  refine bm_if_false rfl ?_
  refine wpAny_bind (wpAny_specialOf hT noBytes ?_)
  refine wpAny_bind (wpAny_bind ?_)
  show wpAny _ _ (load b >>= _) _ _ _
  refine wpAny_bind (wpAny_load ho ?_)
  refine wpAny_pure (wpAny_pure ?_)
  refine bm_if_false rfl ?_
  refine wpAny_bind (wpAny_specialOf hT noIndex ?_)
  refine bm_if_true rfl ?_
  first
    | show wpAny _ _ (Builtin.Bytes.buffer? "bytes.__new__" (.ref b) true >>= _) _ _ _
    | (refine wpAny_bind ?_; show wpAny _ _ (Builtin.Bytes.buffer? "bytes.__new__" (.ref b) true >>= _) _ _ _)
  refine wpAny_bind ?_
  unfold Builtin.Bytes.buffer?
  refine wpAny_bind (wpAny_specialOf hT lookBuf ?_)
  refine wpAny_bind (ownBuf hT ?_)
  refine bm_if_false rfl ?_
  refine wpAny_bind (wpAny_specialOf hT lookBuf ?_)
  refine wpAny_bind (ownRel hT ?_)
  refine bm_if_false rfl ?_
  refine wpAny_bind (payOf ho ?_)
  refine wpAny_pure ?_
  refine wpAny_bind (wpAny_rule ?_)
  refine wpAny_bind (wpAny_mkBytes ?_ (by rw [sizeLine_eq]; omega))
  show wpAny _ _ (if (Value.type "bytes" == Value.type "bytes") = true then _ else _) _ _ _
  refine bm_if_true (by decide) ?_
  first
    | exact wpAny_pure (hQ _ _)
    | exact wpAny_bind (wpAny_pure (wpAny_pure (hQ _ _)))
theorem bytesOf {b : Addr} {x : Array UInt8} {Q : Value → Shared → Prop} (ho : s.heap.get? b = some (baO x)) (hz : x.size ≤ 1000)
    (hQ : ∀ t k, Q (.bytes x t) { s with toks := k }) : wpAny (model prog w) A (call (.type "bytes") [.ref b]) Q E s := by
  refine callType_codes (Q₁ := fun obj s₁ => s₁.TypeIs obj "bytes" ∧ Q obj s₁) F.bm_called (F.bm_typeCall _) F.entry_object_init
    (newOf ho hz fun t k => ⟨PySem.W.typeIs_bytes _ _ _, hQ t k⟩) fun obj s₁ h₁ => ?_
  exact ⟨h₁.1, F.args_object_init_2 obj _, object_init_meets F.bm_called.init.lookup F.bm_called.made (by decide) prog w A.in1 _ s₁ ⟨h₁.1, rfl, h₁.2⟩⟩
theorem newNum {n : Int} {t : Tok} {Q : Value → Shared → Prop} (hn : 0 ≤ n ∧ n ≤ 1000)
    (hQ : ∀ t k, Q (.bytes (Array.replicate n.toNat 0) t) { s with toks := k }) :
    codeAny (model prog w) A (.call (.builtin "bytes.__new__") ⟨[.type "bytes", .int n t], []⟩) (wants Q E) s := by
  refine codeAny_of_tree ?_
  show wpAny _ A.in1 (do checkBuiltinCall "bytes.__new__" ⟨[.type "bytes", .int n t], []⟩; again (.builtin "bytes.__new__" ⟨[.type "bytes", .int n t], []⟩)) _ _ s
  refine wpAny_bind (wpAny_of_eq (F.bm_newCall _) (wpAny_pure ⟨plainId_quiet F.bm_plain _, codeAny_builtin F.bm_entry ?_⟩))
  rw [Around.under_plainId F.bm_plain _]
  have hT : s.TypeIs (.int n t) "int" := typeIs_int s n t
  unfold Builtin.«bytes.__new__»
  refine wpAny_bind (wpAny_of_eq (a := true) rfl ?_)
  refine bm_if_false rfl ?_
  refine wpAny_bind (wpAny_of_eq F.bm_sub ?_)
  refine bm_if_false rfl ?_
  refine wpAny_bind (wpAny_of_eq (F.bm_bind _) ?_)
  refine wpAny_bind (wpAny_of_eq (a := ()) rfl ?_)
  refine wpAny_bind (wpAny_of_eq (a := ()) rfl ?_)
  refine bm_if_false rfl ?_
  refine wpAny_bind (wpAny_specialOf hT (by rw [typeLookup_type, builtinLookup_eq_fast]; kernel_rfl : typeLookup (.type "int") "__bytes__" = pure none) ?_)
  refine wpAny_bind (wpAny_bind (wpAny_of_eq (a := none) rfl (wpAny_pure ?_)))
  refine bm_if_false rfl ?_
  refine wpAny_bind (wpAny_specialOf hT F.slot_int_index.lookup ?_)
  refine bm_if_false rfl ?_
  show wpAny _ _ ((asIndex (.int n t)).attempt >>= fun r => _) _ _ _
  refine wpAny_bind (wpAny_of_eq (a := Except.ok n) rfl ?_)
  refine bm_if_false (by simp only [Builtin.Bytes.fitsIndex, Bool.not_eq_false', Bool.and_eq_true, decide_eq_true_eq]; omega) ?_
  rw [if_neg (by omega), if_neg (by omega)]
  refine bm_if_false (KBy.tooLong_not (by omega)) ?_
  refine wpAny_bind (wpAny_rule ?_)
  refine wpAny_bind (wpAny_mkBytes ?_ (by rw [sizeLine_eq, Array.size_replicate]; omega))
  show wpAny _ _ (if (Value.type "bytes" == Value.type "bytes") = true then _ else _) _ _ _
  refine bm_if_true (by decide) ?_
  first
    | exact wpAny_pure (hQ _ _)
    | exact wpAny_bind (wpAny_pure (wpAny_pure (hQ _ _)))
theorem bytesNum {n : Int} {t : Tok} {Q : Value → Shared → Prop} (hn : 0 ≤ n ∧ n ≤ 1000)
    (hQ : ∀ t k, Q (.bytes (Array.replicate n.toNat 0) t) { s with toks := k }) : wpAny (model prog w) A (call (.type "bytes") [.int n t]) Q E s := by
  refine callType_codes (Q₁ := fun obj s₁ => s₁.TypeIs obj "bytes" ∧ Q obj s₁) F.bm_called (F.bm_typeCall _) F.entry_object_init
    (newNum hn fun t k => ⟨PySem.W.typeIs_bytes _ _ _, hQ t k⟩) fun obj s₁ h₁ => ?_
  exact ⟨h₁.1, F.args_object_init_2 obj _, object_init_meets F.bm_called.init.lookup F.bm_called.made (by decide) prog w A.in1 _ s₁ ⟨h₁.1, rfl, h₁.2⟩⟩
end
end BA
end Mine

open PySem PySem.W PySem.Calls PyProof.Rows
set_option Elab.async false
set_option maxRecDepth 100000
set_option linter.unusedVariables false
namespace Mine
local macro_rules | `(tactic| walk_at "M enter") => `(tactic| ((case k1 => k_is); (case k2 => k_is); (case k3 => exact fun _ => .of_eq rfl); (case k4 => rfl)))
section
variable {w : World} {A : Around} {s : Shared} {g h : Heap} {fr : Fs} {L a : Addr} {m : NsM} {news : List (Addr × Obj)} {cn : Str} {cs : Scope} {ccd : Value} {cl : List (Str × Addr)}
  {E : Value → Shared → Prop} {k : Nat} {rest body : List Stmt} {e : Expr} {pos px : Pos} {env : Env} {τ σ : Tok → Tok}
theorem setB {b : Addr} {x : Array UInt8} {i n : Int} {G : Obj → List (Addr × Obj)} {l r : Expr} {Q : Flow → Shared → Prop} (C : Cx w g fr h news) (U : UpdF b (BA.baO x) news G)
    (he : PEv w A env s h e fun t => .int n (τ t)) (hl : PEv w A env s h l fun _ => .ref b) (hr : PEv w A env s h r fun t => .int i (σ t)) (hi : 0 ≤ i ∧ i < x.size) (hz : x.size ≤ 1000) (hn : 0 ≤ n ∧ n < 256)
    (hQ : ∀ h' k', Cx w g fr h' (G (BA.baO (x.setIfInBounds i.toNat n.toNat.toUInt8))) → wpG true (model prg w) A (execs rest env) Q E (St s h' k'))
    (hsw : swapsWith e (some (.Subscript l r px)) pos.line env = pure false := by rfl) :
    wpG true (model prg w) A (execs (.Assign [.Subscript l r px] e pos :: rest) env) Q E (St s h k) := by
  refine gSt ?_
  rw [exec_Assign_Subscript _ _ _ _ _ hsw]
  refine gBind (gStand (gBind (gP he fun t k₁ => gBind ?_)))
  rw [assign_Subscript]
  refine gBind (gHolding (gP hl fun _ k₂ => gBind (gHolding (gP hr fun u k₃ => gBind (gStand (gBind (gHolding (gOf (BA.setItem (s := St s h k₃) (C.N _ (updIn U)).1 hi hz hn fun h' hs' ho' => ?_)))))))))
  exact gOf (wpAny_release (gPure (hQ h' _ (C.but U (fun c oc hc' e => (hs'.2 c hc').trans e) ho'))))
theorem p256 (z : Nat) : (2 : Int) ^ (8 * z) = ((256 ^ z : Nat) : Int) := by
  rw [show (256 : Nat) ^ z = 2 ^ (8 * z) from (Nat.pow_mul 2 8 z).symm]
  exact (Int.natCast_pow 2 (8 * z)).symm
theorem whole_c {n z : Nat} {tn tz : Tok} {Q : Value → Shared → Prop} (hR : Rm A 1) (C : Cx w g fr h news) (hz : 0 < z ∧ z ≤ 8) (hn : n < 256 ^ z)
    (ret : ∀ h' t k', Cx w g fr h' news → Q (.bytes (be z n).toArray t) (St s h' k')) : wpG true (model prg w) A (call (.ref 82) [.int n tn, .int z tz]) Q E (St s h k) := by
  refine' enterG (binds := [("n", .int n tn), ("size", .int z tz)]) C hR.lt ?k1 ?k2 ?k3 ?k4 fun L h₁ k₁ C₁ => ?_
  walk_at "M enter"
  have e8 : (8 * (z : Int)).toNat = 8 * z := by omega
  have q8 : (n : Int) / 2 ^ (8 * (z : Int)).toNat = 0 := by
    rw [e8, p256]
    exact congrArg Nat.cast (Nat.div_eq_of_lt hn)
  refine ifNo (tOr (tLt (nmL C₁) cI) fun _ => tNe (pShr (nmL C₁) (pMul cI (nmL C₁) (by decide)) (Int.mul_nonneg (by decide) (Int.natCast_nonneg z))) cI) ?_ fun k₂ => ?_
  · rw [q8]; simp
  refine gAsg (callB (nmB (v := .type "bytearray") C₁ (by rfl) (by k_is) (by rfl) (by decide)) (fun _ => kpT) fun k₃ => gP (nmL C₁) fun t₃ k₄ => BA.callG (s := St s h₁ k₄) (by omega) (by omega) fun h₂ b hb hk₂ ho₂ => ?_)
  have C₂ := C₁.add hk₂ ho₂ hb
  refine stoX C₂ (fun h₃ k₅ C₃ => ?_)
  have hne : ∀ p ∈ news, p.1 ≠ b := fun p hp q => by have := (C₁.N p hp).1; rw [q] at this; exact absurd (hb.symm.trans this) (fun z => by cases z)
  refine gFor (callB (nmB (v := .type "range") C₃ (by rfl) (by k_is) (by rfl) (by decide)) (fun _ => kpT) fun k₃ => gP (pSub (nmL C₃) cI) fun t1 k1 => gP (pNeg cI) fun t2 k2 => gP (pNeg cI) fun t3 k3 => gOf (call_range_3 (s := St s h₃ k3) (by decide) ?_ (.inl ?_))) (fun _ => rfl)
  · refine forRng (s := s) (i₀ := (z : Int) - 1) (j := -1) (st := -1) (n := z) (ta := t1) (tb := t2) (tc := t3) (fun i m nx => ∃ x : Array UInt8, nx = (b, BA.baO x) :: news ∧ x.toList = List.replicate (z - i) 0 ++ be i n ∧ (∃ t, m "n" = some (.int (n / 256 ^ i : Nat) t)) ∧ m "found" = some (.ref b))
      hR.hh (C₃.on (stays_push _ _)) (Heap.get?_push_size _ rfl) ?_ ?_ ⟨_, rfl, by simp [be], ⟨tn, by rw [Nat.pow_zero, Nat.div_one]; rfl⟩, rfl⟩ (fun i t g' h₄ m nx k₄ hi J hg C₄ => ?_) fun h₄ m nx k₄ C₄ J => ?_
    · exact (rngDown z (Nat.lt_succ_of_le hz.2) hz.1).1
    · exact (rngDown z (Nat.lt_succ_of_le hz.2) hz.1).2
    · obtain ⟨x, rfl, hx, ⟨tn', hn'⟩, hf⟩ := J
      have hxl : x.size = z := by rw [← Array.length_toList, hx, List.length_append, List.length_replicate, be_len, Nat.sub_add_cancel (Nat.le_of_lt hi)]
      have hp : (z : Int) - 1 + i * -1 = (z - (i + 1) : Nat) := by omega
      refine setB (n := (n / 256 ^ i : Nat) % 256) C₄ (.head hne) (pMod (nmL C₄ (hv := by exact hn')) cI (by decide)) (nmL C₄ (hv := by exact hf)) (nmL C₄) ?_ ?_ ?_ fun h₅ k₅ C₅ => ?_
      · rw [hp, hxl]; exact ⟨Int.natCast_nonneg _, Int.ofNat_lt.mpr (Nat.sub_lt hz.1 (Nat.succ_pos i))⟩
      · rw [hxl]; exact Nat.le_trans hz.2 (by decide)
      · exact ⟨Int.emod_nonneg _ (by decide), Int.emod_lt_of_pos _ (by decide)⟩
      refine asgP C₅ (pDiv (nmL C₅ (hv := by exact hn')) cI (by decide)) fun h₆ t₆ k₆ C₆ => ?_
      refine gNil (tnNext C₆ ⟨_, rfl, ?_, ⟨t₆, ?_⟩, hf⟩)
      · rw [hp]; exact setBe hi hx
      · show some (Value.int (n / 256 ^ i / 256 : Nat) t₆) = _
        rw [Nat.div_div_eq_div_mul, ← Nat.pow_succ]
    · obtain ⟨x, rfl, hx, _, hf⟩ := J
      rw [Nat.sub_self] at hx
      refine gRet (callB (nmB (v := .type "bytes") C₄ (by rfl) (by k_is) (by rfl) (by decide)) (fun _ => kpT) fun k₅ => gP (nmL C₄ (hv := by exact hf)) fun _ k₆ => gOf (BA.bytesOf (s := St s h₄ k₆) (C₄.N _ (.head _)).1 ?_ fun t k₇ => ?_))
      · rw [← Array.length_toList, hx]; show (be z n).length ≤ 1000; rw [be_len]; exact Nat.le_trans hz.2 (by decide)
      rw [show x = (be z n).toArray from Array.toList_inj.mp hx]
      exact ret _ t k₇ (C₄.drop fun p hp => .tail _ hp).pop
  · exact noPy (by decide)
end
end Mine

open PySem PySem.W PySem.Calls PyProof.Rows
set_option Elab.async false
set_option maxRecDepth 100000
set_option linter.unusedVariables false
namespace Mine
local macro_rules | `(tactic| walk_at "M enter") => `(tactic| ((case k1 => k_is); (case k2 => k_is); (case k3 => exact fun _ => .of_eq rfl); (case k4 => rfl)))
abbrev vs4 : Array Value := #[.int 1 286, .int 2 287, .int 4 288, .int 8 289]
theorem vs4At : ∀ {i : Nat} {v : Value}, vs4[i]? = some v → i < 4 ∧ ∃ t, v = .int (2 ^ i : Nat) t
  | 0, _, rfl => ⟨by decide, _, rfl⟩
  | 1, _, rfl => ⟨by decide, _, rfl⟩
  | 2, _, rfl => ⟨by decide, _, rfl⟩
  | 3, _, rfl => ⟨by decide, _, rfl⟩
  | _ + 4, _, h => nomatch h
theorem cast2 (k : Nat) : (2 : Int) ^ k = ((2 ^ k : Nat) : Int) := (Int.natCast_pow 2 k).symm
theorem vix3 (n : Nat) : vix n < 4 := by unfold vix; split <;> (try split) <;> (try split) <;> decide
theorem vixLe {n : Nat} (hn : n < 2 ^ 62) : ∀ i, i < 4 → (n < 2 ^ (8 * 2 ^ i - 2) ↔ vix n ≤ i)
  | 0, _ => by
    show n < 2 ^ 6 ↔ _
    unfold vix
    split
    · exact iff_of_true ‹_› (by decide)
    · refine iff_of_false ‹_› ?_
      split <;> (try split) <;> decide
  | 1, _ => by
    show n < 2 ^ 14 ↔ _
    unfold vix
    split
    · exact iff_of_true (Nat.lt_trans ‹_› (by decide)) (by decide)
    · split
      · exact iff_of_true ‹_› (by decide)
      · refine iff_of_false ‹_› ?_
        split <;> decide
  | 2, _ => by
    show n < 2 ^ 30 ↔ _
    unfold vix
    split
    · exact iff_of_true (Nat.lt_trans ‹_› (by decide)) (by decide)
    · split
      · exact iff_of_true (Nat.lt_trans ‹_› (by decide)) (by decide)
      · split
        · exact iff_of_true ‹_› (by decide)
        · exact iff_of_false ‹_› (by decide)
  | 3, _ => ⟨fun _ => Nat.le_of_lt_succ (vix3 n), fun _ => hn⟩
  | i + 4, h => absurd h (Nat.not_lt.mpr (Nat.le_add_left 4 i))
section
variable {κ : Bool} {w : World} {A : Around} {s : Shared} {g h : Heap} {fr : Fs} {L a : Addr} {m : NsM} {news : List (Addr × Obj)} {cn : Str} {cs : Scope} {ccd : Value} {cl : List (Str × Addr)}
  {E : Value → Shared → Prop} {k : Nat} {rest body : List Stmt} {e l r r2 : Expr} {pos px : Pos} {env : Env} {τ σ ρ : Tok → Tok}
theorem vsTup (G : Gd w g) : g.IsTuple 75 vs4 := ⟨_, G.X _ _ (by k_is), rfl, _, rfl⟩
theorem tLeLt {i j q : Int} (hl : PEv w A env s h l fun t => .int i (τ t)) (hr : PEv w A env s h r fun t => .int j (σ t)) (h2 : PEv w A env s h r2 fun t => .int q (ρ t)) (hm : lastMarks [.LtE, .Lt] [r, r2] = false := by rfl) :
    PTs w A env s h (.Compare l [.LtE, .Lt] [r, r2] pos) (decide (i ≤ j) && decide (j < q)) := fun k _ Q E hQ =>
  isTrue_chain (hl k _ E fun t k₁ => test_link (hr k₁ _ E fun u k₂ => le_int (wpAny_truthy_bool (by
    cases hb : decide (i ≤ j) with
    | false => rw [hb] at hQ; exact hQ k₂
    | true => rw [hb] at hQ; exact test_last (h2 k₂ _ E fun v k₃ => lt_int (wpAny_truthy_bool (hQ k₃))))))) hm
theorem size_c {n : Nat} {tn : Tok} {Q : Value → Shared → Prop} (hR : Rm A 1) (C : Cx w g fr h news) (hn : n < 2 ^ 62)
    (ret : ∀ h' t k', Cx w g fr h' news → Q (.int (vsz n : Nat) t) (St s h' k')) : wpG κ (model prg w) A (call (.ref 96) [.int n tn]) Q E (St s h k) := by
  refine' enterG (binds := [("n", .int n tn)]) C hR.lt ?k1 ?k2 ?k3 ?k4 fun L h₁ k₁ C₁ => ?_
  walk_at "M enter"
  refine gFor (gP (nmK C₁ (by rfl) (by k_is)) fun _ k₂ => forTup (fun i m nx => nx = news ∧ m "n" = some (.int n tn) ∧ i ≤ vix n) hR.hh C₁ (vsTup C₁.G) ⟨rfl, rfl, Nat.zero_le _⟩
    (fun i v g' h₃ m nx k₃ hv J hg C₃ => ?_) fun h₃ m nx k₃ C₃ J => absurd J.2.2 (Nat.not_le.mpr (vix3 n))) (fun _ => rfl)
  obtain ⟨hi, t, rfl⟩ := vs4At hv
  have b0 : 1 ≤ 2 ^ i := Nat.one_le_two_pow
  have b1 : 2 ^ i ≤ 8 := Nat.pow_le_pow_right (by decide) (Nat.le_of_lt_succ hi)
  have e9 : 8 * ((2 ^ i : Nat) : Int) - 2 = (8 * 2 ^ i - 2 : Nat) := (Int.ofNat_sub (Nat.le_trans (by decide) (Nat.mul_le_mul_left 8 b0))).symm
  have e8 : (8 * ((2 ^ i : Nat) : Int) - 2).toNat = 8 * 2 ^ i - 2 := congrArg Int.toNat e9
  have q := vixLe hn i hi
  have q2 : (decide ((0 : Int) ≤ n) && decide ((n : Int) < 1 * 2 ^ (8 * ((2 ^ i : Nat) : Int) - 2).toNat)) = decide (vix n ≤ i) := by
    rw [e8, Int.one_mul, decide_eq_true (Int.natCast_nonneg n), Bool.true_and]
    exact decide_eq_decide.mpr ((show (n : Int) < 2 ^ (8 * 2 ^ i - 2) ↔ n < 2 ^ (8 * 2 ^ i - 2) by rw [cast2]; exact Int.ofNat_lt).trans q)
  refine ifP (tLeLt cI (nmL C₃ (hv := by exact J.2.1)) (pShl cI (pSub (pMul cI (nmL C₃) (by decide)) cI) ?_)) (fun e k₄ => ?_) fun e k₄ => ?_
  · rw [e9]; exact ⟨Int.natCast_nonneg _, Int.ofNat_le.mpr (Nat.le_trans (Nat.sub_le _ 2) (Nat.le_trans (Nat.mul_le_mul_left 8 b1) (by decide))), by decide⟩
  · rw [q2] at e
    have e := Nat.le_antisymm J.2.2 (of_decide_eq_true e)
    refine retP (nmL C₃) fun t' k₅ => ?_
    rw [e]
    exact ret _ _ k₅ (J.1 ▸ C₃.pop.less C.G hg)
  · rw [q2] at e
    exact gNil (tnNext C₃ ⟨J.1, J.2.1, Nat.lt_of_not_le (of_decide_eq_false e)⟩)
theorem tupIdx {t : Addr} {i : Nat} {u : Tok} {Q : Value → Shared → Prop} (hi : i < 4) (ht : h.IsTuple t vs4) (hQ : ∀ t' k', Q (.int i t') (St s h k')) : wpAny (model prg w) A (call (.builtin "tuple.index") [.ref t, .int (2 ^ i : Nat) u]) Q E (St s h k) := by
  refine wpAny_call_entry F.slot_tuple_index ht.typeIs F.entry_tuple_index ?_ (F.args_tuple_index_2 _ _)
  obtain ⟨⟨cls, dd, data, sl⟩, ho, hc, n, hd⟩ := id ht
  simp only at hc hd
  subst hc hd
  unfold Builtin.«tuple.index»
  wp_walk using wpAny_loadPart' ho
  change wpAny _ _ (forIn ([:min vs4.size vs4.size] : Std.Legacy.Range) ((none : Option Fin), ()) fun (i_1 : Nat) __s => match vs4[i_1]? with
            | some y => do
              let b ← eqBool y (Value.int ((2 ^ i : Nat) : Int) u)
              if b = true then do
                  let r ← retInt (i_1 : Int)
                  pure (ForInStep.done (some r, ()))
                else pure (ForInStep.yield (none, ()))
            | x => pure (ForInStep.yield (none, ()))) _ _ _
  rw [Std.Legacy.Range.forIn_eq_forIn_range']
  show wpAny _ _ (forIn [0, 1, 2, 3] _ _) _ _ _
  refine wpAny_forIn_list _ (fun l b s' => b = (none, ()) ∧ s' = St s h k ∧ ∃ j, l = [0, 1, 2, 3].drop j ∧ j ≤ i) _ (fun j rest b s' I => ?_) (fun b s' I => ?_) _ _ ⟨rfl, rfl, 0, rfl, Nat.zero_le _⟩
  · obtain ⟨rfl, rfl, q, hl, hq⟩ := I
    obtain ⟨rfl, rfl, tq, ht⟩ : j = q ∧ rest = [0, 1, 2, 3].drop (q + 1) ∧ ∃ t, vs4[q]? = some (.int (2 ^ q : Nat) t) := by
      rcases q with _ | _ | _ | _ | q
      iterate 4 (cases hl; exact ⟨rfl, rfl, _, rfl⟩)
      exact nomatch hl.trans (List.drop_nil : List.drop q [] = [])
    rw [ht]
    refine wpAny_bind (wpAny_eqBool_int ?_)
    by_cases e : j = i
    · subst e
      rw [beq_self_eq_true]
      exact wpAny_bind (wpAny_bind (wpAny_mkInt (wpAny_pure (wpAny_pure (wpAny_pure ⟨_, rfl, hQ _ _⟩)))))
    · rw [show (((2 ^ j : Nat) : Int) == ((2 ^ i : Nat) : Int)) = false from beq_eq_false_iff_ne.mpr fun z => Nat.ne_of_lt (Nat.pow_lt_pow_right (by decide) (Nat.lt_of_le_of_ne hq e)) (Int.ofNat.inj z)]
      exact wpAny_pure ⟨rfl, rfl, j + 1, rfl, Nat.lt_of_le_of_ne hq e⟩
  · obtain ⟨rfl, rfl, q, hl, hq⟩ := I
    exact absurd (Nat.lt_of_le_of_lt hq hi) fun z => by rcases q with _ | _ | _ | _ | q <;> first | cases hl | exact absurd z (Nat.not_lt.mpr (Nat.le_add_left 4 q))
end
end Mine

open PySem PySem.W PySem.Calls PyProof.Rows
set_option Elab.async false
set_option maxRecDepth 100000
set_option linter.unusedVariables false
namespace Mine
local macro_rules | `(tactic| walk_at "M enter") => `(tactic| ((case k1 => k_is); (case k2 => k_is); (case k3 => exact fun _ => .of_eq rfl); (case k4 => rfl)))
theorem landZero {a k n : Nat} (h : n < 2 ^ k) : a * 2 ^ k &&& n = 0 := Nat.eq_of_testBit_eq fun i => by
  rw [Nat.testBit_and, Nat.testBit_mul_two_pow, Nat.zero_testBit]
  by_cases hi : k ≤ i
  · rw [Nat.testBit_lt_two_pow (Nat.lt_of_lt_of_le h (Nat.pow_le_pow_right (by decide) hi)), Bool.and_false]
  · rw [decide_eq_false hi, Bool.false_and, Bool.false_and]
theorem orAdd {a k n : Nat} (h : n < 2 ^ k) : Builtin.bitOr ((a * 2 ^ k : Nat) : Int) (n : Int) = ((a * 2 ^ k + n : Nat) : Int) := by
  rw [bitOr_and, show Builtin.bitAnd ((a * 2 ^ k : Nat) : Int) n = ((a * 2 ^ k &&& n : Nat) : Int) from rfl, landZero h]
  exact Int.sub_zero _
theorem encLt {z v n : Nat} (h : n < 2 ^ (8 * z - 2)) (hz : 1 ≤ z) (hv : v < 4) : v * 2 ^ (8 * z - 2) + n < 256 ^ z := by
  refine Nat.lt_of_lt_of_le (Nat.add_lt_add_left h _) ?_
  rw [← Nat.succ_mul]
  refine Nat.le_trans (Nat.mul_le_mul_right _ hv) ?_
  rw [show 256 ^ z = 2 ^ (8 * z) from (Nat.pow_mul 2 8 z).symm, show 8 * z = 8 * z - 2 + 2 from (Nat.sub_add_cancel (Nat.le_trans (by decide) (Nat.mul_le_mul_left 8 hz))).symm, Nat.pow_add, Nat.mul_comm]
  exact Nat.le_refl _
section
variable {w : World} {A : Around} {s : Shared} {g h : Heap} {fr : Fs} {L a : Addr} {m : NsM} {news : List (Addr × Obj)} {cn : Str} {cs : Scope} {ccd : Value} {cl : List (Str × Addr)}
  {E : Value → Shared → Prop} {k : Nat} {rest body : List Stmt} {e l r r2 o : Expr} {pos px : Pos} {env : Env} {τ σ ρ : Tok → Tok}
theorem pIdx {t : Addr} {i : Nat} {apos : Pos} (hi : i < 4) (ht : h.IsTuple t vs4) (hd : ∃ o, h.get? t = some o ∧ o.dict = none) (ho : PEv w A env s h o fun _ => .ref t) (hl : PEv w A env s h e fun t => .int (2 ^ i : Nat) (τ t))
    (he : eval (.Call (.Attribute o "index" apos) [e] [] pos) env = (do
      let ov ← eval o env
      standAt apos.atName
      let (f, first) ← holding [ov] (getMethod ov "index" (do return (← importBound o env).getD true))
      callWith pos f first (backTo pos (starEach [e] env)) (backToKw pos (keywordEach [] env))) := by rfl) (hs : starEach [e] env = [(false, eval e env)] := by rfl) :
    PEv w A env s h (.Call (.Attribute o "index" apos) [e] [] pos) fun t => .int i t := fun k Q E hQ =>
  methodCall_KW (ho k _ E fun _ k₁ => getMethod_builtin (s := St s h k₁) ht.typeIs F.plainAttrs_tuple F.slot_tuple_index F.type_tuple_index (fun a e => by cases e; exact hd) (by
    rw [hs]
    exact callWith_builtin rfl (evalArgs_plain (Calls.spliced_cons (hl k₁ _ E fun t₁ k₂ => Calls.spliced_nil (tupIdx hi ht fun t' k' => hQ t' k'))))))
    he
theorem varint_c {n : Nat} {tn : Tok} {Q : Value → Shared → Prop} (hR : Rm A 2) (C : Cx w g fr h news) (hn : n < 2 ^ 62)
    (ret : ∀ h' t k', Cx w g fr h' news → Q (.bytes (enc n).toArray t) (St s h' k')) : wpG true (model prg w) A (call (.ref 103) [.int n tn, .none]) Q E (St s h k) := by
  refine' enterG (binds := [("n", .int n tn), ("size", .none)]) C hR.lt ?k1 ?k2 ?k3 ?k4 fun L h₁ k₁ C₁ => ?_
  walk_at "M enter"
  refine gAsg (callF C₁ (by rfl) (by k_is) (by k_is) fun k₂ => gP (nmL C₁) fun t₂ k₃ => ⟨C₁.keep, size_c hR.in C₁ hn fun h₃ t₄ k₄ C₃ => stoX C₃ fun h₅ k₅ C₅ => ?_⟩)
  refine ifYes (tIsN (nmL C₅) fun _ => rfl) rfl fun k₆ => asgP C₅ (nmL C₅) fun h₇ t₇ k₇ C₇ => gNil ?_
  show wpG _ _ _ (execs _ _) _ _ _
  have v3 := vix3 n
  have b0 : 1 ≤ vsz n := Nat.one_le_two_pow
  have b1 : vsz n ≤ 8 := Nat.pow_le_pow_right (by decide) (Nat.le_of_lt_succ v3)
  have e9 : 8 * ((vsz n : Nat) : Int) - 2 = (8 * vsz n - 2 : Nat) := (Int.ofNat_sub (Nat.le_trans (by decide) (Nat.mul_le_mul_left 8 b0))).symm
  have hlt : n < 2 ^ (8 * vsz n - 2) := (vixLe hn _ v3).mpr (Nat.le_refl _)
  refine ifNo (tOr (tLt (nmL C₇) (nmL C₇)) fun _ => tCmp (nmL C₇) (nmK C₇ (by rfl) (by k_is)) (fun t u k Q E hQ => notin_tuple_ints (s := St s h₇ k) ((vsTup C₁.G).at fun _ z => C₇.keep _ _ z) (.cons 1 _ (.cons 2 _ (.cons 4 _ (.cons 8 _ .nil)))) (hQ k)) (by rfl)) ?_ fun k₈ => ?_
  · rw [decide_eq_false (Int.lt_irrefl _), Bool.false_or]
    exact (by decide : ∀ i < 4, (!([1, 2, 4, 8].any (· == ((2 ^ i : Nat) : Int)))) = false) _ v3
  refine gRet (callF C₇ (by rfl) (by k_is) (by k_is) fun k₉ => gP (pOr (pShl (pIdx v3 ((vsTup C₁.G).at fun _ z => C₇.keep _ _ z) ⟨_, C₇.keep _ _ (C₁.G.X _ _ (by k_is)), rfl⟩ (nmK C₇ (by rfl) (by k_is)) (nmL C₇)) (pSub (pMul cI (nmL C₇) (by decide)) cI) ?_) (nmL C₇)) fun t₁₀ k₁₀ => gP (nmL C₇) fun t₁₁ k₁₁ => ⟨C₇.keep, ?_⟩)
  · rw [e9]
    exact ⟨Int.natCast_nonneg _, Int.ofNat_le.mpr (Nat.le_trans (Nat.sub_le _ 2) (Nat.le_trans (Nat.mul_le_mul_left 8 b1) (by decide))), Nat.lt_of_lt_of_le v3 (by decide)⟩
  · rw [e9, Int.toNat_natCast, cast2, ← Int.natCast_mul, orAdd hlt]
    exact whole_c hR.in C₇ ⟨b0, b1⟩ (encLt hlt b0 v3) fun h' t k' C₈ => ret h' t k' C₈.pop
end
end Mine

open PySem PySem.W PySem.Calls PyProof.Rows
set_option Elab.async false
set_option maxRecDepth 100000
set_option linter.unusedVariables false
namespace Mine
local macro_rules | `(tactic| walk_at "M enter") => `(tactic| ((case k1 => k_is); (case k2 => k_is); (case k3 => exact fun _ => .of_eq rfl); (case k4 => rfl)))
def plainB (kd : Nat) (p : List UInt8) : List UInt8 := enc kd ++ enc p.length ++ p
theorem vsz_le (n : Nat) : vsz n ≤ 8 := Nat.pow_le_pow_right (by decide) (Nat.le_of_lt_succ (vix3 n))
theorem enc_le (n : Nat) : (enc n).length ≤ 8 := Nat.le_trans (Nat.le_of_eq (be_len _ _)) (vsz_le n)
section
variable {w : World} {A : Around} {s : Shared} {g h : Heap} {fr : Fs} {L a : Addr} {m : NsM} {news : List (Addr × Obj)} {cn : Str} {cs : Scope} {ccd : Value} {cl : List (Str × Addr)}
  {E : Value → Shared → Prop} {k : Nat} {rest body : List Stmt} {e l r r2 o : Expr} {pos px : Pos} {env : Env} {τ σ ρ : Tok → Tok}
theorem addY {x y : List UInt8} {t u : Tok} {Q : Value → Shared → Prop} (hc : x.length + y.length ≤ 100000) (hQ : ∀ t k', Q (.bytes (x ++ y).toArray t) (St s h k')) : wpG true (model prg w) A (binaryOp .Add (.bytes x.toArray t) (.bytes y.toArray u)) Q E (St s h k) :=
  gOf (KBy.add_bytes (s := St s h k) (by simp only [List.size_toArray]; exact Nat.le_trans hc (by decide)) fun t k' => by rw [List.append_toArray]; exact hQ t k')
theorem plain_c {kd : Nat} {tk tp : Tok} {p : List UInt8} {Q : Value → Shared → Prop} (hR : Rm A 3) (C : Cx w g fr h news) (hk : kd < 2 ^ 62) (hp : p.length ≤ 1000)
    (ret : ∀ h' t k', Cx w g fr h' news → Q (.bytes (plainB kd p).toArray t) (St s h' k')) : wpG true (model prg w) A (call (.ref 123) [.int kd tk, .bytes p.toArray tp]) Q E (St s h k) := by
  refine' enterG (binds := [("kind", .int kd tk), ("payload", .bytes p.toArray tp)]) C hR.lt ?k1 ?k2 ?k3 ?k4 fun L h₁ k₁ C₁ => ?_
  walk_at "M enter"
  refine gRet (gBin (gBin (callF C₁ (by rfl) (by k_is) (by k_is) fun k₂ => gP (nmL C₁) fun t₂ k₃ => gP cN fun _ k₄ => ⟨C₁.keep, varint_c hR.in C₁ hk fun h₅ t₅ k₅ C₅ =>
    callF C₅ (by rfl) (by k_is) (by k_is) fun k₆ => gP (pLenY (nmB (v := .builtin "len") C₅ (by rfl) (by k_is) (by rfl) (by decide)) (nmL C₅) (by simp only [List.size_toArray]; exact Nat.le_trans hp (by decide))) fun t₇ k₇ => gP cN fun _ k₈ => ⟨C₅.keep,
      varint_c hR.in C₅ (Nat.lt_of_le_of_lt hp (by decide)) fun h₉ t₉ k₉ C₉ => addY (Nat.le_trans (Nat.add_le_add (enc_le _) (enc_le _)) (by decide)) fun t₁₀ k₁₀ => gP (nmL C₉) fun _ k₁₁ => addY ?_ fun t k' => ret _ t k' C₉.pop⟩⟩)))
  rw [List.length_append]
  exact Nat.le_trans (Nat.add_le_add (Nat.add_le_add (enc_le _) (enc_le _)) hp) (by decide)
end
end Mine

open PySem PySem.W PySem.Calls PyProof.Rows
set_option Elab.async false
set_option maxRecDepth 100000
set_option linter.unusedVariables false
namespace Mine
local macro_rules | `(tactic| walk_at "M enter") => `(tactic| ((case k1 => k_is); (case k2 => k_is); (case k3 => exact fun _ => .of_eq rfl); (case k4 => rfl)))
abbrev Prs := List (Addr × Value × Value)
abbrev prV (qs : Prs) : Array Value := (qs.map fun q => Value.ref q.1).toArray
def PrOk (g : Heap) (qs : Prs) : Prop := ∀ (i : Nat) (q : Addr × Value × Value), qs[i]? = some q → g.IsTuple q.1 #[q.2.1, q.2.2]
theorem PrOk.keeps {g g' : Heap} {qs : Prs} (h : PrOk g qs) (k : g.StaysIn g') : PrOk g' qs := fun i q e => (h i q e).at fun _ z => k _ _ z
theorem prAt {qs : Prs} {i : Nat} {v : Value} (h : (prV qs)[i]? = some v) : ∃ q, qs[i]? = some q ∧ v = .ref q.1 := by
  rw [List.getElem?_toArray, List.getElem?_map] at h
  cases e : qs[i]? with
  | none => rw [e] at h; cases h
  | some q => rw [e] at h; cases h; exact ⟨q, rfl, rfl⟩
section
variable {κ : Bool} {w : World} {A : Around} {s : Shared} {g h : Heap} {fr : Fs} {L a : Addr} {m : NsM} {news : List (Addr × Obj)} {cn : Str} {cs : Scope} {ccd : Value} {cl : List (Str × Addr)}
  {E E₁ : Value → Shared → Prop} {k : Nat} {rest body : List Stmt} {e l r r2 o : Expr} {pos px py : Pos} {env : Env} {τ σ ρ : Tok → Tok} {x y : Str} {nt : Nat}
theorem forPr0 {v₀ : Value} {oI : Obj} {fp : List Addr} {S : Nat → Heap → Prop} {qs : Prs} {Q : Flow → Shared → Prop} (J : Nat → NsM → List (Addr × Obj) → Prop) (hh : A.handled = none) (C : Cx w g ((L, m) :: fr) h news) (hq : PrOk g qs)
    (hit : ∀ k (Q : Value → Shared → Prop) E, Q (.ref h.objs.size) (St s (h.push oI) k) → wpAny (model prg w) A (pyIter v₀) Q E (St s h k))
    (W : Walks prg w A h.objs.size (h.objs.size :: fp) [h.objs.size] (prV qs).size (fun i v => (prV qs)[i]? = some v) S) (hfp : ∀ b ∈ fp, ∃ o, g.get? b = some o) (hex : ∀ i h', S i h' → ∀ b ∈ h.objs.size :: fp, ∃ o, h'.get? b = some o) (hst : S 0 (h.push oI))
    (hgo : ∀ i h' k T (Q : Unit → Shared → Prop) E, S (i + 1) h' → Q () (St s h' k) → wpAny (model prg w) A (letOwnedTupleGo (.Tuple [.Name x px, .Name y py] nt pos) (.ref h.objs.size) (.ref T)) Q E (St s h' k)) (hJ : J 0 m news)
    (turn : ∀ i q g' h m nx k, qs[i]? = some q → J i m nx → g.StaysIn g' → Cx w g' ((L, up (up m x q.2.1) y q.2.2) :: fr) h nx → wpG κ (model prg w) A (execs body (envX cn cs L a ccd cl)) (Tn w s g' L fr (J (i + 1)) (Sq κ (model prg w) A (envX cn cs L a ccd cl) rest Q E)) E₁ (St s h k))
    (done : ∀ h m nx k, Cx w g ((L, m) :: fr) h nx → J qs.length m nx → wpG κ (model prg w) A (execs rest (envX cn cs L a ccd cl)) Q E (St s h k))
    (hE : ∀ e s', E₁ e s' → Noted (model prg w) A (envX cn cs L a ccd cl) (Lr (model prg w) A (envX cn cs L a ccd cl) (Sq κ (model prg w) A (envX cn cs L a ccd cl) rest Q E) E) e s')
    (hk : cs.kind = .function) (hx : cs.names.lookup x = some .local) (hy : cs.names.lookup y = some .local) :
    ForG κ w A s (.Tuple [.Name x px, .Name y py] nt pos) body (envX cn cs L a ccd cl) rest Q E v₀ (St s h k) := by
  refine forI (bnd := fun i _ m => match qs[i]? with | some q => up (up m x q.2.1) y q.2.2 | none => m) J C hit W hfp hex hst hJ
    (fun i v h' k Q E S hP hQ => ?_) (fun i v g' h m nx k Q E hP hg C hQ => ?_) hE (fun i v g' h m nx k _ hP hJ hg C => ?_) fun h m nx k C hJ => done h m nx k C ?_
  · obtain ⟨q, _, rfl⟩ := prAt hP
    exact hgo i h' k _ Q E S hQ
  · obtain ⟨q, e, rfl⟩ := prAt hP
    simp only [e] at hQ
    exact asgT hh C ((hq i q e).at fun _ z => C.keep _ _ (hg _ _ z)) hQ hk hx hy
  · obtain ⟨q, e, rfl⟩ := prAt hP
    simp only [e] at C
    exact turn i q g' h m nx k e hJ hg C
  · rw [List.size_toArray, List.length_map] at hJ; exact hJ
theorem forPr {l : Addr} {qs : Prs} {Q : Flow → Shared → Prop} (J : Nat → NsM → List (Addr × Obj) → Prop) (hh : A.handled = none) (C : Cx w g ((L, m) :: fr) h news) (hl : g.IsList l (prV qs)) (hq : PrOk g qs) (hJ : J 0 m news)
    (turn : ∀ i q g' h m nx k, qs[i]? = some q → J i m nx → g.StaysIn g' → Cx w g' ((L, up (up m x q.2.1) y q.2.2) :: fr) h nx → wpG κ (model prg w) A (execs body (envX cn cs L a ccd cl)) (Tn w s g' L fr (J (i + 1)) (Sq κ (model prg w) A (envX cn cs L a ccd cl) rest Q E)) No (St s h k))
    (done : ∀ h m nx k, Cx w g ((L, m) :: fr) h nx → J qs.length m nx → wpG κ (model prg w) A (execs rest (envX cn cs L a ccd cl)) Q E (St s h k))
    (hk : cs.kind = .function := by rfl) (hx : cs.names.lookup x = some .local := by rfl) (hy : cs.names.lookup y = some .local := by rfl) :
    ForG κ w A s (.Tuple [.Name x px, .Name y py] nt pos) body (envX cn cs L a ccd cl) rest Q E (.ref l) (St s h k) := by
  obtain ⟨ot, hot, hor⟩ := id hl
  have hlh : h.IsList l (prV qs) := hl.at fun o z => C.keep _ _ z
  exact forPr0 J hh C hq (fun k Q E hQ => wpAny_pyIter_list (s := St s h k) hlh hQ) (Walks.list (prog := prg) (w := w) (A := A) hh h.objs.size l (Nat.ne_of_lt (Heap.lt_size (C.keep _ _ hot))) (prV qs))
    (fun b hb => by rw [List.mem_singleton.mp hb]; exact ⟨ot, hot⟩) (fun i h' S => two (let ⟨o, ho, _⟩ := S.1; ⟨o, ho⟩) (let ⟨o, ho, _⟩ := S.2; ⟨o, ho⟩)) ⟨⟨_, Heap.get?_push_size _ rfl, rfl, rfl⟩, hlh.at fun o z => Heap.get?_push_of_some _ z⟩
    (fun i h' k T Q E S hQ => wpAny_letOwnedTupleGo_listiter (s := St s h' k) S.1 hQ) hJ turn done (fun _ _ z => False.elim z) hk hx hy
theorem forPrT {l : Addr} {qs : Prs} {Q : Flow → Shared → Prop} (J : Nat → NsM → List (Addr × Obj) → Prop) (hh : A.handled = none) (C : Cx w g ((L, m) :: fr) h news) (hl : g.IsTuple l (prV qs)) (hq : PrOk g qs) (hJ : J 0 m news)
    (turn : ∀ i q g' h m nx k, qs[i]? = some q → J i m nx → g.StaysIn g' → Cx w g' ((L, up (up m x q.2.1) y q.2.2) :: fr) h nx → wpG κ (model prg w) A (execs body (envX cn cs L a ccd cl)) (Tn w s g' L fr (J (i + 1)) (Sq κ (model prg w) A (envX cn cs L a ccd cl) rest Q E)) E₁ (St s h k))
    (done : ∀ h m nx k, Cx w g ((L, m) :: fr) h nx → J qs.length m nx → wpG κ (model prg w) A (execs rest (envX cn cs L a ccd cl)) Q E (St s h k))
    (hE : ∀ e s', E₁ e s' → Noted (model prg w) A (envX cn cs L a ccd cl) (Lr (model prg w) A (envX cn cs L a ccd cl) (Sq κ (model prg w) A (envX cn cs L a ccd cl) rest Q E) E) e s')
    (hk : cs.kind = .function := by rfl) (hx : cs.names.lookup x = some .local := by rfl) (hy : cs.names.lookup y = some .local := by rfl) :
    ForG κ w A s (.Tuple [.Name x px, .Name y py] nt pos) body (envX cn cs L a ccd cl) rest Q E (.ref l) (St s h k) := by
  obtain ⟨ot, hot, hor⟩ := id hl
  have hlh : h.IsTuple l (prV qs) := hl.at fun o z => C.keep _ _ z
  exact forPr0 J hh C hq (fun k Q E hQ => wpAny_pyIter_tuple (s := St s h k) hlh hQ) (Walks.tuple (prog := prg) (w := w) (A := A) hh h.objs.size l (Nat.ne_of_lt (Heap.lt_size (C.keep _ _ hot))) (prV qs))
    (fun b hb => by rw [List.mem_singleton.mp hb]; exact ⟨ot, hot⟩) (fun i h' S => two (let ⟨o, ho, _⟩ := S.1; ⟨o, ho⟩) (let ⟨o, ho, _⟩ := S.2; ⟨o, ho⟩)) ⟨⟨_, Heap.get?_push_size _ rfl, rfl, rfl⟩, hlh.at fun o z => Heap.get?_push_of_some _ z⟩
    (fun i h' k T Q E S hQ => goTupleIter (s := St s h' k) S.1 hQ) hJ turn done hE hk hx hy
end
end Mine

open PySem PySem.W PySem.Calls PyProof.Rows
set_option Elab.async false
set_option maxRecDepth 100000
set_option linter.unusedVariables false
namespace Mine
local macro_rules | `(tactic| walk_at "M enter") => `(tactic| ((case k1 => k_is); (case k2 => k_is); (case k3 => exact fun _ => .of_eq rfl); (case k4 => rfl)))
def encS (ps : List (Nat × Nat)) : List UInt8 := ps.flatMap fun p => enc p.1 ++ enc p.2
theorem encS_le : ∀ ps, (encS ps).length ≤ 16 * ps.length
  | [] => Nat.le_refl _
  | p :: ps => by
    show ((enc p.1 ++ enc p.2) ++ encS ps).length ≤ 16 * (ps.length + 1)
    rw [List.length_append, List.length_append, Nat.add_comm, Nat.mul_succ]
    exact Nat.add_le_add (encS_le ps) (Nat.add_le_add (enc_le _) (enc_le _))
theorem encS_take {ps : List (Nat × Nat)} {i : Nat} {p : Nat × Nat} (h : ps[i]? = some p) : encS (ps.take (i + 1)) = encS (ps.take i) ++ enc p.1 ++ enc p.2 := by
  rw [List.take_add_one, h]
  show List.flatMap _ _ = List.flatMap _ _ ++ _ ++ _
  rw [List.flatMap_append, List.append_assoc]
  exact congrArg _ (List.append_nil _)
def IntP (qs : Prs) (ps : List (Nat × Nat)) : Prop := qs.length = ps.length ∧ ∀ (i : Nat) (q : Addr × Value × Value), qs[i]? = some q → ∃ p a b, ps[i]? = some p ∧ q.2 = (Value.int (p.1 : Nat) a, Value.int (p.2 : Nat) b)
def Sett (g : Heap) (v : Value) (ps : List (Nat × Nat)) : Prop := ∃ l qs, v = .ref l ∧ g.IsList l (prV qs) ∧ PrOk g qs ∧ IntP qs ps
def SOk (ps : List (Nat × Nat)) : Prop := ps.length ≤ 10 ∧ ∀ p ∈ ps, p.1 < 2 ^ 62 ∧ p.2 < 2 ^ 62
theorem Sett.keeps {g g' : Heap} {v : Value} {ps : List (Nat × Nat)} (h : Sett g v ps) (k : g.StaysIn g') : Sett g' v ps :=
  let ⟨l, qs, e, h1, h2, h3⟩ := h; ⟨l, qs, e, h1.at fun _ z => k _ _ z, h2.keeps k, h3⟩
section
variable {w : World} {A : Around} {s : Shared} {g h : Heap} {fr : Fs} {L a : Addr} {m : NsM} {news : List (Addr × Obj)} {E : Value → Shared → Prop} {k : Nat}
theorem settings_c {v : Value} {ps : List (Nat × Nat)} {Q : Value → Shared → Prop} (hR : Rm A 3) (C : Cx w g fr h news) (hv : Sett g v ps) (hp : SOk ps)
    (ret : ∀ h' t k', Cx w g fr h' news → Q (.bytes (encS ps).toArray t) (St s h' k')) : wpG true (model prg w) A (call (.ref 130) [v]) Q E (St s h k) := by
  obtain ⟨l, qs, rfl, h1, h2, h3, h4⟩ := hv
  refine' enterG (binds := [("pairs", .ref l)]) C hR.lt ?k1 ?k2 ?k3 ?k4 fun L h₁ k₁ C₁ => ?_
  walk_at "M enter"
  refine asgP C₁ cY fun h₂ t₂ k₂ C₂ => ?_
  refine gFor (gP (nmL C₂) fun _ k₃ => forPr (fun i m nx => nx = news ∧ ∃ t, m "found" = some (.bytes (encS (ps.take i)).toArray t)) hR.hh C₂ h1 h2 ⟨rfl, _, rfl⟩ (fun i q g' h₄ m nx k₄ e J hg C₄ => ?_) fun h₄ m nx k₄ C₄ J => ?_) fun _ => rfl
  · obtain ⟨rfl, t, hf⟩ := J
    obtain ⟨p, a, b, ep, eq⟩ := h4 i q e
    have hi : i < ps.length := (List.getElem?_eq_some_iff.mp ep).1
    obtain ⟨o1, o2⟩ := hp.2 p (List.mem_of_getElem? ep)
    have z := Nat.le_trans (encS_le (ps.take i)) (Nat.mul_le_mul_left 16 (Nat.le_trans (List.length_take_le i ps) (Nat.le_of_lt (Nat.lt_of_lt_of_le hi hp.1))))
    have z1 : (encS (ps.take i)).length + (enc p.1).length ≤ 168 := Nat.add_le_add z (enc_le _)
    obtain ⟨c, _⟩ := q
    cases eq
    refine gAsg (gBin (gBin (gP (nmL C₄ (hv := by exact hf)) fun _ k₅ => callF C₄ (by rfl) (by k_is) (by k_is) fun k₆ => gP (nmL C₄) fun _ k₇ => gP cN fun _ k₈ => ⟨C₄.keep, varint_c hR.in C₄ o1 fun h₉ t₉ k₉ C₉ =>
      addY (Nat.le_trans z1 (by decide)) fun t₁ k₁ => callF C₉ (by rfl) (by k_is) (by k_is) fun k₆ => gP (nmL C₉) fun _ k₇ => gP cN fun _ k₈ => ⟨C₉.keep, varint_c hR.in C₉ o2 fun h₃ t₃ k₃ C₃ =>
      addY ?_ fun t₂ k₂ => stoX C₃ fun h₅ k₅ C₅ => gNil (tnNext C₅ ⟨rfl, t₂, ?_⟩)⟩⟩)))
    · rw [List.length_append]; exact Nat.le_trans (Nat.add_le_add z1 (enc_le _)) (by decide)
    · rw [encS_take ep]; rfl
  · obtain ⟨rfl, t, hf⟩ := J
    rw [h3, List.take_length] at hf
    exact retP (nmL C₄ (hv := by exact hf)) fun _ k' => ret _ t k' C₄.pop
end
end Mine

open PySem PySem.W PySem.Calls PyProof.Rows
set_option Elab.async false
set_option maxRecDepth 100000
set_option linter.unusedVariables false
namespace Mine
local macro_rules | `(tactic| walk_at "M enter") => `(tactic| ((case k1 => k_is); (case k2 => k_is); (case k3 => exact fun _ => .of_eq rfl); (case k4 => rfl)))
inductive Frm
  | pl (b : Bool) (p : List UInt8)
  | st (ps : List (Nat × Nat))
  | pp (n : Nat) (p : List UInt8)
  | id (i : Nat) (n : Nat)
  | un (kd : Nat) (p : List UInt8)
def idT : Nat → Nat | 0 => 3 | 1 => 7 | _ => 13
def idN : Nat → Str | 0 => "cancel_push" | 1 => "goaway" | _ => "max_push"
def Frm.typ : Frm → Nat | .pl b _ => if b then 1 else 0 | .st _ => 4 | .pp _ _ => 5 | .id i _ => idT i | .un kd _ => kd
def Frm.pay : Frm → List UInt8 | .pl _ p => p | .st ps => encS ps | .pp n p => enc n ++ p | .id _ n => enc n | .un _ p => p
def encF (f : Frm) : List UInt8 := plainB f.typ f.pay
def Frm.its (g : Heap) : Frm → Str × (List Value → Prop)
  | .pl b p => (if b then "headers" else "data", fun vs => ∃ t, vs = [.bytes p.toArray t])
  | .st ps => ("settings", fun vs => ∃ v, vs = [v] ∧ Sett g v ps)
  | .pp n p => ("push_promise", fun vs => ∃ t u, vs = [.int n t, .bytes p.toArray u])
  | .id i n => (idN i, fun vs => ∃ t, vs = [.int n t])
  | .un kd p => ("unknown", fun vs => ∃ t u, vs = [.int kd t, .bytes p.toArray u])
def FrAt (g : Heap) (v : Value) (f : Frm) : Prop := ∃ t u vs, v = .ref t ∧ g.IsTuple t (Value.str (f.its g).1 u :: vs).toArray ∧ (f.its g).2 vs
def Frm.ok : Frm → Prop
  | .pl _ p => p.length ≤ 8
  | .st ps => SOk ps
  | .pp n p => n < 2 ^ 62 ∧ p.length ≤ 8
  | .id i n => i < 3 ∧ n < 2 ^ 62
  | .un kd p => 14 < kd ∧ kd < 2 ^ 62 ∧ p.length ≤ 8
abbrev idQs : Prs := [(111, .int 3 358, .str "cancel_push" 359), (112, .int 7 360, .str "goaway" 361), (113, .int 13 362, .str "max_push" 363)]
section
variable {w : World} {A : Around} {s : Shared} {g h : Heap} {fr : Fs} {L a : Addr} {m : NsM} {news : List (Addr × Obj)} {E : Value → Shared → Prop} {k : Nat} {env : Env} {test x y l r : Expr} {pos : Pos} {f₁ f₂ : Tok → Value}
theorem idTup (G : Gd w g) : g.IsTuple 114 (prV idQs) := ⟨_, G.X _ _ (by k_is), rfl, _, rfl⟩
theorem idPrs (G : Gd w g) : PrOk g idQs
  | 0, _, rfl => ⟨_, G.X _ _ (by k_is), rfl, _, rfl⟩
  | 1, _, rfl => ⟨_, G.X _ _ (by k_is), rfl, _, rfl⟩
  | 2, _, rfl => ⟨_, G.X _ _ (by k_is), rfl, _, rfl⟩
  | _ + 3, _, h => nomatch h
theorem idAt : ∀ {i : Nat} {q : Addr × Value × Value}, idQs[i]? = some q → i < 3 ∧ ∃ a t u, q = (a, .int (idT i : Nat) t, .str (idN i) u)
  | 0, _, rfl => ⟨by decide, _, _, _, rfl⟩
  | 1, _, rfl => ⟨by decide, _, _, _, rfl⟩
  | 2, _, rfl => ⟨by decide, _, _, _, rfl⟩
  | _ + 3, _, h => nomatch h
theorem pIf {b : Bool} {f : Tok → Value} (ht : PTs w A env s h test b) (h1 : b = true → PEv w A env s h x f) (h2 : b = false → PEv w A env s h y f) : PEv w A env s h (.IfExp test x y pos) f := fun k Q E hQ =>
  wpAny_IfExp (ht k _ _ E fun k₁ => by
    cases b with
    | true => exact h1 rfl k₁ Q E hQ
    | false => exact h2 rfl k₁ Q E hQ)
theorem h3_c {v : Value} {f : Frm} {Q : Value → Shared → Prop} (hR : Rm A 4) (C : Cx w g fr h news) (hv : FrAt g v f) (hf : f.ok)
    (ret : ∀ h' t k', Cx w g fr h' news → Q (.bytes (encF f).toArray t) (St s h' k')) : wpG true (model prg w) A (call (.ref 137) [v]) Q E (St s h k) := by
  obtain ⟨t, u, vs, rfl, ht, hi⟩ := hv
  refine' enterG (binds := [("frame", .ref t)]) C hR.lt ?k1 ?k2 ?k3 ?k4 fun L h₁ k₁ C₁ => ?_
  walk_at "M enter"
  have ht₁ := ht.at fun _ z => C₁.keep _ _ z
  refine asgP C₁ (pItT ht₁ (nmL C₁) cI ⟨rfl, by decide⟩ rfl (fun _ => rfl)) fun h₂ t₂ k₂ C₂ => ?_
  have ht₂ := ht.at fun _ z => C₂.keep _ _ z
  cases f with
  | pl b p =>
    obtain ⟨t3, rfl⟩ := hi
    refine ifYes (tOr (tEqS (nmL C₂) cS) fun _ => tEqS (nmL C₂) cS) ?_ fun k₃ => ?_
    · cases b <;> rfl
    refine gRet (callF C₂ (by rfl) (by k_is) (by k_is) fun k₄ => gP (pIf (f := fun _ => .int (Frm.pl b p).typ (cond b 352 350)) (tEqS (nmL C₂) cS) (fun e => ?_) fun e => ?_) fun t₅ k₅ => gP (pItT ht₂ (nmL C₂) cI ⟨rfl, by decide⟩ rfl (fun _ => rfl)) fun _ k₆ => ⟨C₂.keep, plain_c hR.in C₂ ?_ (Nat.le_trans hf (by decide)) fun h' t k' C' => ret h' t k' C'.pop⟩)
    · cases b
      · exact nmK C₂ (by rfl) (by k_is)
      · cases e
    · cases b
      · cases e
      · exact nmK C₂ (by rfl) (by k_is)
    · cases b
      · exact (by decide : 0 < 2 ^ 62)
      · exact (by decide : 1 < 2 ^ 62)
  | st ps =>
    obtain ⟨v, rfl, hs⟩ := hi
    refine ifNo (tOr (tEqS (nmL C₂) cS) fun _ => tEqS (nmL C₂) cS) rfl fun k₃ => ifYes (tEqS (nmL C₂) cS) rfl fun k₄ => ?_
    refine gRet (callF C₂ (by rfl) (by k_is) (by k_is) fun k₄ => gP (nmK C₂ (by rfl) (by k_is)) fun _ k₅ => callF C₂ (by rfl) (by k_is) (by k_is) fun k₆ => gP (pItT ht₂ (nmL C₂) cI ⟨rfl, by decide⟩ rfl (fun _ => rfl)) fun _ k₇ => ⟨C₂.keep,
      settings_c hR.in C₂ (hs.keeps fun _ _ z => z) hf fun h' t k' C₃ => ⟨C₃.keep, plain_c (kd := 4) hR.in C₃ (by decide) ?_ fun h' t k' C' => ret h' t k' C'.pop⟩⟩)
    exact Nat.le_trans (encS_le ps) (Nat.le_trans (Nat.mul_le_mul_left 16 hf.1) (by decide))
  | pp n p =>
    obtain ⟨t3, t4, rfl⟩ := hi
    refine ifNo (tOr (tEqS (nmL C₂) cS) fun _ => tEqS (nmL C₂) cS) rfl fun k₃ => ifNo (tEqS (nmL C₂) cS) rfl fun k₄ => ifYes (tEqS (nmL C₂) cS) rfl fun k₄ => ?_
    refine gRet (callF C₂ (by rfl) (by k_is) (by k_is) fun k₄ => gP (nmK C₂ (by rfl) (by k_is)) fun _ k₅ => gBin (callF C₂ (by rfl) (by k_is) (by k_is) fun k₆ => gP (pItT ht₂ (nmL C₂) cI ⟨rfl, by decide⟩ rfl (fun _ => rfl)) fun _ k₇ => gP cN fun _ k₈ => ⟨C₂.keep,
      varint_c (hR.in.le (by decide)) C₂ hf.1 fun h₃ t₃ k₉ C₃ => gP (pItT (ht.at fun _ z => C₃.keep _ _ z) (nmL C₃) cI ⟨rfl, by decide⟩ rfl (fun _ => rfl)) fun _ k₁ => addY (Nat.le_trans (Nat.add_le_add (enc_le n) hf.2) (by decide)) fun t k' => ⟨C₃.keep, plain_c (kd := 5) hR.in C₃ (by decide) ?_ fun h' t k' C' => ret h' t k' C'.pop⟩⟩))
    rw [List.length_append]
    exact Nat.le_trans (Nat.add_le_add (enc_le n) hf.2) (by decide)
  | id i n =>
    obtain ⟨t3, rfl⟩ := hi
    have q := (by decide : ∀ i < 3, ((idN i == "data" || idN i == "headers") = false ∧ (idN i == "settings") = false) ∧ (idN i == "push_promise") = false ∧ (idN i == "unknown") = false) i hf.1
    refine ifNo (tOr (tEqS (nmL C₂) cS) fun _ => tEqS (nmL C₂) cS) q.1.1 fun k₃ => ifNo (tEqS (nmL C₂) cS) q.1.2 fun k₄ => ifNo (tEqS (nmL C₂) cS) q.2.1 fun k₄ => ifNo (tEqS (nmL C₂) cS) q.2.2 fun k₄ => ?_
    refine gFor (gP (nmK C₂ (by rfl) (by k_is)) fun _ k₅ => forPrT (E₁ := No) (fun j m nx => nx = news ∧ (m "frame" = some (.ref t) ∧ m "kind" = some (.str (idN i) u)) ∧ j ≤ i) hR.hh C₂ (idTup C₂.G) (idPrs C₂.G) ⟨rfl, ⟨rfl, rfl⟩, Nat.zero_le _⟩
      (fun j q g' h₃ m nx k₃ e J hg C₃ => ?_) (fun h₃ m nx k₃ C₃ J => absurd hf.1 (Nat.not_lt.mpr J.2.2)) (fun _ _ z => False.elim z)) fun _ => rfl
    obtain ⟨hj, a, b, c, rfl⟩ := idAt e
    obtain ⟨rfl, ⟨j1, j2⟩, j3⟩ := J
    refine ifP (tEqS (nmL C₃) (nmL C₃ (hv := by exact j2))) (fun e k₆ => ?_) fun e k₆ => ?_
    · have e := (by decide : ∀ j < 3, ∀ i < 3, (idN j == idN i) = true → j = i) j hj i hf.1 e
      subst e
      exact gRet (callF C₃ (by rfl) (by k_is) (by k_is) fun k₄ => gP (nmL C₃) fun _ k₅ => callF C₃ (by rfl) (by k_is) (by k_is) fun k₆ => gP (pItT (ht.at fun _ z => C₃.keep _ _ (hg _ _ z)) (nmL C₃ (hv := by exact j1)) cI ⟨rfl, by decide⟩ rfl (fun _ => rfl)) fun _ k₇ => gP cN fun _ k₈ => ⟨C₃.keep,
        varint_c (hR.in.le (by decide)) C₃ hf.2 fun h₅ t₅ k₅ C₅ => ⟨C₅.keep, plain_c hR.in C₅ ((by decide : ∀ i < 3, idT i < 2 ^ 62) j hj) (Nat.le_trans (enc_le n) (by decide)) fun h' t k' C' => ret h' t k' (C'.pop.less C.G hg)⟩⟩)
    · exact gNil (tnNext C₃ ⟨rfl, ⟨j1, j2⟩, Nat.lt_of_le_of_ne j3 fun z => by rw [z, beq_self_eq_true] at e; cases e⟩)
  | un kd p =>
    obtain ⟨t3, t4, rfl⟩ := hi
    refine ifNo (tOr (tEqS (nmL C₂) cS) fun _ => tEqS (nmL C₂) cS) rfl fun k₃ => ifNo (tEqS (nmL C₂) cS) rfl fun k₄ => ifNo (tEqS (nmL C₂) cS) rfl fun k₄ => ifYes (tEqS (nmL C₂) cS) rfl fun k₄ => ?_
    exact gRet (callF C₂ (by rfl) (by k_is) (by k_is) fun k₄ => gP (pItT ht₂ (nmL C₂) cI ⟨rfl, by decide⟩ rfl (fun _ => rfl)) fun _ k₅ => gP (pItT ht₂ (nmL C₂) cI ⟨rfl, by decide⟩ rfl (fun _ => rfl)) fun _ k₆ => ⟨C₂.keep, plain_c hR.in C₂ hf.2.1 (Nat.le_trans hf.2.2 (by decide)) fun h' t k' C' => ret h' t k' C'.pop⟩)
end
end Mine

open PySem PySem.W PySem.Calls PyProof.Rows
set_option Elab.async false
set_option maxRecDepth 100000
set_option linter.unusedVariables false
namespace Mine
section
variable {prog : Program} {w : World} {A : Around} {E : Value → Shared → Prop} {s : Shared}
theorem nextTupItem {it t : Addr} {i : Nat} {items : Array Value} {x : Value} {Q : Value → Shared → Prop} (hit : s.heap.IsTupleIter it t i) (ht : s.heap.IsTuple t items) (hx : items[i]? = some x)
    (hQ : ∀ h', h'.IsTupleIter it t (i + 1) → Heap.SameBut it s.heap h' → Q x { s with heap := h' }) : wpAny (model prog w) A (Builtin.SmallTypes.nextOf (.ref it)) Q E s := by
  obtain ⟨o, ho, hc, hd⟩ := id hit
  obtain ⟨ol, hol, _, nl, hdl⟩ := ht
  unfold Builtin.SmallTypes.nextOf
  refine wpAny_bind (wpAny_callSpecial?_slot (name := Str.ofString "__next__") ⟨o, ho, hc⟩ F.slot_tuple_iterator_next (wpAny_call_entry F.slot_tuple_iterator_next ⟨o, ho, hc⟩ F.entry_tuple_iterator_next ?_ (F.args_tuple_iterator_next_1 _)))
  show wpAny _ _ (field (.ref it) 0 >>= _) _ _ s
  refine wpAny_bind (wpAny_field ho hd (x := .ref t) rfl ?_)
  show wpAny _ _ (if (Value.ref t == Value.none) = true then _ else _) _ _ s
  rw [if_neg (show ¬ ((Value.ref t == Value.none) = true) from Bool.false_ne_true)]
  show wpAny _ _ (field (.ref it) 1 >>= _) _ _ s
  refine wpAny_bind (wpAny_field ho hd (x := .int i 0) rfl ?_)
  show wpAny _ _ (seqItems? (.ref t) >>= _) _ _ s
  refine wpAny_bind (wpAny_seqItems hol hdl ?_)
  simp only [Int.toNat_natCast, hx]
  refine wpAny_bind (wpAny_setField ho hd (by simp) (wpAny_pure ⟨x, rfl, wpAny_pure (hQ _ ?_ (Heap.SameBut.update ..))⟩))
  exact ⟨_, Heap.get?_update_self _ ho (Obj.isFreed_of_fields (Obj.data_mapFields hd _)), (Obj.cls_mapFields ..).trans hc, by rw [Obj.data_mapFields hd]; simp [rawInt]⟩
theorem meetsEnumNewT (t : Addr) (items : Array Value) (n : Nat) (dct : Option Addr) (sl : Array (Option Value)) :
    Meets (Builtin.«enumerate.__new__» ⟨[.type "enumerate", .ref t], []⟩) (fun _ R s => s.heap.get? t = some { cls := .type "tuple", dict := dct, data := .seq items n, slots := sl } ∧
      R (.ok (.ret (.ref (s.heap.push { cls := .type "tuple_iterator", data := .fields #[.ref t, .int 0 0] }).objs.size)))
        { s with heap := (s.heap.push { cls := .type "tuple_iterator", data := .fields #[.ref t, .int 0 0] }).push { cls := .type "enumerate", data := .fields #[.none, .bool false, .ref s.heap.objs.size, rawInt 0, .none, .none] } }) :=
  .of_wp fun prog w A R s h => by
    obtain ⟨hp, g, d, tk, os⟩ := s; obtain ⟨hl, h⟩ := h
    have hsub := sub_enumerate
    have hL : Heap.IsTuple (Shared.heap ⟨hp, g, d, tk, os⟩) t items := ⟨_, hl, rfl, n, rfl⟩
    wp_walk using AutoSeq1.wpAny_loadPart' hl
    refine wpAny_stack_any fun st => wpAny_pure ?_
    split
    · rename_i c _ _ _ _ _
      cases (c == Value.type "enumerate")
      · wp_walk using AutoSeq1.wpAny_loadPart' hl, wpAny_pyIter_tuple hL
        exact ⟨_, rfl, h⟩
      · wp_walk using AutoSeq1.wpAny_loadPart' hl, wpAny_pyIter_tuple hL
        exact ⟨_, rfl, h⟩
    · wp_walk using AutoSeq1.wpAny_loadPart' hl, wpAny_pyIter_tuple hL
      exact ⟨_, rfl, h⟩
theorem nextTupEnd {it t : Addr} {i : Nat} {items : Array Value} {Q : Value → Shared → Prop} (hh : A.handled = none) (hit : s.heap.IsTupleIter it t i) (ht : s.heap.IsTuple t items) (hx : items[i]? = none)
    (hE : ∀ h' e, Heap.ExtBut it s.heap h' → (∃ o, h'.get? e = some o ∧ o.cls = .type "StopIteration") → E (.ref e) { s with heap := h' }) : wpAny (model prog w) A (Builtin.SmallTypes.nextOf (.ref it)) Q E s := by
  obtain ⟨o, ho, hc, hd⟩ := id hit
  obtain ⟨ol, hol, _, nl, hdl⟩ := ht
  unfold Builtin.SmallTypes.nextOf
  refine wpAny_bind (wpAny_callSpecial?_slot (name := Str.ofString "__next__") ⟨o, ho, hc⟩ F.slot_tuple_iterator_next (wpAny_call_entry F.slot_tuple_iterator_next ⟨o, ho, hc⟩ F.entry_tuple_iterator_next ?_ (F.args_tuple_iterator_next_1 _)))
  show wpAny _ _ (field (.ref it) 0 >>= _) _ _ s
  refine wpAny_bind (wpAny_field ho hd (x := .ref t) rfl ?_)
  show wpAny _ _ (if (Value.ref t == Value.none) = true then _ else _) _ _ s
  rw [if_neg (show ¬ ((Value.ref t == Value.none) = true) from Bool.false_ne_true)]
  show wpAny _ _ (field (.ref it) 1 >>= _) _ _ s
  refine wpAny_bind (wpAny_field ho hd (x := .int i 0) rfl ?_)
  show wpAny _ _ (seqItems? (.ref t) >>= _) _ _ s
  refine wpAny_bind (wpAny_seqItems hol hdl ?_)
  simp only [Int.toNat_natCast, hx]
  refine wpAny_bind (wpAny_rule (wpAny_bind (wpAny_setField ho hd (by simp) ?_)))
  show wpAny _ _ (newExc (.type "StopIteration") [] >>= _) _ _ _
  refine wpAny_bind ?_
  simp only [newExc, newTuple]
  refine wpAny_bind (wpAny_newObj_type ?_ (by size_fits))
  refine wpAny_bind (m := firstArgMember _ _) (wpAny_of_eq (a := Value.none) (by first | rfl | (simp only [firstArgMember]; rfl)) ?_)
  refine wpAny_newObj_type ?_ (by size_fits)
  simp only [raiseNew]
  refine wpAny_bind (wpAny_handled ?_)
  rw [show A.in1.handled = none from hh]
  refine wpAny_bind (wpAny_pure (wpAny_throw ?_))
  exact hE _ _ (((Heap.SameBut.update ..).extBut.push _).push _) ⟨_, Heap.get?_push_size _ rfl, rfl⟩
theorem drawsTup (hh : A.handled = none) (it t : Addr) (hne : t ≠ it) (items : Array Value) : PySem.Draws prog w A it [it, t] items.size (fun i v => items[i]? = some v) (fun i h => h.IsTupleIter it t i ∧ h.IsTuple t items) where
  live := fun _ _ st => let ⟨o, ho, _⟩ := st.1; ⟨o, ho⟩
  frame := fun _ _ _ st hk => ⟨st.1.at fun o e => hk it (.head _) o e, st.2.at fun o e => hk t (.tail _ (.head _)) o e⟩
  item := fun i s Q E hi st hQ => nextTupItem st.1 st.2 (Array.getElem?_eq_getElem hi) fun h' hit' hs' => hQ _ h' s.toks (Array.getElem?_eq_getElem hi) ⟨hit', st.2.extBut hs'.extBut hne⟩ hs'
  done := fun s Q E st hE => nextTupEnd hh st.1 st.2 (Array.getElem?_eq_none (Nat.le_refl _)) hE
end
end Mine

open PySem PySem.W PySem.Calls PyProof.Rows
set_option Elab.async false
set_option maxRecDepth 1000000
set_option maxHeartbeats 0
namespace Mine
noncomputable def qv : Program := view prg [1, 2, 3, 4, 6, 7, 8, 9, 10, 11, 13, 14, 15, 16, 17, 18, 19, 20, 21, 22, 23, 24, 25, 26, 27, 28, 29, 30, 31, 32, 34, 35, 36, 37, 38, 39, 40, 41, 42]
theorem opn : opening prg = plainProg prg.main.scope.names := by kernel_rfl
theorem fnc (s : Shared) : fenceModules? prg s = some s := by kernel_rfl
noncomputable abbrev hk : Hook := kmHook KK KA (fun _ => rfl) [252, 259]
theorem looks (w : World) (os : OsState) : (topFrom treeTable prg w 4000 ⟨boot_heap w.params, Array.mk [], boot_drawn, boot_toks, os⟩).map (fun s => (openSeen qv [] (importedModules prg.main.body) (fun s => xlAt qv [] s && recOk [] s) true s, hk.obs s)) = some (openGood qv [], hk.val w) := by
  unfold topFrom
  rw [PySem.W.Fast.te14082659384304107361, PySem.W.Fast.te14364793385576792824, PySem.W.Fast.te4187177175401517315, PySem.W.Fast.te5923862056798008813]
  kernel_rfl
theorem left : LeftO prg qv [] (fun s => xlAt qv [] s && recOk [] s) hk.obs hk.val 4000 := fun w => by
  obtain ⟨⟨h, g, d, k, os⟩, hs, hv⟩ := Option.map_eq_some_iff.mp (boot_open opn (by decide : Nat.ble 600 4000 = true) fnc w)
  obtain ⟨rfl, rfl, rfl, rfl⟩ : h = boot_heap w.params ∧ g = Array.mk [] ∧ d = boot_drawn ∧ k = boot_toks := by
    simp only [Prod.mk.injEq] at hv; exact hv
  unfold openEnds
  rw [hs]
  exact looks w os
theorem said : PySem.Challenge.rw_no0072_01.wellSaid = true := by
  rw [PySem.W.Fast.te9446332074065402090]
  kernel_rfl
end Mine

open PySem PySem.W PySem.Calls PyProof.Rows
set_option Elab.async false
set_option maxRecDepth 1000000
set_option maxHeartbeats 0
namespace Mine
theorem defs : ((defOf qv PySem.Challenge.rw_no0072_01.row.name).map fun x => (x.1.params, x.1.body, x.1.scope)) = prg.theDef PySem.Challenge.rw_no0072_01.row.name ∧ ((defOf qv PySem.Challenge.rw_no0072_01.row.name).map fun x => kwWritten? x.1.params.kwonlyargs x.1.params.kw_defaults) = (defOf qv PySem.Challenge.rw_no0072_01.row.name).map (fun x => some x.2) ∧ (defOf qv PySem.Challenge.rw_no0072_01.row.name).isSome = true :=
  ⟨by kernel_rfl, by kernel_rfl, by kernel_rfl⟩
theorem prom : PySem.Challenge.rw_no0072_01.row.toRowW.promised := by w_witness2
theorem okay : (chainsOk qv && opensWell prg && (frees PySem.Challenge.rw_no0072_01.row.toRowW && PySem.Challenge.rw_no0072_01.row.within.isEmpty)) = true := by kernel_rfl
theorem bared : prg.bare := ⟨rfl, rfl, rfl, rfl, rfl, by decide +kernel⟩
theorem hd (walk : Walk2 PySem.Challenge.rw_no0072_01.row.toRowW (fun w h => (KK w.params).In h ∧ ∀ P ∈ [252, 259], h.get? P = some (tabObj #[]))) : PySem.Challenge.rw_no0072_01.Holds := by
  refine holds_law said fun sd => ?_
  obtain ⟨d1, d2, d3⟩ := defs
  obtain ⟨⟨d, kwd⟩, hd⟩ := Option.isSome_iff_exists.mp d3
  rw [hd] at d1 d2
  exact openHolds (q := qv) (loose := []) (Xt := fun s => xlAt qv [] s && recOk [] s) (XP := XL qv []) (Yf := hk.obs) (Ya := hk.val) (YP := hk.says) (N := 4000) left hk.of hk.keeps (fun s e => xl_of s (Bool.and_eq_true_iff.mp e).1) XL.keeps
    hd d1.symm (Option.some.inj d2) (fun s e => recFacts_of (Bool.and_eq_true_iff.mp e).2) rfl sd okay bared prom walk
end Mine

open PySem PySem.W PySem.Calls PyProof.Rows
set_option Elab.async false
set_option maxRecDepth 100000
set_option linter.unusedVariables false
namespace Mine
def FrA (A : Around) (fr : Fs) : Prop := ∃ envs : List Env, A.frames = some envs ∧ envs.map (·.frame) = fr.map (fun p => some p.1) ∧ ∀ e ∈ envs, e.scope.kind ≠ .module
def FrE (A : Around) (env : Env) (fr : Fs) : Prop := ∃ outer : List Env, A.frames = some (env :: outer) ∧ (env :: outer).map (·.frame) = fr.map (fun p => some p.1) ∧ ∀ e ∈ env :: outer, e.scope.kind ≠ .module
theorem FrE.a {A : Around} {env : Env} {fr : Fs} (F : FrE A env fr) : FrA A fr := let ⟨o, h⟩ := F; ⟨_, h⟩
theorem FrA.in {A : Around} {env : Env} {fr : Fs} {L : Addr} {m : NsM} (F : FrA A fr) (hf : env.frame = some L) (hk : env.scope.kind = .function) : FrE (A.deeper env) env ((L, m) :: fr) :=
  let ⟨envs, h1, h2, h3⟩ := F
  ⟨envs, Around.frames_deeper h1, by rw [List.map_cons, List.map_cons, hf, h2], List.forall_mem_cons.mpr ⟨(by rw [hk]; intro q; cases q), h3⟩⟩
theorem FrE.up {A : Around} {env : Env} {fr : Fs} {L : Addr} {m m' : NsM} (F : FrE A env ((L, m) :: fr)) : FrE A env ((L, m') :: fr) := F
theorem FrE.aa {A : Around} {env : Env} {fr : Fs} {L : Addr} {m m' : NsM} (F : FrE A env ((L, m) :: fr)) : FrA A ((L, m') :: fr) := F.a
theorem frAddr : ∀ {envs : List Env} {fr : Fs}, envs.map (·.frame) = fr.map (fun p => some p.1) → envs.filterMap (·.frame) = fr.map (·.1)
  | [], [], _ => rfl
  | [], _ :: _, h => nomatch h
  | _ :: _, [], h => nomatch h
  | e :: envs, p :: fr, h => by
    rw [List.map_cons, List.map_cons] at h
    injection h with h1 h2
    rw [List.filterMap_cons, h1, List.map_cons, frAddr h2]
section
variable {w : World} {g h h' : Heap} {L : Addr} {m m' : Str → Option Value} {news : List (Addr × Obj)} {fr : Fs}
theorem frFun {g h : Heap} : ∀ {envs : List Env} {fr : Fs}, (∀ p ∈ fr, h.Ns p.1 p.2 ∧ g.get? p.1 = none) → envs.map (·.frame) = fr.map (fun p => some p.1) → (∀ e ∈ envs, e.scope.kind ≠ .module) → h.FunFrames g envs
  | [], [], _, _, _ => trivial
  | [], _ :: _, _, h, _ => nomatch h
  | _ :: _, [], _, h, _ => nomatch h
  | e :: envs, p :: fr, hF, h, hk => by
    rw [List.map_cons, List.map_cons] at h
    injection h with h1 h2
    obtain ⟨⟨o, es, ep, ho, hd, _⟩, hn⟩ := hF p (.head _)
    exact ⟨hk e (.head _), ⟨p.1, o, h1, hn, ho, fun vs q => by rw [hd] at q; cases q⟩, frFun (fun q hq => hF q (.tail _ hq)) h2 fun e he => hk e (.tail _ he)⟩
theorem Cx.slots (C : Cx w g fr h news) {S : List Addr} (x : Heap.SlotsOnly S h h') (hS : ∀ b ∈ S, ∃ p ∈ fr, p.1 = b) : Cx w g fr h' news := by
  refine ⟨C.G, fun b o e => ?_, C.P, fun p hp => ⟨?_, (C.F p hp).2⟩, fun q hq => ?_⟩
  · rw [x.2.1 b fun hb => ?_]
    · exact C.keep b o e
    · obtain ⟨p, hp, rfl⟩ := hS b hb
      rw [(C.F p hp).2] at e; cases e
  · obtain ⟨o, es, ep, ho, hd, r⟩ := (C.F p hp).1
    obtain ⟨sl, hs⟩ := x.2.2 p.1 o ho
    exact ⟨_, es, ep, hs, hd, r⟩
  · have z := C.N q hq
    rw [x.2.1 q.1 fun hb => ?_]
    · exact z
    · obtain ⟨p, hp, e⟩ := hS _ hb
      exact z.2.2 p hp e.symm
theorem Cx.upd {b : Addr} {o : Obj} {f : Obj → Obj} (C : Cx w g fr h ((b, o) :: news)) (hne : ∀ q ∈ news, q.1 ≠ b) (hf : (f o).isFreed = false) : Cx w g fr (h.update b f) ((b, f o) :: news) :=
  C.but (UpdF.head hne) (fun c oc hc e => (Heap.get?_update_other _ _ (Ne.symm hc)).trans e) (Heap.get?_update_self f (C.N _ (.head _)).1 hf)
end
section
variable {M : Model} {w : World} {A : Around} {s : Shared} {g h : Heap} {fr : Fs} {L a e T : Addr} {m : NsM} {news : List (Addr × Obj)} {E : Value → Shared → Prop} {k : Nat} {env : Env} {oe oT : Obj} {vs ts : Array Value} {head fl : Value}
theorem fieldsFree {o : Obj} {vs : Array Value} (hd : o.data = .fields vs) (f : Array Value → Array Value) : (Obj.mapFields f o).isFreed = false := Obj.isFreed_of_fields (Obj.data_mapFields hd f)
theorem Cx.ne (C : Cx w g fr h ((e, oe) :: news)) {a : Addr} (hn : h.get? a = none) : a ≠ e := fun q => by have := (C.N _ (.head _)).1; rw [← q] at this; exact absurd (hn.symm.trans this) (fun z => by cases z)
theorem Cx.nes (C : Cx w g fr h news) {a : Addr} (hn : h.get? a = none) : ∀ q ∈ news, q.1 ≠ a := fun q hq z => by have := (C.N q hq).1; rw [z] at this; exact absurd (hn.symm.trans this) (fun z => by cases z)
theorem entryC {hn : Bool} {Q : Unit → Shared → Prop} (F : FrE A env ((L, m) :: fr)) (hf : env.frame = some L) (C : Cx w g ((L, m) :: fr) h ((e, oe) :: news)) (hne : ∀ q ∈ news, q.1 ≠ e) (hd : oe.data = .fields vs) (hsz : 1 < vs.size)
    (hQ : ∀ h' T oT ts, Cx w g ((L, m) :: fr) h' ((e, oe.mapFields (·.setIfInBounds 1 (.ref T))) :: (T, oT) :: news) → h.get? T = none → oT.data = .fields ts → ts[3]? = some (rawInt L) → Q () (St s h' k)) :
    wpAny M A (do let a ← frameOf env; let pl ← entryPlaceOf L hn; let b ← EntryCells.newEntry head a .none (rawInt L) .none pl; setField (.ref e) 1 b) Q E (St s h k) := by
  obtain ⟨outer, h1, h2, h3⟩ := F
  refine wpAny_bind (wpAny_frameOf_fun (s := St s h k) (base := g) h1 (frFun C.F h2 h3) hf fun h₁ hs₁ => ?_)
  have C₁ := C.slots hs₁ fun b hb => by
    rw [frAddr h2] at hb
    obtain ⟨p, hp, q⟩ := List.mem_map.mp hb
    exact ⟨p, hp, q⟩
  refine wpAny_bind (wpAny_entryPlaceOf fun pl hpl => ?_)
  unfold EntryCells.newEntry newFields
  refine wpAny_bind (wpAny_newObj_type ?_ (hpl.sizeOk5 _ _ _ _ _))
  have C₂ := C₁.push { cls := .type "traceback", dict := none, data := .fields ([head, .ref L, .none, rawInt L, .none] ++ (if pl.isEmpty then List.replicate 6 Value.none else pl)).toArray }
  have hne₁ := C₁.nes (get_size h₁)
  have he := (C₂.N _ (.tail _ (.head _))).1
  refine wpAny_setField he hd hsz ?_
  have C₃ : Cx w g ((L, m) :: fr) (h₁.push _) ((e, oe) :: (h₁.objs.size, _) :: news) := C₂.drop fun p hp => by
    rcases List.mem_cons.mp hp with rfl | hp
    · exact .tail _ (.head _)
    · rcases List.mem_cons.mp hp with rfl | hp
      · exact .head _
      · exact .tail _ (.tail _ hp)
  refine hQ _ h₁.objs.size _ _ (C₃.upd (f := Obj.mapFields (·.setIfInBounds 1 (.ref h₁.objs.size))) (fun q hq => ?_) (fieldsFree hd _)) ?_ rfl ?_
  · rcases List.mem_cons.mp hq with rfl | hq
    · exact (hne₁ _ (.head _)).symm
    · exact hne q hq
  · exact Heap.get?_none_of_le (by rw [← hs₁.1]; exact Nat.le_refl _)
  · first | (simp; done) | (rcases hpl with rfl | ⟨_, _, _, _, _, _, _, rfl⟩ <;> simp)
def NsO (o : Obj) (m : NsM) : Prop := ∃ es ep, o.data = .dict es ep ∧ StrKeys es ∧ UniqKeys es ∧ ∀ name, nsFind es name = m name
structure XO (C : Addr) (c : Int) (d : Addr) (oe od : Obj) (vs : Array Value) : Prop where
  cls : oe.cls = .ref C
  dict : oe.dict = some d
  data : oe.data = .fields vs
  code : ∃ m, NsO od m ∧ (C = 51 → ∃ t, m "code" = some (.int c t))
  ctx : C = 71 → vs[2]? = some .none
  size : 2 < vs.size
theorem XO.tb {C : Addr} {c : Int} {d : Addr} {oe od : Obj} {vs : Array Value} {x : Value} (X : XO C c d oe od vs) : XO C c d (oe.mapFields (·.setIfInBounds 1 x)) od (vs.setIfInBounds 1 x) :=
  ⟨(Obj.cls_mapFields ..).trans X.cls, (by obtain ⟨_, _, dt, _⟩ := oe; have := X.data; simp only at this; subst this; exact X.dict), Obj.data_mapFields X.data _, X.code, fun q => by rw [Array.getElem?_setIfInBounds_ne (by decide)]; exact X.ctx q, by rw [Array.size_setIfInBounds]; exact X.size⟩
def New (w : World) (g : Heap) (fr : Fs) (h : Heap) (news : List (Addr × Obj)) (e C : Addr) (c : Int) : Prop :=
  ∃ d oe od vs, Cx w g fr h ((e, oe) :: (d, od) :: news) ∧ d ≠ e ∧ (∀ q ∈ news, q.1 ≠ e ∧ q.1 ≠ d) ∧ XO C c d oe od vs ∧ vs[1]? = some .none
def Fly (w : World) (g : Heap) (fr : Fs) (h : Heap) (news : List (Addr × Obj)) (e C : Addr) (c : Int) (fl : Value) : Prop :=
  ∃ d oe od T oT vs ts, Cx w g fr h ((e, oe) :: (T, oT) :: (d, od) :: news) ∧ (d ≠ e ∧ T ≠ e ∧ d ≠ T) ∧ (∀ q ∈ news, q.1 ≠ e ∧ q.1 ≠ d ∧ q.1 ≠ T) ∧ XO C c d oe od vs ∧ vs[1]? = some (.ref T) ∧ oT.data = .fields ts ∧ ts[3]? = some fl
variable {C : Addr} {c : Int}
theorem noteN {Q : Unit → Shared → Prop} (F : FrE A env ((L, m) :: fr)) (hf : env.frame = some L) (X : New w g ((L, m) :: fr) h news e C c)
    (hQ : ∀ h', Fly w g ((L, m) :: fr) h' news e C c (rawInt L) → Q () (St s h' k)) : wpAny M A (noteFrame (.ref e) env) Q E (St s h k) := by
  obtain ⟨d, oe, od, vs, Cx₀, hde, hne, hX, h1⟩ := X
  unfold noteFrame
  simp only [hf]
  refine wpAny_bind (wpAny_field (s := St s h k) (Cx₀.N _ (.head _)).1 hX.data h1 ?_)
  rw [if_neg (by decide)]
  refine entryC F hf Cx₀ (fun q hq => ?_) hX.data (Array.getElem?_eq_some_iff.mp h1).1 fun h' T oT ts C₁ hT hdT h3 => hQ h' ⟨d, _, od, T, oT, _, ts, C₁, ⟨hde, Cx₀.ne hT, (Cx₀.nes hT (d, od) (.tail _ (.head _)))⟩, fun q hq => ⟨(hne q hq).1, (hne q hq).2, Cx₀.nes hT q (.tail _ (.tail _ hq))⟩, hX.tb, ?_, hdT, h3⟩
  · rcases List.mem_cons.mp hq with rfl | hq
    · exact hde
    · exact (hne q hq).1
  · simp [(Array.getElem?_eq_some_iff.mp h1).1]
theorem noteF {Q : Unit → Shared → Prop} (F : FrE A env ((L, m) :: fr)) (hf : env.frame = some L) (X : Fly w g ((L, m) :: fr) h news e C c .none)
    (hQ : ∀ h', Fly w g ((L, m) :: fr) h' news e C c (rawInt L) → Q () (St s h' k)) : wpAny M A (noteFrame (.ref e) env) Q E (St s h k) := by
  obtain ⟨d, oe, od, T₀, oT₀, vs, ts₀, Cx₀, ⟨hde, hTe, hdT⟩, hne, hX, h1, hT0, h30⟩ := X
  unfold noteFrame
  simp only [hf]
  refine wpAny_bind (wpAny_field (s := St s h k) (Cx₀.N _ (.head _)).1 hX.data h1 ?_)
  rw [if_pos (show (Value.ref T₀ != Value.none) = true from by simp)]
  refine wpAny_bind (wpAny_field (s := St s h k) (Cx₀.N _ (.tail _ (.head _))).1 hT0 h30 ?_)
  rw [if_neg (show ¬ ((Value.none == rawInt L) = true) from by simp [rawInt])]
  refine wpAny_bind (wpAny_setField (s := St s h k) (Cx₀.N _ (.tail _ (.head _))).1 hT0 (Array.getElem?_eq_some_iff.mp h30).1 ?_)
  have C₁ : Cx w g ((L, m) :: fr) h ((T₀, oT₀) :: (e, oe) :: (d, od) :: news) := Cx₀.drop fun p hp => by
    rcases List.mem_cons.mp hp with rfl | hp
    · exact .tail _ (.head _)
    · rcases List.mem_cons.mp hp with rfl | hp
      · exact .head _
      · exact .tail _ (.tail _ hp)
  have C₂ := (C₁.upd (f := Obj.mapFields (·.setIfInBounds 3 .none)) (fun q hq => by
    rcases List.mem_cons.mp hq with rfl | hq
    · exact hTe.symm
    · rcases List.mem_cons.mp hq with rfl | hq
      · exact hdT
      · exact (hne q hq).2.2) (fieldsFree hT0 _)).drop (news' := (e, oe) :: (d, od) :: news) fun p hp => .tail _ hp
  refine entryC F hf C₂ (fun q hq => ?_) hX.data (Array.getElem?_eq_some_iff.mp h1).1 fun h' T oT ts C₃ hT hdT h3 => hQ h' ⟨d, _, od, T, oT, _, ts, C₃, ⟨hde, C₂.ne hT, (C₂.nes hT (d, od) (.tail _ (.head _)))⟩, fun q hq => ⟨(hne q hq).1, (hne q hq).2.1, C₂.nes hT q (.tail _ (.tail _ hq))⟩, hX.tb, ?_, hdT, h3⟩
  · rcases List.mem_cons.mp hq with rfl | hq
    · exact hde
    · exact (hne q hq).1
  · simp [(Array.getElem?_eq_some_iff.mp h1).1]
theorem noteS {Q : Unit → Shared → Prop} (hf : env.frame = some L) (X : Fly w g fr h news e C c (rawInt L)) (hQ : Q () (St s h k)) : wpAny M A (noteFrame (.ref e) env) Q E (St s h k) := by
  obtain ⟨d, oe, od, T₀, oT₀, vs, ts₀, Cx₀, ⟨hde, hTe, hdT⟩, hne, hX, h1, hT0, h30⟩ := X
  exact wpAny_noteFrame_inFlight (s := St s h k) hf (Cx₀.N _ (.head _)).1 hX.data h1 (Cx₀.N _ (.tail _ (.head _))).1 hT0 h30 hQ
theorem flight {Q : Unit → Shared → Prop} (x : Option Addr) (X : Fly w g fr h news e C c fl) (hQ : ∀ h', Fly w g fr h' news e C c (x.elim .none fun f => rawInt f) → Q () (St s h' k)) : wpAny M A (setFlight (.ref e) x) Q E (St s h k) := by
  obtain ⟨d, oe, od, T₀, oT₀, vs, ts₀, Cx₀, ⟨hde, hTe, hdT⟩, hne, hX, h1, hT0, h30⟩ := X
  unfold setFlight
  refine wpAny_bind (wpAny_field (s := St s h k) (Cx₀.N _ (.head _)).1 hX.data h1 ?_)
  rw [if_pos (show (Value.ref T₀ != Value.none) = true from by simp)]
  refine wpAny_setField (s := St s h k) (Cx₀.N _ (.tail _ (.head _))).1 hT0 (Array.getElem?_eq_some_iff.mp h30).1 ?_
  have C₁ : Cx w g fr h ((T₀, oT₀) :: (e, oe) :: (d, od) :: news) := Cx₀.drop fun p hp => by
    rcases List.mem_cons.mp hp with rfl | hp
    · exact .tail _ (.head _)
    · rcases List.mem_cons.mp hp with rfl | hp
      · exact .head _
      · exact .tail _ (.tail _ hp)
  have C₂ := C₁.upd (f := Obj.mapFields (·.setIfInBounds 3 (x.elim .none fun f => rawInt f))) (fun q hq => by
    rcases List.mem_cons.mp hq with rfl | hq
    · exact hTe.symm
    · rcases List.mem_cons.mp hq with rfl | hq
      · exact hdT
      · exact (hne q hq).2.2) (fieldsFree hT0 _)
  refine hQ _ ⟨d, oe, od, T₀, _, vs, _, C₂.drop (fun p hp => ?_), ⟨hde, hTe, hdT⟩, hne, hX, h1, Obj.data_mapFields hT0 (·.setIfInBounds 3 (x.elim .none fun f => rawInt f)), ?_⟩
  · rcases List.mem_cons.mp hp with rfl | hp
    · exact .tail _ (.head _)
    · rcases List.mem_cons.mp hp with rfl | hp
      · exact .head _
      · exact .tail _ (.tail _ hp)
  · simp [(Array.getElem?_eq_some_iff.mp h30).1]
def Lv (w : World) (g : Heap) (fr : Fs) (h : Heap) (news : List (Addr × Obj)) (e C : Addr) (c : Int) (L : Addr) : Prop := New w g fr h news e C c ∨ Fly w g fr h news e C c .none ∨ Fly w g fr h news e C c (rawInt L)
theorem noteL {Q : Unit → Shared → Prop} (F : FrE A env ((L, m) :: fr)) (hf : env.frame = some L) (X : Lv w g ((L, m) :: fr) h news e C c L)
    (hQ : ∀ h', Fly w g ((L, m) :: fr) h' news e C c (rawInt L) → Q () (St s h' k)) : wpAny M A (noteFrame (.ref e) env) Q E (St s h k) := by
  rcases X with X | X | X
  · exact noteN F hf X hQ
  · exact noteF F hf X hQ
  · exact noteS hf X (hQ h X)
theorem leaveL {Q : Unit → Shared → Prop} (F : FrE A env ((L, m) :: fr)) (hf : env.frame = some L) (X : Lv w g ((L, m) :: fr) h news e C c L)
    (hQ : ∀ h', Fly w g ((L, m) :: fr) h' news e C c .none → Q () (St s h' k)) : wpAny M A (leaving env (.ref e)) Q E (St s h k) :=
  wpAny_bind (noteL F hf X fun h' X' => flight none X' hQ)
theorem backL {E : Value → Shared → Prop} (hf : env.frame = some L) (X : Fly w g fr h news e C c fl) (hE : ∀ h', Fly w g fr h' news e C c (rawInt L) → E (.ref e) (St s h' k)) : cameBackBy M A env E (.ref e) (St s h k) := by
  unfold cameBackBy
  have X' := X
  obtain ⟨d, oe, od, T₀, oT₀, vs, ts₀, Cx₀, ⟨hde, hTe, hdT⟩, hne, hX, h1, hT0, h30⟩ := X
  refine wpAny_bind (wpAny_field (s := St s h k) (Cx₀.N _ (.head _)).1 hX.data h1 ?_)
  rw [if_neg (by simp), hf]
  exact flight (some L) X' hE
theorem Fly.pop {fl : Value} (X : Fly w g ((L, m) :: fr) h news e C c fl) : Fly w g fr h news e C c fl := let ⟨d, oe, od, T, oT, vs, ts, C', r⟩ := X; ⟨d, oe, od, T, oT, vs, ts, C'.pop, r⟩
theorem Fly.less {g₀ : Heap} {fl : Value} (X : Fly w g fr h news e C c fl) (G : Gd w g₀) (k : g₀.StaysIn g) : Fly w g₀ fr h news e C c fl := let ⟨d, oe, od, T, oT, vs, ts, C', r⟩ := X; ⟨d, oe, od, T, oT, vs, ts, C'.less G k, r⟩
theorem subCons {α : Type} {a : α} {l l' : List α} (h : ∀ p ∈ l', p ∈ l) : ∀ p ∈ a :: l', p ∈ a :: l := fun p hp => by
  rcases List.mem_cons.mp hp with rfl | hp
  · exact .head _
  · exact .tail _ (h p hp)
theorem Fly.drop {news' : List (Addr × Obj)} {fl : Value} (X : Fly w g fr h news e C c fl) (hs : ∀ p ∈ news', p ∈ news) : Fly w g fr h news' e C c fl :=
  let ⟨d, oe, od, T, oT, vs, ts, C', a, b, r⟩ := X; ⟨d, oe, od, T, oT, vs, ts, C'.drop (subCons (subCons (subCons hs))), a, fun q hq => b q (hs q hq), r⟩
theorem New.drop {news' : List (Addr × Obj)} (X : New w g fr h news e C c) (hs : ∀ p ∈ news', p ∈ news) : New w g fr h news' e C c :=
  let ⟨d, oe, od, vs, C', a, b, r⟩ := X; ⟨d, oe, od, vs, C'.drop (subCons (subCons hs)), a, fun q hq => b q (hs q hq), r⟩
theorem Lv.drop {news' : List (Addr × Obj)} (X : Lv w g fr h news e C c L) (hs : ∀ p ∈ news', p ∈ news) : Lv w g fr h news' e C c L := X.imp (·.drop hs) (Or.imp (·.drop hs) (·.drop hs))
theorem New.less {g₀ : Heap} (X : New w g fr h news e C c) (G : Gd w g₀) (k : g₀.StaysIn g) : New w g₀ fr h news e C c := let ⟨d, oe, od, vs, C', r⟩ := X; ⟨d, oe, od, vs, C'.less G k, r⟩
theorem Lv.less {g₀ : Heap} (X : Lv w g fr h news e C c L) (G : Gd w g₀) (k : g₀.StaysIn g) : Lv w g₀ fr h news e C c L := X.imp (·.less G k) (Or.imp (·.less G k) (·.less G k))
end
end Mine

open PySem PySem.W PySem.Calls PyProof.Rows
set_option Elab.async false
set_option maxRecDepth 100000
set_option linter.unusedVariables false
namespace Mine
section
variable {κ : Bool} {prog : Program} {w : World} {A : Around} {E : Value → Shared → Prop} {s : Shared} {g h : Heap} {fr : Fs} {L e C : Addr} {m : NsM} {news : List (Addr × Obj)} {k : Nat} {env : Env} {c : Int}
theorem cgFuncE {body : List Stmt} {R : Result → Shared → Prop}
    (h : wpG κ (model prog w) (A.deeper env) (execs body env) (fun f s' => R (.ok (.ret (match f with | .ret v => v | _ => .none))) s')
      (fun e s' => wpAny (model prog w) (A.deeper env) (leaving env e) (fun _ s'' => R (.error e) s'') (fun e s'' => R (.error e) s'') s') s) : codeG κ (model prog w) A (.func body env) R s := by
  refine cgTree ?_
  show wpG _ _ (A.deeper env) (do point; match ← (execs body env).onRaise (leaving env) with | .ret v => ret v | _ => ret .none) _ _ s
  refine gBind (gOf (wpAny_point (gBind (gOnR (gMono h (fun f s' h' => ?_) fun _ _ h' => gOf h')))))
  cases f <;> exact gPure h'
theorem cgDefE {R : Result → Shared → Prop} {a : Addr} {o : Obj} {fd : FuncData} {body : List Stmt} {args : Args} {binds : List (Str × Value)}
    (hroom : A.depth < recursionLimit) (ho : s.heap.get? a = some o) (hdata : o.data = .func fd) (hlim : s.heap.NoLimit) (hcd : s.heap.CodeRec fd.code fd.qualname)
    (hbody : fd.body = .stmts body) (hbind : BindsTo s fd args binds) (hcell : ∀ x ∈ fd.scope.names, x.2 ≠ .cell) (hloc : ∀ x ∈ binds, fd.scope.names.lookup x.1 = some .local)
    (h : ∀ h₀, h₀.Ns s.heap.objs.size (fun x => binds.reverse.lookup x) → (∀ b o, s.heap.get? b = some o → h₀.get? b = some o) →
      wpG κ (model prog w) (A.deeper (callEnv fd s.heap.objs.size a)) (execs body (callEnv fd s.heap.objs.size a)) (fun f s' => R (.ok (.ret (match f with | .ret v => v | _ => .none))) s')
        (fun e s' => wpAny (model prog w) (A.deeper (callEnv fd s.heap.objs.size a)) (leaving (callEnv fd s.heap.objs.size a) e) (fun _ s'' => R (.error e) s'') (fun e s'' => R (.error e) s'') s')
        { s with heap := h₀, toks := s.toks + binds.length })
    (hco : fd.scope.isCoroutine = false) (hgen : fd.scope.isGenerator = false) (hk : fd.scope.kind = .function) :
    codeG κ (model prog w) A (.call (.ref a) args) R s := by
  refine cgTree ?_
  show wpG _ _ A.in1 (callAny (.ref a) args) _ _ s
  simp only [callAny]
  refine gBind (gOf (wpAny_load ho ?_))
  obtain ⟨c, oc, vs, tq, hc, hoc, hdc, hq⟩ := hcd
  simp only [hdata, callFunction, hco, hgen, hbody, hc]
  refine gBind (m := field (.ref c) 1) (gOf (wpAny_field hoc hdc hq ?_))
  refine gBind (gOf (wpAny_pure ?_))
  refine gBind (gOf (hbind _ _ _ _ ?_))
  refine gBind (gOf (wpAny_newFunctionEnv hcell hloc (fun h₀ hns₀ hsb₀ => ?_) hk))
  refine gBind (gOf (wpAny_enterFrame (hlim.fresh _ hsb₀) hroom ?_))
  refine gPure ⟨rfl, fun _ _ _ _ => rfl, ?_⟩
  unfold callEnv at h
  rw [hc] at h
  exact cgFuncE (R := R) (A := A) (h h₀ hns₀ fun b o e => hsb₀.extBut b o (Nat.ne_of_lt (Heap.lt_size e)) (Heap.get?_push_of_some _ e))
end
def Bx (w : World) (s : Shared) (g : Heap) (L : Addr) (fr : Fs) (news : List (Addr × Obj)) (P : Addr → Int → Prop) (v : Value) (s' : Shared) : Prop :=
  ∃ h' k' e m' C c, v = .ref e ∧ s' = St s h' k' ∧ Lv w g ((L, m') :: fr) h' news e C c L ∧ P C c
def Fx (w : World) (s : Shared) (g : Heap) (fr : Fs) (news : List (Addr × Obj)) (P : Addr → Int → Prop) (v : Value) (s' : Shared) : Prop :=
  ∃ h' k' e C c, v = .ref e ∧ s' = St s h' k' ∧ Fly w g fr h' news e C c .none ∧ P C c
section
variable {κ : Bool} {w : World} {A : Around} {E : Value → Shared → Prop} {s : Shared} {g h : Heap} {fr : Fs} {L e C fa : Addr} {m : NsM} {news news' : List (Addr × Obj)} {k : Nat} {env : Env} {c : Int} {P P' : Addr → Int → Prop} {v : Value} {s' : Shared} {body : List Stmt}
theorem Fx.bx (X : Fx w s g ((L, m) :: fr) news P v s') : Bx w s g L fr news P v s' := let ⟨h', k', e, C, c, a, b, x, p⟩ := X; ⟨h', k', e, m, C, c, a, b, .inr (.inl x), p⟩
theorem Fx.mono (X : Fx w s g fr news P v s') (hp : ∀ C c, P C c → P' C c) : Fx w s g fr news P' v s' := let ⟨h', k', e, C, c, a, b, x, p⟩ := X; ⟨h', k', e, C, c, a, b, x, hp C c p⟩
theorem Fx.drop (X : Fx w s g fr news P v s') (hs : ∀ p ∈ news', p ∈ news) : Fx w s g fr news' P v s' := let ⟨h', k', e, C, c, a, b, x, p⟩ := X; ⟨h', k', e, C, c, a, b, x.drop hs, p⟩
theorem Fx.less {g₀ : Heap} (X : Fx w s g fr news P v s') (G : Gd w g₀) (q : g₀.StaysIn g) : Fx w s g₀ fr news P v s' := let ⟨h', k', e, C, c, a, b, x, p⟩ := X; ⟨h', k', e, C, c, a, b, x.less G q, p⟩
theorem Bx.mono (X : Bx w s g L fr news P v s') (hp : ∀ C c, P C c → P' C c) : Bx w s g L fr news P' v s' := let ⟨h', k', e, m', C, c, a, b, x, p⟩ := X; ⟨h', k', e, m', C, c, a, b, x, hp C c p⟩
theorem Bx.drop (X : Bx w s g L fr news P v s') (hs : ∀ p ∈ news', p ∈ news) : Bx w s g L fr news' P v s' := let ⟨h', k', e, m', C, c, a, b, x, p⟩ := X; ⟨h', k', e, m', C, c, a, b, x.drop hs, p⟩
theorem Bx.less {g₀ : Heap} (X : Bx w s g L fr news P v s') (G : Gd w g₀) (q : g₀.StaysIn g) : Bx w s g₀ L fr news P v s' := let ⟨h', k', e, m', C, c, a, b, x, p⟩ := X; ⟨h', k', e, m', C, c, a, b, x.less G q, p⟩
theorem enterE2 (newsE : List (Addr × Obj)) {name qual : Str} {params : Arguments} {scope : Scope} {dV kV doc pm cdv ct oc : Value} {an od : Option Addr} {osl : Array (Option Value)} {args : List Value} {binds : List (Str × Value)} {Q : Value → Shared → Prop}
    (F : FrA A fr) (C : Cx w g fr h news) (hroom : A.depth < recursionLimit) (ho : (KK w.params).lookup fa = some ⟨oc, od, .func (fnOf name qual params body scope dV kV doc pm an cdv ct), osl⟩) (hcd : codeIn (KK w.params) cdv qual = true)
    (hbind : ∀ s, BindsTo s (fnOf name qual params body scope dV kV doc pm an cdv ct) ⟨args, []⟩ binds) (hok : okDef scope binds = true) (P : Addr → Int → Prop) (hE : ∀ v s', Fx w s g fr newsE P v s' → E v s')
    (hQ : ∀ L' h₁ k', Cx w g ((L', fun y => binds.reverse.lookup y) :: fr) h₁ news → FrE (A.deeper (envX qual scope L' fa cdv [])) (envX qual scope L' fa cdv []) ((L', fun y => binds.reverse.lookup y) :: fr) →
      wpG κ (model prg w) (A.deeper (envX qual scope L' fa cdv [])) (execs body (envX qual scope L' fa cdv [])) (Rt Q) (Bx w s g L' fr newsE P) (St s h₁ k')) : wpG κ (model prg w) A (call (.ref fa) args) Q E (St s h k) := by
  simp only [okDef, Bool.and_eq_true, Bool.not_eq_true', List.all_eq_true, beq_iff_eq, bne_iff_ne] at hok
  obtain ⟨hco, hgen, hk, hcell, hloc⟩ := hok
  refine gCallC (cgDefE (fd := fnOf name qual params body scope dV kV doc pm an cdv ct) (body := body) (binds := binds) hroom (C.keep _ _ (C.G.X _ _ ho)) rfl (C.G.lim.keeps C.keep) (codeRec_of (C.G.X.keeps C.keep) hcd) rfl (hbind _) hcell hloc (fun h₁ hns hk₁ => ?_) hco hgen hk)
  refine gMono (hQ _ h₁ _ (C.into hk₁ (get_size h) hns) (F.in rfl hk)) (fun f s' x => ?_) fun v s' x => ?_
  · cases f <;> exact x
  · obtain ⟨h', k', e, m', C, c, rfl, rfl, X, p⟩ := x
    exact leaveL (F.in rfl hk) rfl X fun h'' X' => hE _ _ ⟨h'', k', e, C, c, rfl, rfl, X'.pop, p⟩
theorem enterE {name qual : Str} {params : Arguments} {scope : Scope} {dV kV doc pm cdv ct oc : Value} {an od : Option Addr} {osl : Array (Option Value)} {args : List Value} {binds : List (Str × Value)} {Q : Value → Shared → Prop}
    (F : FrA A fr) (C : Cx w g fr h news) (hroom : A.depth < recursionLimit) (ho : (KK w.params).lookup fa = some ⟨oc, od, .func (fnOf name qual params body scope dV kV doc pm an cdv ct), osl⟩) (hcd : codeIn (KK w.params) cdv qual = true)
    (hbind : ∀ s, BindsTo s (fnOf name qual params body scope dV kV doc pm an cdv ct) ⟨args, []⟩ binds) (hok : okDef scope binds = true) (P : Addr → Int → Prop) (hE : ∀ v s', Fx w s g fr news P v s' → E v s')
    (hQ : ∀ L' h₁ k', Cx w g ((L', fun y => binds.reverse.lookup y) :: fr) h₁ news → FrE (A.deeper (envX qual scope L' fa cdv [])) (envX qual scope L' fa cdv []) ((L', fun y => binds.reverse.lookup y) :: fr) →
      wpG κ (model prg w) (A.deeper (envX qual scope L' fa cdv [])) (execs body (envX qual scope L' fa cdv [])) (Rt Q) (Bx w s g L' fr news P) (St s h₁ k')) : wpG κ (model prg w) A (call (.ref fa) args) Q E (St s h k) :=
  enterE2 news F C hroom ho hcd hbind hok P hE hQ
end
def rTail (v : Value) : Sem Flow := do
  let e ← holding [] (excFromValue v "exceptions must derive from BaseException")
  let e ← if ← isType v then holding [e] (raisedFor v e) else raisedInstance e
  setFlight e none
  raiseNew e
theorem xcls51 {P : Params} : typeIn (KK P) (.ref 51) = some (.type "type") ∧ subIn (KK P) (.ref 51) (.type "BaseException") = some true := ⟨by k_is, by k_is⟩
theorem xcls71 {P : Params} : typeIn (KK P) (.ref 71) = some (.type "type") ∧ subIn (KK P) (.ref 71) (.type "BaseException") = some true := ⟨by k_is, by k_is⟩
section
variable {κ : Bool} {w : World} {A : Around} {E : Value → Shared → Prop} {s : Shared} {g h : Heap} {fr : Fs} {L e C fa : Addr} {m : NsM} {news news' : List (Addr × Obj)} {k : Nat} {env : Env} {c : Int} {rest : List Stmt}
theorem gRaise {x : Expr} {pos : Pos} {Q : Flow → Shared → Prop} (h : wpG κ (model prg w) A (eval x env) (fun v s₁ => wpG κ (model prg w) A (rTail v) (fun _ _ => False) E s₁) E s) : wpG κ (model prg w) A (execs (.Raise (some x) none pos :: rest) env) Q E s := by
  refine gSt ?_
  show wpG _ _ _ (do standAt pos; raiseStmt env (some (do let v ← eval x env; standAt pos; pure v)) none) _ _ _
  refine gBind (gStand ?_)
  show wpG _ _ _ ((do let v ← eval x env; standAt pos; pure v) >>= _) _ _ _
  refine gBind (gBind (gMono h (fun v s₁ h₁ => gBind (gStand (gPure ?_))) fun _ _ z => z))
  refine gBind (gPure ?_)
  show wpG _ _ _ (rTail v) _ _ _
  exact gMono h₁ (fun _ _ f => f.elim) fun _ _ z => z
theorem raiseC {Q : Flow → Shared → Prop} (X : New w g fr h news e C c) (hC : C = 51 ∨ C = 71) (hR : wpAny (model prg w) A (raiseNew (.ref e) : Sem Flow) Q E (St s h k)) : wpAny (model prg w) A (rTail (.ref e)) Q E (St s h k) := by
  obtain ⟨d, oe, od, vs, Cx₀, hde, hne, hX, h1⟩ := X
  have he := (Cx₀.N _ (.head _)).1
  have K := Cx₀.G.X.keeps Cx₀.keep
  obtain ⟨k1, k2⟩ : typeIn (KK w.params) (.ref C) = some (.type "type") ∧ subIn (KK w.params) (.ref C) (.type "BaseException") = some true := by
    rcases hC with rfl | rfl
    · exact xcls51
    · exact xcls71
  have t1 : Looks (model prg w) h (typeOf (.ref e)) (.ref C) := hX.cls ▸ (Looks.ld he).andThen .now
  have t2 : Looks (model prg w) h (isType (.ref e)) false := (Looks.ld he).andThen (Looks.of_pure (by rw [hX.data]))
  unfold rTail excFromValue isExcClass
  refine wpAny_bind (wpAny_holding (wpAny_bind (wpAny_bind (t2.at ?_))))
  rw [if_neg (by decide)]
  refine wpAny_pure ?_
  rw [if_neg (by decide)]
  refine wpAny_bind (wpAny_bind (t1.at ((looks_subIn K k2).at ?_)))
  rw [if_pos rfl]
  refine wpAny_pure (wpAny_bind (t2.at ?_))
  rw [if_neg (by decide)]
  refine wpAny_bind ?_
  unfold raisedInstance
  refine wpAny_bind (t1.at (wpAny_bind ((looks_typeIn K k1).at ?_)))
  rw [if_pos (by decide)]
  refine wpAny_pure ?_
  refine wpAny_bind ?_
  unfold setFlight
  refine wpAny_bind (wpAny_field (s := St s h k) he hX.data h1 ?_)
  rw [if_neg (by decide)]
  exact wpAny_pure hR
theorem raise0 {Q : Flow → Shared → Prop} (hh : A.handled = none) (X : New w g fr h news e C c) (hC : C = 51 ∨ C = 71) (hE : E (.ref e) (St s h k)) : wpAny (model prg w) A (rTail (.ref e)) Q E (St s h k) :=
  raiseC X hC (wpAny_raiseNew_none hh hE)
theorem unchainE : entryFor table "proto.unchain" = some Builtin.«proto.unchain» := entryFor_of_tree (by kernel_rfl)
theorem raise1 {Q : Flow → Shared → Prop} {e₀ : Addr} {oe₀ : Obj} {vs₀ : Array Value} (hh : A.handled = some (.ref e₀)) (X : New w g fr h ((e₀, oe₀) :: news) e 51 c) (hd₀ : oe₀.data = .fields vs₀) (h0 : vs₀[2]? = some .none)
    (hE : ∀ h' k', New w g fr h' news e 51 c → E (.ref e) (St s h' k')) : wpAny (model prg w) A (rTail (.ref e)) Q E (St s h k) := by
  refine raiseC X (.inl rfl) ?_
  obtain ⟨d, oe, od, vs, Cx₀, hde, hne, hX, h1⟩ := X
  unfold raiseNew
  refine wpAny_bind (wpAny_handled ?_)
  rw [hh]
  have hee : (Value.ref e₀ != Value.ref e) = true := by
    have := (hne _ (.head _)).1
    simp only [bne_iff_ne, ne_eq, Value.ref.injEq]
    exact this
  show wpAny _ _ (if (Value.ref e₀ != Value.ref e) = true then _ else _) _ _ _
  rw [if_pos hee]
  refine wpAny_bind (wpAny_holding (wpAny_runValue (codeAny_builtin unchainE ?_)))
  unfold Builtin.«proto.unchain»
  refine wpAny_bind (wpAny_field (s := St s h k) (Cx₀.N _ (.tail _ (.tail _ (.head _)))).1 hd₀ h0 ?_)
  refine wpAny_pure ?_
  refine wpAny_bind (wpAny_setField (i := 2) (s := St s h k) (Cx₀.N _ (.head _)).1 hX.data hX.size ?_)
  refine wpAny_throw (hE _ _ ⟨d, _, od, vs.setIfInBounds 2 (.ref e₀), (Cx₀.upd (f := Obj.mapFields (·.setIfInBounds 2 (.ref e₀))) (fun q hq => ?_) (fieldsFree hX.data _)).drop (subCons (subCons fun p hp => .tail _ hp)), hde, fun q hq => hne q (.tail _ hq), ?_, ?_⟩)
  · rcases List.mem_cons.mp hq with rfl | hq
    · exact hde
    · exact (hne q hq).1
  · exact ⟨(Obj.cls_mapFields ..).trans hX.cls, (by obtain ⟨_, _, dt, _⟩ := oe; have := hX.data; simp only at this; subst this; exact hX.dict), Obj.data_mapFields hX.data _, hX.code, (fun q => absurd q (by decide)), by rw [Array.size_setIfInBounds]; exact hX.size⟩
  · rw [Array.getElem?_setIfInBounds_ne (by decide)]; exact h1
end
end Mine

open PySem PySem.W PySem.Calls PyProof.Rows
set_option Elab.async false
set_option maxRecDepth 100000
set_option linter.unusedVariables false
namespace Mine
def XC (Cl : Addr) : Prop := Cl = 51 ∨ Cl = 71
section
variable {κ : Bool} {w : World} {A : Around} {E : Value → Shared → Prop} {s : Shared} {g h : Heap} {fr : Fs} {L e C fa Cl : Addr} {m : NsM} {news news' : List (Addr × Obj)} {k : Nat} {env : Env} {c : Int} {rest : List Stmt} {P P₂ : Addr → Int → Prop}
theorem Fly.at {fl : Value} (X : Fly w g fr h news e C c fl) : ∃ oe, h.get? e = some oe ∧ oe.cls = .ref C ∧ (KK w.params).In h := let ⟨d, oe, od, T, oT, vs, ts, C', _, _, X, _⟩ := X; ⟨oe, (C'.N _ (.head _)).1, X.cls, C'.gd.X⟩
theorem Fly.cx {fl : Value} (X : Fly w g fr h news e C c fl) : Cx w g fr h news := let ⟨d, oe, od, T, oT, vs, ts, C', _⟩ := X; C'.drop fun p hp => .tail _ (.tail _ (.tail _ hp))
theorem excHit {M : Model} {Q : Bool → Shared → Prop} {fl : Value} (X : Fly w g fr h news e C c fl) (hC : XC C) (hQ : Q true (St s h k)) : wpAny M A (excMatches (.ref e) (.ref C)) Q E (St s h k) := by
  obtain ⟨oe, he, hc, K⟩ := X.at
  rcases hC with rfl | rfl
  · exact wpAny_excMatches_sub_self (K 51 _ (by k_is)) he hc (by decide +kernel) hQ
  · exact wpAny_excMatches_sub_self (K 71 _ (by k_is)) he hc (by decide +kernel) hQ
theorem excMiss {M : Model} {Q : Bool → Shared → Prop} {fl : Value} (X : Fly w g fr h news e C c fl) (hC : C = 51) (hQ : Q false (St s h k)) : wpAny M A (excMatches (.ref e) (.ref 71)) Q E (St s h k) := by
  obtain ⟨oe, he, hc, K⟩ := X.at
  subst hC
  have t1 : Looks M h (typeOf (.ref e)) (.ref 51) := hc ▸ (Looks.ld he).andThen .now
  have k1 : typeIn (KK w.params) (.ref 71) = some (.type "type") ∧ subIn (KK w.params) (.ref 71) (.type "BaseException") = some true := xcls71
  have k2 : subIn (KK w.params) (.ref 51) (.ref 71) = some false := by k_is
  have k3 : instIn (KK w.params) (.ref 71) (.type "tuple") = some false := by k_is
  have t2 : Looks M h (isType (.ref 71)) true := (Looks.ld (K 71 _ (by k_is))).andThen .now
  have t3 : Looks M h (isExcClass (.ref 71)) true := t2.andThen (looks_subIn K k1.2)
  unfold excMatches
  refine wpAny_bind ((looks_instIn K k3).at ?_)
  rw [if_neg (by decide)]
  refine wpAny_bind (wpAny_pure ?_)
  show wpAny _ _ (forIn [Value.ref 71] _ _ >>= _) _ _ _
  simp only [List.forIn_cons, List.forIn_nil]
  refine wpAny_bind (wpAny_bind (wpAny_bind (t3.at ?_)))
  show wpAny _ _ (pure _) _ _ _
  refine wpAny_pure (wpAny_pure (wpAny_bind (t1.at ?_)))
  refine wpAny_bind (wpAny_bind (wpAny_bind ((looks_subIn K k2).at ?_)))
  exact wpAny_pure (wpAny_pure (wpAny_pure hQ))
theorem gTry {body suite : List Stmt} {b₀ : Stmt} {x : Str} {np hpos pos : Pos} {Q : Flow → Shared → Prop} (F : FrE A env ((L, m) :: fr)) (hf : env.frame = some L) (hC : XC Cl)
    (hx : ∀ A' h' m', Cx w g ((L, m') :: fr) h' news → PEv w A' env s h' (.Name x np) fun _ => .ref Cl)
    (hb : wpG false (model prg w) A (execs body env) (Sq κ (model prg w) A env rest Q E) (Bx w s g L fr news P) (St s h k)) (hP : ∀ C c, P C c → C = Cl)
    (hh : ∀ h' k' e c m', Fly w g ((L, m') :: fr) h' news e Cl c .none → P Cl c → wpG false (model prg w) (A.mark (some (.ref e))) (execs (b₀ :: suite) env) (Sq κ (model prg w) A env rest Q E) (Bx w s g L fr news P₂) (St s h' k'))
    (hE : ∀ v s', Bx w s g L fr news P₂ v s' → E v s') : wpG κ (model prg w) A (execs (.Try body [.ExceptHandler (some (.Name x np)) none (b₀ :: suite) hpos] [] [] pos :: rest) env) Q E (St s h k) := by
  refine gSt (gOf ?_)
  show wpAny _ _ (do standAt pos; tryStmt false (execs body env) [.ExceptHandler (some (.Name x np)) none (b₀ :: suite) hpos] (execs [] env) [] env) _ _ _
  refine wpAny_bind (wpAny_standAt (wpAny_tryStmt_except (wpAny_mono (gAny hb) (fun f s₁ y => ?_) fun v s₁ y => ?_)))
  · cases f with
    | next => exact wpAny_execs_nil y
    | _ => exact y
  · obtain ⟨h₁, k₁, e, m₁, C, c, rfl, rfl, X, p⟩ := y
    have hCl := hP C c p
    subst hCl
    refine noteL F.up hf X fun h₂ X₂ => flight none X₂ fun h₃ X₃ => ?_
    refine wpAny_handleBy_cons ?_ (by intro z; cases z)
    refine codeAny_handlers_test (hx _ _ _ X₃.cx _ _ _ fun _ k₃ => excHit X₃ hC ?_)
    refine codeAny_handlers_suite (flight none X₃ fun h₄ X₄ => ?_)
    refine wpAny_mono (gAny (hh h₄ k₃ e c m₁ X₄ p)) (fun f s₂ y => y) fun v s₂ y => ?_
    obtain ⟨h₅, k₅, e₂, m₂, C₂, c₂, rfl, rfl, X₅, p₅⟩ := y
    exact noteL (A := A.mark _) F.up hf X₅ fun h₆ X₆ => backL hf X₆ fun h₇ X₇ => hE _ _ ⟨h₇, k₅, e₂, m₂, C₂, c₂, rfl, rfl, .inr (.inr X₇), p₅⟩
end
end Mine

open PySem PySem.W PySem.Calls PyProof.Rows
set_option Elab.async false
set_option maxRecDepth 100000
set_option linter.unusedVariables false
namespace Mine
def nsOfO (o : Obj) : NsM := match o.data with | .dict es _ => nsFind es | _ => fun _ => none
def keysOk (o : Obj) : Bool := match o.data with | .dict es _ => es.toList.all (fun e => match e.key with | .str _ _ => true | _ => false) | _ => false
theorem ns_of {h : Heap} {a : Addr} {o : Obj} (ho : h.get? a = some o) (hk : keysOk o = true) : h.Ns a (nsOfO o) := by
  unfold keysOk at hk
  unfold nsOfO
  split at hk
  · rename_i es n hd
    refine ⟨o, es, n, ho, hd, fun e he => ?_, fun _ => rfl⟩
    have := List.all_eq_true.mp hk e (Array.mem_toList_iff.mpr he)
    split at this
    · rename_i x t q; exact ⟨x, t, q⟩
    · cases this
  · cases hk
section
variable {prog : Program} {w : World} {A : Around} {E : Value → Shared → Prop} {h : Heap} {g : Array GenState} {d : Drawn} {t : Nat} {os : OsState}
variable {nm q : Str} {C N x : Addr} {bs bm : List Value} {sn : List Str} {sub : List Value} {ab : Bool} {col : Option Bool} {dd : Option Addr} {k0 k1 k2 k3 k5 : Option Value} {B newId sa owner : String}
  {mN : Str → Option Value} {name : Str} {v : Value} {o : Obj}
open Builtin Builtin.ObjectAttr
theorem store1_entry {tk : Tok} {Q : Fin → Shared → Prop} (SF : StoreFacts B bm sa owner)
    (hC : h.get? C = some (excClassObj nm q C N bs bm true sn sub ab col dd k0 k1 k2 k3 k5 newId)) (hn : h.Ns N mN) (hna : mN name = none)
    (hB : typeLookup (.type B) name = pure none) (hx : h.get? x = some o) (hc : o.cls = .ref C) (hnc : ∀ c, o.data ≠ .cls c) (hdn : o.dict = none)
    (hq : ∀ h' tk' dx, h.get? dx = none → (∀ b ob, b ≠ x → h.get? b = some ob → h'.get? b = some ob) → h'.get? x = some { o with dict := some dx } → h'.Ns1 dx (fun y => if y = name then some v else none) → Q (.done (.ret .none)) ⟨h', g, d, tk', os⟩) :
    wpAny (model prog w) A (Builtin.«object.__setattr__» ⟨[.ref x, .str name tk, v], []⟩) Q E ⟨h, g, d, t, os⟩ := by
  have hpass := SF.passes (.ref x)
  unfold Builtin.«object.__setattr__»
  repeat (first | rw [refuse_eq] | (rw [refuseLoop_ref, hpass]) | (with_reducible refine wpAny_loadPart_at hx ?_; rw [hc]) | with_reducible refine wpAny_mroOf_exc hC ?_ | (with_reducible refine wpAny_typeLookup_exc hC hn SF.mro hB ?_; rw [hna]) | wp_step)
  rw [hdn, if_neg (by simp [typeHasDict])]
  split
  · rename_i hcd
    cases hcd
  split
  · rename_i c hcd
    exact absurd hcd (hnc c)
  · have hx₁ : (h.push { cls := .type "dict", data := .dict #[] }).get? x = some o := Heap.get?_push_of_some _ hx
    have hxs : x ≠ h.objs.size := Nat.ne_of_lt (Heap.lt_size hx)
    refine wpAny_bind (wpAny_alloc' ?_)
    refine wpAny_bind (wpAny_update' hx₁ ?_)
    refine wpAny_pure ?_
    have hgd : ((h.push { cls := .type "dict", data := .dict #[] }).update x fun o => { cls := o.cls, dict := some h.objs.size, data := o.data, slots := o.slots }).get? h.objs.size
        = some { cls := .type "dict", data := .dict #[] } :=
      (Heap.get?_update_ne _ _ _ _ hxs.symm).trans (Heap.get?_push_at rfl rfl)
    have hnd : ((h.push { cls := .type "dict", data := .dict #[] }).update x fun o => { cls := o.cls, dict := some h.objs.size, data := o.data, slots := o.slots }).Ns h.objs.size (fun _ => none) :=
      ⟨_, #[], _, hgd, rfl, fun e he => absurd he (by simp), fun _ => rfl⟩
    show wpAny _ _ (storeInDict h.objs.size (.str name tk) name v) _ _ _
    unfold storeInDict newKeyGuard
    refine wpAny_bind (wpAny_pure (wpAny_bind (wpAny_nsSet1 (Heap.Ns1.of_empty hnd) fun h' hn' hs => ?_)))
    obtain ⟨oD, esD, epD, hoD, hdD, hcD⟩ := hn'.count (Within.cons name v Within.nil)
    refine wpAny_bind (wpAny_lookBehind hoD (by rw [hdD]; exact pastItsLine_dict (Nat.le_trans hcD (by rw [List.length_cons, List.length_nil, sizeLine_eq]; omega))) ?_)
    wp_walk
    have hx' : h'.get? x = some { cls := o.cls, dict := some h.objs.size, data := o.data, slots := o.slots } := ?_
    refine hq h' _ h.objs.size (get_size h) (fun b ob hbx hb => ?_) hx' hn'
    · exact (hs.2 b (Nat.ne_of_lt (Heap.lt_size hb))).trans ((Heap.get?_update_ne _ _ _ _ hbx).trans (Heap.get?_push_of_some _ hb))
    · refine (hs.2 x hxs).trans (Heap.get?_update_self _ hx₁ ?_)
      have hfr := (Heap.get?_some_iff.mp hx).2
      obtain ⟨oc, od, odt, osl⟩ := o
      cases odt <;> first | rfl | exact hfr
theorem store1 {Q : Unit → Shared → Prop} (SF : StoreFacts B bm sa owner)
    (hC : h.get? C = some (excClassObj nm q C N bs bm true sn sub ab col dd k0 k1 k2 k3 k5 newId)) (hn : h.Ns N mN) (hns : mN "__setattr__" = none) (hna : mN name = none)
    (hB : typeLookup (.type B) name = pure none) (hx : h.get? x = some o) (hc : o.cls = .ref C) (hnc : ∀ c, o.data ≠ .cls c) (hdn : o.dict = none)
    (hq : ∀ h' tk' dx, h.get? dx = none → (∀ b ob, b ≠ x → h.get? b = some ob → h'.get? b = some ob) → h'.get? x = some { o with dict := some dx } → h'.Ns1 dx (fun y => if y = name then some v else none) → Q () ⟨h', g, d, tk', os⟩) :
    wpAny (model prog w) A (setAttr (.ref x) name v) Q E ⟨h, g, d, t, os⟩ := by
  have f3 := SF.slot.bind (.ref x)
  unfold setAttr callSpecial? specialOf
  repeat (any_goals (first | assumption | (with_reducible refine wpAny_loadPart_at hx ?_; rw [hc]) | (with_reducible refine wpAny_typeLookup_exc hC hn SF.mro SF.slot.lookup ?_; rw [hns]) | wp_step))
  refine codeAny_call_builtin SF.slot.plain SF.entry (wpAny_check_sa SF hC hx hc (store1_entry SF hC hn hna hB hx hc hnc hdn fun h' tk' dx h1 h2 h3 h4 => ?_))
  repeat (any_goals (first | assumption | wp_step))
  exact hq h' tk' dx h1 h2 h3 h4
end
section
variable {κ : Bool} {w : World} {A : Around} {E : Value → Shared → Prop} {s : Shared} {g h : Heap} {fr : Fs} {L e C fa Cl : Addr} {m : NsM} {news news' : List (Addr × Obj)} {k : Nat} {env : Env} {c : Int} {rest : List Stmt} {pos px apos : Pos} {o value : Expr} {name : Str}
theorem methT {T : String} {v : Value} {pl : Sem Bool} {Q : Value × List Value → Shared → Prop} (X : (KK w.params).In h) (ht : typeOf (.type T) = pure (.type "type")) (hs : Manifest.isStub T = false)
    (e : findCls (KK w.params) (.type T) (.type "type") name = some (.val v)) (hh : handedIn v = true) (hQ : ∀ k', Q (v, []) (St s h k')) : wpAny (model prg w) A (getMethod (.type T) name pl) Q E (St s h k) := by
  have hstub : opaqueClassAbove (.type T) = pure none := by unfold opaqueClassAbove; dsimp only; rw [hs]; rfl
  have L0 : Looks (model prg w) h (typeOf (.type T)) (.type "type") := Looks.of_pure ht
  have hg : findIn (KK w.params) (.type "type") "__getattribute__" = some (some (.builtin "type.__getattribute__")) := type_tga
  unfold getMethod specialOf
  refine wpAny_bind (wpAny_bind (L0.at ((looks_findIn X hg).at ?_)))
  dsimp only
  rw [if_pos canon_tga]
  refine wpAny_bind (wpAny_mono (Q := fun v => Q (v, [])) (E := E) ?_ (fun _ _ z => wpAny_pure z) fun _ _ z => z)
  have LO : Looks (model prg w) h (opaqueClassAbove (.type T)) none := Looks.of_pure hstub
  exact cls_open (s := St s h k) X LO L0 hg (looks_hook X (r := none) (by rfl)) (by show subIn (KK w.params) _ _ = _; rfl) e
    (wpAny_pure (by show wpAny _ _ (handedOut v) _ _ _; rw [handedOut_of hh]; exact wpAny_pure (hQ _)))
theorem excInit0 {t₀ : Addr} {x : Str} {t : Tok} {Q : Value → Shared → Prop} (hC : XC C) (Cx₀ : Cx w g fr h ((e, { cls := .ref C, data := .fields #[.ref t₀, .none, .none, .none, .bool false, .none] }) :: news)) (hne : ∀ q ∈ news, q.1 ≠ e)
    (hQ : ∀ h' t₁, Cx w g fr h' ((e, { cls := .ref C, data := .fields #[.ref t₁, .none, .none, .none, .bool false, .none] }) :: news) → Q .none (St s h' k)) :
    wpAny (model prg w) A (call (.builtin "Exception.__init__") [.ref e, .str x t]) Q E (St s h k) := by
  have he := (Cx₀.N _ (.head _)).1
  have X := Cx₀.gd.X
  have FB := F.excBase_Exception
  have go : ∀ (hK : ∃ nm q N bs hdct sn sub ab col dd k0 k1 k2 k3 k5, h.get? C = some (excClassObj nm q C N bs [.type "Exception", .type "BaseException", .type "object"] hdct sn sub ab col dd k0 k1 k2 k3 k5 "Exception.__new__")), wpAny (model prg w) A (call (.builtin "Exception.__init__") [.ref e, .str x t]) Q E (St s h k) := by
    rintro ⟨nm, q, N, bs, hdct, sn, sub, ab, col, dd, k0, k1, k2, k3, k5, hK⟩
    refine wpAny_call (codeAny_call_builtin FB.init.plain FB.initEntry (wpAny_check_init_sub FB hK he rfl ?_))
    unfold Builtin.«BaseException.__init__» Builtin.BaseException.bexcPut
    wp_walk
    have C₁ := (Cx₀.push { cls := .type "tuple", data := .seq [Value.str x t].toArray }).drop (news' := (e, _) :: news) fun p hp => .tail _ hp
    exact hQ _ h.objs.size (C₁.upd (f := Obj.mapFields (·.setIfInBounds 0 (.ref h.objs.size))) hne rfl)
  rcases hC with rfl | rfl
  · exact go ⟨_, _, _, _, _, _, _, _, _, _, _, _, _, _, _, X 51 _ (by k_is)⟩
  · exact go ⟨_, _, _, _, _, _, _, _, _, _, _, _, _, _, _, X 71 _ (by k_is)⟩
theorem gExpr {e : Expr} {Q : Flow → Shared → Prop} (h : wpG κ (model prg w) A (eval e env) (fun _ s₁ => wpG κ (model prg w) A (execs rest env) Q E s₁) E s) (hi : interactive env = false := by rfl) (hs : swapsWith e none pos.line env = pure false := by rfl) :
    wpG κ (model prg w) A (execs (.Expr e pos :: rest) env) Q E s := by
  refine gSt ?_
  rw [exec_Expr env e pos hi hs]
  exact gBind (gStand (gBind (gMono h (fun v s' y => gOf (wpAny_dropValue y)) fun _ _ z => z)))
theorem gMeth {args : List Expr} {Q : Value → Shared → Prop}
    (h : wpG κ (model prg w) A (eval o env) (fun ov s₁ => wpAny (model prg w) A (getMethod ov name (do return (← importBound o env).getD true)) (fun fx s₂ => wpG κ (model prg w) A (callWith pos fx.1 fx.2 (backTo pos (starEach args env)) []) Q E s₂) E s₁) E s)
    (he : eval (.Call (.Attribute o name apos) args [] pos) env = (do
      let ov ← eval o env
      standAt apos.atName
      let (f, first) ← holding [ov] (getMethod ov name (do return (← importBound o env).getD true))
      callWith pos f first (backTo pos (starEach args env)) []) := by rfl) : wpG κ (model prg w) A (eval (.Call (.Attribute o name apos) args [] pos) env) Q E s := by
  rw [he]
  exact gBind (gMono h (fun ov s₁ h₁ => gBind (gStand (gBind (gHolding (gOf (wpAny_mono h₁ (fun fx s₂ h₂ => h₂) fun _ _ x => x)))))) fun _ _ x => x)
theorem gAsgA {Q : Flow → Shared → Prop} (h : wpG κ (model prg w) A (eval value env) (fun v s₁ => wpG κ (model prg w) A (eval o env) (fun ov s₂ => wpAny (model prg w) A (setAttr ov name v) (fun _ s₃ => wpG κ (model prg w) A (execs rest env) Q E s₃) E s₂) E s₁) E s)
    (hs : swapsWith value (some (.Attribute o name apos)) pos.line env = pure false := by rfl) : wpG κ (model prg w) A (execs (.Assign [.Attribute o name apos] value pos :: rest) env) Q E s := by
  refine gSt ?_
  rw [plainObj_exec_Assign_Attribute o name apos value pos hs]
  refine gBind (gStand (gBind (gMono h (fun v s₁ y => gBind ?_) fun _ _ x => x)))
  rw [arm_assign_Attribute]
  exact gBind (gHolding (gMono y (fun ov s₂ z => gBind (gStand (gBind (gHolding (gOf (wpAny_mono z (fun _ s₃ q => gOf (wpAny_release (gPure q))) fun _ _ x => x)))))) fun _ _ x => x))
end
section
variable {κ : Bool} {w : World} {A : Around} {E : Value → Shared → Prop} {s : Shared} {g h : Heap} {fr : Fs} {x C N d : Addr} {m mN : NsM} {news news' : List (Addr × Obj)} {k : Nat} {name : Str} {v : Value} {ox od : Obj}
variable {nm q : Str} {bs bm : List Value} {sn : List Str} {sub : List Value} {ab : Bool} {col : Option Bool} {dd : Option Addr} {k0 k1 k2 k3 k5 : Option Value} {B newId sa owner : String}
theorem store2 {Q : Unit → Shared → Prop} {ns : List Str} (SF : StoreFacts B bm sa owner)
    (hC : h.get? C = some (excClassObj nm q C N bs bm true sn sub ab col dd k0 k1 k2 k3 k5 newId)) (hn : h.Ns N mN) (hns : mN "__setattr__" = none) (hna : mN name = none)
    (hB : typeLookup (.type B) name = pure none) (C₀ : Cx w g fr h ((x, ox) :: (d, od) :: news)) (hxC : x ≠ C) (hdx : d ≠ x) (hne : ∀ q ∈ news, q.1 ≠ x ∧ q.1 ≠ d) (hc : ox.cls = .ref C) (hnc : ∀ c, ox.data ≠ .cls c) (hd : ox.dict = some d) (hm : NsO od m)
    (hQ : ∀ h' k' ox' od', Cx w g fr h' ((x, ox') :: (d, od') :: news) → ox'.cls = ox.cls → ox'.data = ox.data → ox'.dict = some d → NsO od' (up m name v) → Q () (St s h' k')) (hw : Within m ns := by within_ways) (hsz : ns.length ≤ sizeLine := by size_fits) :
    wpAny (model prg w) A (setAttr (.ref x) name v) Q E (St s h k) := by
  have hx := (C₀.N _ (.head _)).1
  have hod := (C₀.N _ (.tail _ (.head _))).1
  refine store_attr SF hC hn hns hna hB hxC ⟨ox, hx, hc, hnc, .inr ⟨d, hd, hdx, let ⟨es, ep, r⟩ := hm; ⟨od, es, ep, hod, r⟩⟩⟩ (fun h' tk' I hk hs => ?_) hw hsz
  obtain ⟨ox', hx', e1, e2, e3, e4⟩ := hs ox hx
  obtain ⟨o₂, hx₂, _, _, hd₂⟩ := I
  obtain rfl : ox' = o₂ := Option.some.inj (hx'.symm.trans hx₂)
  have e5 := e4 d hd
  rcases hd₂ with ⟨z, _⟩ | ⟨d₂, z, _, n₂⟩
  · rw [e5] at z; cases z
  obtain rfl : d = d₂ := Option.some.inj (e5.symm.trans z)
  obtain ⟨od', es, ep, hod', r⟩ := n₂
  have keep : ∀ b ob, b ≠ x → b ≠ d → h.get? b = some ob → h'.get? b = some ob := fun b ob h1 h2 => hk b ob h1 fun o₀ dx p q => by
    obtain rfl : ox = o₀ := Option.some.inj (hx.symm.trans p)
    obtain rfl : d = dx := Option.some.inj (hd.symm.trans q)
    exact h2
  refine hQ h' tk' ox' od' ⟨C₀.G, fun b o e => keep b o (fun q => ?_) (fun q => ?_) (C₀.keep b o e), C₀.P, fun p hp => ⟨?_, (C₀.F p hp).2⟩, fun p hp => ?_⟩ e1 e2 e5 ⟨es, ep, r⟩
  · rw [q, (C₀.N _ (.head _)).2.1] at e; cases e
  · rw [q, (C₀.N _ (.tail _ (.head _))).2.1] at e; cases e
  · obtain ⟨o, es, ep, e, r⟩ := (C₀.F p hp).1
    exact ⟨o, es, ep, keep _ _ (fun q => (C₀.N _ (.head _)).2.2 p hp q.symm) (fun q => (C₀.N _ (.tail _ (.head _))).2.2 p hp q.symm) e, r⟩
  · rcases List.mem_cons.mp hp with rfl | hp
    · exact ⟨hx', (C₀.N _ (.head _)).2⟩
    · rcases List.mem_cons.mp hp with rfl | hp
      · exact ⟨hod', (C₀.N _ (.tail _ (.head _))).2⟩
      · have z := C₀.N p (.tail _ (.tail _ hp))
        exact ⟨keep _ _ (hne p hp).1 (hne p hp).2 z.1, z.2⟩
theorem store1C {Q : Unit → Shared → Prop} (SF : StoreFacts B bm sa owner)
    (hC : h.get? C = some (excClassObj nm q C N bs bm true sn sub ab col dd k0 k1 k2 k3 k5 newId)) (hn : h.Ns N mN) (hns : mN "__setattr__" = none) (hna : mN name = none)
    (hB : typeLookup (.type B) name = pure none) (C₀ : Cx w g fr h ((x, ox) :: news)) (hne : ∀ q ∈ news, q.1 ≠ x) (hc : ox.cls = .ref C) (hnc : ∀ c, ox.data ≠ .cls c) (hd : ox.dict = none)
    (hQ : ∀ h' k' d od, Cx w g fr h' ((x, { ox with dict := some d }) :: (d, od) :: news) → d ≠ x → (∀ q ∈ news, q.1 ≠ d) → NsO od (fun y => if y = name then some v else none) → Q () (St s h' k')) :
    wpAny (model prg w) A (setAttr (.ref x) name v) Q E (St s h k) := by
  have hx := (C₀.N _ (.head _)).1
  refine store1 SF hC hn hns hna hB hx hc hnc hd fun h' tk' d hdn hk hx' hn' => ?_
  obtain ⟨od, es, ep, hod, r⟩ := hn'
  have C₁ := C₀.but (UpdF.head hne) (fun b o q e => hk b o q e) hx'
  refine hQ h' tk' d od ?_ (C₀.ne hdn) (C₀.nes hdn · <| .tail _ ·) ⟨es, ep, r⟩
  refine ⟨C₁.G, C₁.keep, C₁.P, C₁.F, fun p hp => ?_⟩
  rcases List.mem_cons.mp hp with rfl | hp
  · exact C₁.N _ (.head _)
  · rcases List.mem_cons.mp hp with rfl | hp
    · exact ⟨hod, C₀.no hdn, C₀.noFr hdn⟩
    · exact C₁.N _ (.tail _ hp)
end
end Mine

open PySem PySem.W PySem.Calls PyProof.Rows
set_option Elab.async false
set_option maxRecDepth 100000
set_option maxHeartbeats 1000000
set_option linter.unusedVariables false
namespace Mine
local macro_rules | `(tactic| walk_at "M enter") => `(tactic| ((case k1 => k_is); (case k2 => k_is); (case k3 => exact fun _ => .of_eq rfl); (case k4 => rfl)))
theorem missE_code : typeLookup (.type "Exception") "code" = pure none := by rw [typeLookup_type, builtinLookup_eq_fast]; kernel_rfl
theorem missE_text : typeLookup (.type "Exception") "text" = pure none := by rw [typeLookup_type, builtinLookup_eq_fast]; kernel_rfl
theorem exc_type : typeOf (.type "Exception") = pure (.type "type") := by kernel_rfl
theorem exc_init : ∀ P, findCls (KK P) (.type "Exception") (.type "type") "__init__" = some (.val (.builtin "Exception.__init__")) := fun P => by k_is
noncomputable def nsH3 (P : Params) : NsM := nsOfO (dcO P dH30 3)
noncomputable def nsSh (P : Params) : NsM := nsOfO (dcO P dSh0 3)
theorem nsH3_is {P : Params} {h : Heap} (X : (KK P).In h) : h.Ns 50 (nsH3 P) := ns_of (X 50 _ (by k_is)) (by kernel_rfl)
theorem nsSh_is {P : Params} {h : Heap} (X : (KK P).In h) : h.Ns 70 (nsSh P) := ns_of (X 70 _ (by k_is)) (by kernel_rfl)
section
variable {κ : Bool} {w : World} {A : Around} {E : Value → Shared → Prop} {s : Shared} {g h : Heap} {fr : Fs} {L e C fa Cl : Addr} {m : NsM} {news news' : List (Addr × Obj)} {k : Nat} {env : Env} {rest : List Stmt} {pos px apos : Pos} {o value : Expr} {name : Str}
theorem short_x {x : Str} {tx : Tok} {Q : Value → Shared → Prop} (hr : A.depth + 3 < recursionLimit) (C₀ : Cx w g fr h news) 
    (ret : ∀ h' k' e, New w g fr h' news e 71 0 → Q (.ref e) (St s h' k')) : wpG κ (model prg w) A (call (.ref 71) [.str x tx]) Q E (St s h k) := by
  have X₀ := C₀.gd.X
  refine gOf (wpAny_call_exc_init F.excBase_Exception (X₀ 71 _ (by k_is)) (nsSh_is X₀) (by kernel_rfl) (X₀ 68 _ (by k_is)) rfl fun h₁ e hm => gAny ?_)
  obtain ⟨t₀, he, ht, _⟩ := hm.there
  have C₁ := C₀.add hm.keeps he hm.new
  have hne := C₀.nes hm.new
  refine' enterG (binds := [("self", .ref e), ("text", .str x tx)]) C₁ ?hr ?k1 ?k2 ?k3 ?k4 fun L h₂ k₂ C₂ => ?_
  case hr => show A.depth + 1 < _; omega
  walk_at "M enter"
  refine gExpr (gMeth (gP (nmB (v := .type "Exception") C₂ (by rfl) (by k_is) (by rfl) (by decide)) fun _ k₃ => methT (T := "Exception") (v := .builtin "Exception.__init__") C₂.gd.X exc_type (by decide +kernel) (exc_init _) rfl fun k₄ => gCall (gP (nmL C₂) fun _ k₅ => gP (nmL C₂) fun t₁ k₆ => ⟨kpB, gOf (excInit0 (.inr rfl) C₂ hne fun h₃ t₃ C₃ => ?_)⟩) (by rfl)) (by rfl))
  refine gAsgA (gP (nmL C₃) fun t₄ k₇ => gP (nmL C₃) fun _ k₈ => store1C F.store_Exception (C₃.gd.X 71 _ (by k_is)) (nsSh_is C₃.gd.X) (by kernel_rfl) (by kernel_rfl) missE_text C₃ hne rfl (by intro c q; cases q) rfl fun h₄ k₉ d od C₄ hde hnd hod => gNil ⟨rfl, ret _ _ e ⟨d, _, od, _, C₄.pop, hde, fun q hq => ⟨hne q hq, hnd q hq⟩, ⟨rfl, rfl, rfl, ⟨_, hod, fun q => absurd q (by decide)⟩, fun _ => rfl, (by decide : 2 < 6)⟩, rfl⟩⟩)
theorem h3_x {c : Nat} {x : Str} {tc tx : Tok} {Q : Value → Shared → Prop} (hr : A.depth + 3 < recursionLimit) (C₀ : Cx w g fr h news) (hc : c < 1000) (hx : x.length ≤ 1000)
    (ret : ∀ h' k' e, New w g fr h' news e 51 c → Q (.ref e) (St s h' k')) : wpG κ (model prg w) A (call (.ref 51) [.int c tc, .str x tx]) Q E (St s h k) := by
  have X₀ := C₀.gd.X
  refine gOf (wpAny_call_exc_init F.excBase_Exception (X₀ 51 _ (by k_is)) (nsH3_is X₀) (by kernel_rfl) (X₀ 48 _ (by k_is)) rfl fun h₁ e hm => gAny ?_)
  obtain ⟨t₀, he, ht, _⟩ := hm.there
  have C₁ := C₀.add hm.keeps he hm.new
  have hne := C₀.nes hm.new
  refine' enterG (binds := [("self", .ref e), ("code", .int c tc), ("text", .str x tx)]) C₁ ?hr ?k1 ?k2 ?k3 ?k4 fun L h₂ k₂ C₂ => ?_
  case hr => show A.depth + 1 < _; omega
  walk_at "M enter"
  have hl : (c : Int).natAbs.log2 < 1920 := Nat.lt_of_le_of_lt (Nat.log2_le_self _) (Nat.lt_trans (by omega : (c : Int).natAbs < 1000) (by decide))
  have hs := PyProof.Rows.len_str_of_int (c : Int)
  refine gExpr (gMeth (gP (nmB (v := .type "Exception") C₂ (by rfl) (by k_is) (by rfl) (by decide)) fun _ k₃ => methT (T := "Exception") (v := .builtin "Exception.__init__") C₂.gd.X exc_type (by decide +kernel) (exc_init _) rfl fun k₄ => gCall (gP (nmL C₂) fun _ k₅ =>
    gBin (gBin (callB (nmB (v := .type "str") C₂ (by rfl) (by k_is) (by rfl) (by decide)) (fun _ => kpT) fun k₆ => gP (nmL C₂) fun _ k₇ => ?_))) (by rfl)) (by rfl))
  refine gOf (P.str_of_int (s := St s h₂ k₇) hl ?_)
  refine gP cS fun t₈ k₈ => gOf (PyProof.Rows.add_str (s := St s h₂ k₈) (fun t₉ k₉ => ?_) ?_)
  refine gP (nmL C₂) fun _ k₁ => gOf (PyProof.Rows.add_str (s := St s h₂ k₁) (fun t₁ k₆ => ?_) ?_)
  refine ⟨kpB, gOf (excInit0 (.inl rfl) C₂ hne fun h₃ t₃ C₃ => ?_)⟩
  · refine gAsgA (gP (nmL C₃) fun t₄ k₇ => gP (nmL C₃) fun _ k₈ => store1C F.store_Exception (C₃.gd.X 51 _ (by k_is)) (nsH3_is C₃.gd.X) (by kernel_rfl) (by kernel_rfl) missE_code C₃ hne rfl (by intro c q; cases q) rfl fun h₄ k₉ d od C₄ hde hnd hod => ?_)
    refine gAsgA (gP (nmL C₄) fun t₅ k₁ => gP (nmL C₄) fun _ k₂ => store2 F.store_Exception (C₄.gd.X 51 _ (by k_is)) (nsH3_is C₄.gd.X) (by kernel_rfl) (by kernel_rfl) missE_text C₄ (fun q => ?_) hde (fun q hq => ⟨hne q hq, hnd q hq⟩) rfl (by intro c q; cases q) rfl hod fun h₅ k₃ oe' od' C₅ e1 e2 e3 e4 => ?_)
    · have := hm.new
      rw [q, X₀ 51 _ (by k_is)] at this
      cases this
    · exact gNil ⟨rfl, ret _ _ e ⟨d, _, od', _, C₅.pop, hde, fun q hq => ⟨hne q hq, hnd q hq⟩, ⟨e1, e3, e2, ⟨_, e4, fun _ => ⟨_, rfl⟩⟩, (fun q => absurd q (by decide)), (by decide : 2 < 6)⟩, rfl⟩⟩
  · rw [Str.length_append, show (Str.ofString ": ").length = 2 from rfl, sizeLine_eq]
    omega
  · rw [show (Str.ofString ": ").length = 2 from rfl, sizeLine_eq]
    omega
end
end Mine

open PySem PySem.W PySem.Calls PyProof.Rows
set_option Elab.async false
set_option maxRecDepth 100000
set_option maxHeartbeats 1000000
set_option linter.unusedVariables false
namespace Mine
section
variable {κ : Bool} {w : World} {A : Around} {E : Value → Shared → Prop} {s : Shared} {g h : Heap} {fr : Fs} {L e a : Addr} {m : NsM} {news news' : List (Addr × Obj)} {k nt : Nat} {env : Env} {rest : List Stmt} {pos px py pt p1 p2 p3 : Pos} {o value : Expr} {x y : Str} {cn : Str} {cs : Scope} {ccd : Value} {cl : List (Str × Addr)} {P : Addr → Int → Prop}
theorem gAsgTup {elts : List Expr} {Q : Flow → Shared → Prop}
    (h : wpG κ (model prg w) A (eval value env) (fun v s₁ => wpAny (model prg w) A (assign (.Tuple elts nt pt) env v) (fun _ s₂ => wpG κ (model prg w) A (execs rest env) Q E s₂) E s₁) E s)
    (hs : swapsWithSole [.Tuple elts nt pt] value pos.line env = pure false := by rfl) (hw : swappedStores [.Tuple elts nt pt] value env = pure none := by rfl) :
    wpG κ (model prg w) A (execs (.Assign [.Tuple elts nt pt] value pos :: rest) env) Q E s := by
  refine gSt ?_
  rw [exec_Assign]
  refine gBind (gStand ?_)
  rw [hs]
  refine gBind (gPure ?_)
  simp only [Bool.false_eq_true, if_false]
  refine gBind (gMono h (fun v s₁ h₁ => ?_) fun _ _ x => x)
  rw [hw]
  refine gBind (gPure ?_)
  show wpG _ _ _ (do assignAll v [assign (.Tuple elts nt pt) env]; pure Flow.next : Sem Flow) _ _ _
  refine gBind ?_
  unfold assignAll
  exact gOf (wpAny_mono h₁ (fun _ s₂ q => gPure q) fun _ _ x => x)
theorem raiseSh {Q : Flow → Shared → Prop} {t : Str} {n : Nat} (C : Cx w g ((L, m) :: fr) h news) (hR : Rm A 4) (hp : P 71 0) (hx : cs.names.lookup ("Short" : Str) = some .globalImplicit := by rfl) (hk : cs.kind = .function := by rfl)
    (hs : starEach [.Constant (.str t) n p2] (envX cn cs L a ccd cl) = [.Constant (.str t) n p2].map fun e => (false, eval e (envX cn cs L a ccd cl)) := by rfl) :
    wpG κ (model prg w) A (execs (.Raise (some (.Call (.Name "Short" p1) [.Constant (.str t) n p2] [] p3)) none pos :: rest) (envX cn cs L a ccd cl)) Q (Bx w s g L fr news P) (St s h k) :=
  gRaise (callF C hx (by k_is) (by k_is) (fun k₁ => gP cS fun t₁ k₂ => ⟨C.keep, short_x (Nat.lt_of_le_of_lt (Nat.add_le_add_left (by decide) _) hR.room) C fun h' k' e X => gOf (raise0 hR.hh X (.inr rfl) ⟨h', k', e, m, 71, 0, rfl, rfl, .inl X, hp⟩)⟩) hs hk)
theorem h3Arg {c : Nat} {t t' : Str} {n : Nat} {tc : Tok} {Q : Value → Shared → Prop} (C : Cx w g ((L, m) :: fr) h news) (hr : A.depth + 3 < recursionLimit) (hv : nsIn (KK w.params) mainGlobals t' = some (some (.int c tc))) (hc : c < 1000) (ht : t.length ≤ 1000)
    (ret : ∀ h' k' e, New w g ((L, m) :: fr) h' news e 51 c → Q (.ref e) (St s h' k'))
    (hx : cs.names.lookup ("H3Error" : Str) = some .globalImplicit := by rfl) (hy : cs.names.lookup t' = some .globalImplicit := by rfl) (hk : cs.kind = .function := by rfl) (hd : (t' == ("__debug__" : Str)) = false := by decide +kernel)
    (hs : starEach [.Name t' px, .Constant (.str t) n p2] (envX cn cs L a ccd cl) = [.Name t' px, .Constant (.str t) n p2].map fun e => (false, eval e (envX cn cs L a ccd cl)) := by rfl) :
    wpG κ (model prg w) A (eval (.Call (.Name "H3Error" p1) [.Name t' px, .Constant (.str t) n p2] [] p3) (envX cn cs L a ccd cl)) Q E (St s h k) :=
  callF C hx (by k_is) (by k_is) (fun k₁ => gP (nmK C hy hv hk hd) fun _ k₂ => gP cS fun t₁ k₃ => ⟨C.keep, h3_x hr C hc ht ret⟩) hs hk
theorem raiseH3 {c : Nat} {t t' : Str} {n : Nat} {tc : Tok} {Q : Flow → Shared → Prop} (C : Cx w g ((L, m) :: fr) h news) (hR : Rm A 4) (hv : nsIn (KK w.params) mainGlobals t' = some (some (.int c tc))) (hc : c < 1000) (ht : t.length ≤ 1000) (hp : P 51 c)
    (hx : cs.names.lookup ("H3Error" : Str) = some .globalImplicit := by rfl) (hy : cs.names.lookup t' = some .globalImplicit := by rfl) (hk : cs.kind = .function := by rfl) (hd : (t' == ("__debug__" : Str)) = false := by decide +kernel)
    (hs : starEach [.Name t' px, .Constant (.str t) n p2] (envX cn cs L a ccd cl) = [.Name t' px, .Constant (.str t) n p2].map fun e => (false, eval e (envX cn cs L a ccd cl)) := by rfl) :
    wpG κ (model prg w) A (execs (.Raise (some (.Call (.Name "H3Error" p1) [.Name t' px, .Constant (.str t) n p2] [] p3)) none pos :: rest) (envX cn cs L a ccd cl)) Q (Bx w s g L fr news P) (St s h k) :=
  gRaise (h3Arg C (Nat.lt_of_le_of_lt (Nat.add_le_add_left (by decide) _) hR.room) hv hc ht (fun h' k' e X => gOf (raise0 hR.hh X (.inl rfl) ⟨h', k', e, m, 51, c, rfl, rfl, .inl X, hp⟩)) hx hy hk hd hs)
theorem raiseH3' {c : Nat} {t t' : Str} {n : Nat} {tc : Tok} {Q : Flow → Shared → Prop} {e₀ C₀ : Addr} {c₀ : Int} {fl : Value} (X₀ : Fly w g ((L, m) :: fr) h news e₀ C₀ c₀ fl) (hC : C₀ = 71) (hr : A.depth + 3 < recursionLimit) (hh : A.handled = some (.ref e₀)) (hv : nsIn (KK w.params) mainGlobals t' = some (some (.int c tc))) (hc : c < 1000) (ht : t.length ≤ 1000) (hp : P 51 c)
    (hx : cs.names.lookup ("H3Error" : Str) = some .globalImplicit := by rfl) (hy : cs.names.lookup t' = some .globalImplicit := by rfl) (hk : cs.kind = .function := by rfl) (hd : (t' == ("__debug__" : Str)) = false := by decide +kernel)
    (hs : starEach [.Name t' px, .Constant (.str t) n p2] (envX cn cs L a ccd cl) = [.Name t' px, .Constant (.str t) n p2].map fun e => (false, eval e (envX cn cs L a ccd cl)) := by rfl) :
    wpG κ (model prg w) A (execs (.Raise (some (.Call (.Name "H3Error" p1) [.Name t' px, .Constant (.str t) n p2] [] p3)) none pos :: rest) (envX cn cs L a ccd cl)) Q (Bx w s g L fr news P) (St s h k) := by
  obtain ⟨d, oe, od, T, oT, vs, ts, C, _, _, X, _⟩ := X₀
  have C' := C.drop (news' := (e₀, oe) :: news) (subCons fun p hp => .tail _ (.tail _ hp))
  exact gRaise (h3Arg C' hr hv hc ht (fun h' k' e Y => gOf (raise1 hh Y X.data (X.ctx hC) fun h'' k'' Z => ⟨h'', k'', e, m, 51, c, rfl, rfl, .inl Z, hp⟩)) hx hy hk hd hs)
theorem pickN {l : List UInt8} {lo : Nat} {hi : Option Nat} : KBy.picked l.toArray (some lo) (hi.map fun j => (j : Int)) = ((l.drop lo).take (hi.elim l.length id - lo)).toArray := by
  rw [KBc.picked_eq]
  congr 1
  have e1 : (Option.elim (some (lo : Int)) 0 (clipAt l.toArray.size)) = min lo l.length := clipAt_nat _ _
  have e2 : ((hi.map fun j => (j : Int)).elim l.toArray.size (clipAt l.toArray.size)) = hi.elim l.length (fun j => min j l.length) := by
    cases hi with
    | none => rfl
    | some j => exact clipAt_nat _ _
  rw [e1, e2]
  show List.take _ (List.drop _ l) = _
  by_cases q : lo ≤ l.length
  · rw [Nat.min_eq_left q]
    cases hi with
    | none => rfl
    | some j =>
      show List.take (min j l.length - lo) _ = List.take (j - lo) _
      by_cases q2 : j ≤ l.length
      · rw [Nat.min_eq_left q2]
      · rw [Nat.min_eq_right (by omega), List.take_of_length_le (by rw [List.length_drop]; exact Nat.le_refl _), List.take_of_length_le (by rw [List.length_drop]; omega)]
  · rw [Nat.min_eq_right (by omega), List.drop_length, List.drop_of_length_le (by omega), List.take_nil, List.take_nil]
theorem slY {l : List UInt8} {i j : Nat} {iI jI : Int} {τ σ ρ : Tok → Tok} {lo hi : Expr} {p pos : Pos} {Q : Value → Shared → Prop} (hv : PEv w A env s h value fun t => .bytes l.toArray (τ t)) (hl : PEv w A env s h lo fun t => .int iI (σ t)) (hh : PEv w A env s h hi fun t => .int jI (ρ t)) (ei : iI = i) (ej : jI = j) (hz : l.length ≤ 1000000)
    (hQ : ∀ h' t k', h.StaysIn h' → Q (.bytes ((l.drop i).take (j - i)).toArray t) (St s h' k'))
    (hs : ∀ t a, subscripted (.Slice (some lo) (some hi) none p) false (.bytes l.toArray t) (.ref a) = operate [.ref a, .bytes l.toArray t] (getItem (.bytes l.toArray t) (.ref a)) := by intro _ _; with_unfolding_all rfl) (ht : ∀ t r, letTemporaryGo value (.bytes l.toArray t) r = pure () := by intro _ _; with_unfolding_all rfl) :
    wpG κ (model prg w) A (eval (.Subscript value (.Slice (some lo) (some hi) none p) pos) env) Q E (St s h k) := by
  subst ei ej
  refine gSub (gP hv fun t k₁ => gOf (wpAny_Slice (hl k₁ _ E fun t₁ k₂ => hh k₂ _ E fun t₂ k₃ => wpAny_pure ?_)))
  refine tail_of_ItemOn ⟨"bytes", _, FB.slot_bytes_getitem.lookup, PySem.W.typeIs_bytes _ _ _, getItem_meets (PySem.W.typeIs_bytes _ _ _) (by decide) FB.slot_bytes_getitem FB.entry_bytes_getitem (FB.args_bytes_getitem_2 _ _) (KBc.meets_slice2 l.toArray _ _ (.int _ _) (.int _ _))
    ⟨Heap.IsSliceOf.new _ _ _ _, Nat.le_trans (KBc.size_picked_le _ _ _) (by rw [List.size_toArray, sizeLine_eq]; omega), fun t' k' => ?_⟩⟩ (hs _ _) (ht _)
  have := hQ _ t' k' (stays_push h { cls := .type "slice", data := .fields #[.int i (σ t₁), .int j (ρ t₂), .none] })
  rw [show KBy.picked l.toArray (some (i : Int)) (some (j : Int)) = _ from pickN (hi := some j)]
  exact this
theorem slY' {l : List UInt8} {i : Nat} {iI : Int} {τ σ : Tok → Tok} {lo : Expr} {p pos : Pos} {Q : Value → Shared → Prop} (hv : PEv w A env s h value fun t => .bytes l.toArray (τ t)) (hl : PEv w A env s h lo fun t => .int iI (σ t)) (ei : iI = i) (hz : l.length ≤ 1000000)
    (hQ : ∀ h' t k', h.StaysIn h' → Q (.bytes (l.drop i).toArray t) (St s h' k'))
    (hs : ∀ t a, subscripted (.Slice (some lo) none none p) false (.bytes l.toArray t) (.ref a) = operate [.ref a, .bytes l.toArray t] (getItem (.bytes l.toArray t) (.ref a)) := by intro _ _; with_unfolding_all rfl) (ht : ∀ t r, letTemporaryGo value (.bytes l.toArray t) r = pure () := by intro _ _; with_unfolding_all rfl) :
    wpG κ (model prg w) A (eval (.Subscript value (.Slice (some lo) none none p) pos) env) Q E (St s h k) := by
  subst ei
  refine gSub (gP hv fun t k₁ => gOf (wpAny_Slice (hl k₁ _ E fun t₁ k₂ => wpAny_pure (wpAny_pure ?_))))
  refine tail_of_ItemOn ⟨"bytes", _, FB.slot_bytes_getitem.lookup, PySem.W.typeIs_bytes _ _ _, getItem_meets (PySem.W.typeIs_bytes _ _ _) (by decide) FB.slot_bytes_getitem FB.entry_bytes_getitem (FB.args_bytes_getitem_2 _ _) (KBc.meets_slice2 l.toArray _ _ (.int _ _) .none)
    ⟨Heap.IsSliceOf.new _ _ _ _, Nat.le_trans (KBc.size_picked_le _ _ _) (by rw [List.size_toArray, sizeLine_eq]; omega), fun t' k' => ?_⟩⟩ (hs _ _) (ht _)
  have := hQ _ t' k' (stays_push h { cls := .type "slice", data := .fields #[.int i (σ t₁), .none, .none] })
  rw [show KBy.picked l.toArray (some (i : Int)) none = _ from pickN (hi := none), Option.elim, List.take_of_length_le (by rw [List.length_drop]; exact Nat.le_refl _)]
  exact this
end
end Mine

open PySem PySem.W PySem.Calls PyProof.Rows
set_option Elab.async false
set_option maxRecDepth 100000
set_option maxHeartbeats 1000000
set_option linter.unusedVariables false
namespace Mine
local macro_rules | `(tactic| walk_at "M enter") => `(tactic| ((case k1 => k_is); (case k2 => k_is); (case k3 => exact fun _ => .of_eq rfl); (case k4 => rfl)))
def dn (l : List UInt8) : Nat := l.foldl (fun a b => a * 256 + b.toNat) 0
def getW (l : List UInt8) (i z : Nat) : Option Nat := if i + z ≤ l.length then some (dn ((l.drop i).take z)) else none
def zAt (l : List UInt8) (i : Nat) : Nat := 2 ^ ((l.getD i 0).toNat / 64)
def getV (l : List UInt8) (i : Nat) : Option (Nat × Nat) := if i < l.length then (getW l i (zAt l i)).map fun n => (n % 2 ^ (8 * zAt l i - 2), i + zAt l i) else none
theorem dn_lt : ∀ (l : List UInt8) (a : Nat), l.foldl (fun a b => a * 256 + b.toNat) a < (a + 1) * 256 ^ l.length
  | [], a => by simp
  | b :: l, a => by
    rw [List.foldl_cons, List.length_cons, Nat.pow_succ]
    refine Nat.lt_of_lt_of_le (dn_lt l _) ?_
    rw [Nat.mul_comm (256 ^ _) 256, ← Nat.mul_assoc]
    refine Nat.mul_le_mul_right _ ?_
    have := b.toNat_lt
    omega
theorem dn_lt' (l : List UInt8) : dn l < 256 ^ l.length := by
  have := dn_lt l 0
  rw [Nat.zero_add, Nat.one_mul] at this
  exact this
theorem dn_take {l : List UInt8} {i : Nat} {c : UInt8} (h : l[i]? = some c) : dn (l.take (i + 1)) = dn (l.take i) * 256 + c.toNat := by
  unfold dn
  rw [List.take_add_one, h, List.foldl_append]; rfl
section
variable {κ : Bool} {w : World} {A : Around} {E : Value → Shared → Prop} {s : Shared} {g h : Heap} {fr : Fs} {L e a : Addr} {m : NsM} {news news' : List (Addr × Obj)} {k : Nat} {env : Env} {rest body : List Stmt} {pos px py pt : Pos} {o value : Expr} {x y : Str} {cn : Str} {cs : Scope} {ccd : Value} {cl : List (Str × Addr)} {P : Addr → Int → Prop}
theorem forY {l : List UInt8} {t : Tok} {Q : Flow → Shared → Prop} (J : Nat → NsM → List (Addr × Obj) → Prop) (hh : A.handled = none) (C : Cx w g ((L, m) :: fr) h news) (hJ : J 0 m news)
    (turn : ∀ i c tc g' h m nx k, l[i]? = some c → J i m nx → g.StaysIn g' → Cx w g' ((L, up m x (.int (c.toNat : Nat) tc)) :: fr) h nx → wpG κ (model prg w) A (execs body (envX cn cs L a ccd cl)) (Tn w s g' L fr (J (i + 1)) (Sq κ (model prg w) A (envX cn cs L a ccd cl) rest Q E)) No (St s h k))
    (done : ∀ h m nx k, Cx w g ((L, m) :: fr) h nx → J l.length m nx → wpG κ (model prg w) A (execs rest (envX cn cs L a ccd cl)) Q E (St s h k))
    (hk : cs.kind = .function := by rfl) (hx : cs.names.lookup x = some .local := by rfl) : ForG κ w A s (.Name x px) body (envX cn cs L a ccd cl) rest Q E (.bytes l.toArray t) (St s h k) := by
  have W := KBw.walks (prog := prg) (w := w) (A := A) hh h.objs.size l.toArray t
  refine forI (bnd := fun _ v m => up m x v) (fp := []) J C (fun k Q E hQ => KBw.pyIter_bytes (s := St s h k) hQ) W (fun b hb => nomatch hb) (fun i h' S b hb => ?_) ?_ hJ
    (fun i v h' k Q E _ _ hQ => wpAny_of_eq rfl hQ) (fun i v g' h m nx k Q E _ _ C hQ => asgN hk hx i v g' h m nx k Q E C hQ) (fun _ _ z => False.elim z) (fun i v g' h m nx k hi hP hJ hg C => ?_) (fun h m nx k C hJ => done h m nx k C ?_)
  · obtain ⟨o, ho, _⟩ := S
    rw [List.mem_singleton.mp hb]; exact ⟨o, ho⟩
  · exact ⟨_, Heap.get?_push_size _ rfl, rfl, rfl⟩
  · obtain ⟨c, tc, e1, rfl⟩ := hP
    rw [List.getElem?_toArray] at e1
    exact turn i c tc g' h m nx k e1 hJ hg C
  · rw [List.size_toArray] at hJ; exact hJ
theorem whole_r {l : List UInt8} {i z : Nat} {tl ti tz : Tok} {Q : Value → Shared → Prop} (hR : Rm A 5) (F : FrA A fr) (C : Cx w g fr h news) (hl : l.length ≤ 1000000) (hz : z ≤ 8)
    (ret : ∀ n, getW l i z = some n → ∀ h' t k', Cx w g fr h' news → Q (.int n t) (St s h' k')) (exc : getW l i z = none → ∀ v s', Fx w s g fr news (fun C _ => C = 71) v s' → E v s') :
    wpG κ (model prg w) A (call (.ref 89) [.bytes l.toArray tl, .int i ti, .int z tz]) Q E (St s h k) := by
  refine' enterE (binds := [("data", .bytes l.toArray tl), ("at", .int i ti), ("size", .int z tz)]) F C hR.lt ?k1 ?k2 ?k3 ?k4 (fun C _ => getW l i z = none ∧ C = 71) (fun v s' X => ?_) fun L h₁ k₁ C₁ F₁ => ?_
  walk_at "M enter"
  · refine exc ?_ v s' (X.mono fun _ _ q => q.2)
    obtain ⟨_, _, _, _, _, _, _, _, q⟩ := X
    exact q.1
  refine ifP (tGt (pAdd (nmL C₁) (nmL C₁)) (pLenY (nmB (v := .builtin "len") C₁ (by rfl) (by k_is) (by rfl) (by decide)) (nmL C₁) (by rw [List.size_toArray]; omega))) (fun b k₂ => ?_) fun b k₂ => ?_
  · have q : getW l i z = none := by
      have := of_decide_eq_true b
      rw [List.size_toArray] at this
      exact if_neg (by omega)
    exact raiseSh C₁ hR.in ⟨q, rfl⟩
  have hle : i + z ≤ l.length := by
    have := of_decide_eq_false b
    rw [List.size_toArray] at this
    omega
  refine asgP C₁ cI fun h₂ t₂ k₂ C₂ => ?_
  refine gFor ?_ fun _ => rfl
  refine slY (i := i) (j := i + z) (nmL C₂) (nmL C₂) (pAdd (nmL C₂) (nmL C₂)) rfl rfl hl fun h₃ t₃ k₃ q => ?_
  refine forY (fun j m nx => nx = news ∧ ∃ t, m "found" = some (.int (dn (((l.drop i).take (i + z - i)).take j) : Nat) t)) hR.hh (C₂.on q) ⟨rfl, _, rfl⟩
    (fun j c tc g' h₄ m nx k₄ hc J hg C₄ => ?_) fun h₄ m nx k₄ C₄ J => ?_
  · obtain ⟨rfl, t, hf⟩ := J
    refine asgP C₄ (pAdd (pMul (nmL C₄ (hv := by exact hf)) cI ?_) (nmL C₄)) fun h₅ t₅ k₅ C₅ => gNil (tnNext C₅ ⟨rfl, t₅, ?_⟩)
    · have q1 : j < ((l.drop i).take (i + z - i)).length := (List.getElem?_eq_some_iff.mp hc).1
      rw [List.length_take] at q1
      have q2 := dn_lt' (((l.drop i).take (i + z - i)).take j)
      have q3 : 256 ^ (((l.drop i).take (i + z - i)).take j).length ≤ 256 ^ 7 := Nat.pow_le_pow_right (by decide) (by rw [List.length_take]; omega)
      have q4 := Nat.lt_of_lt_of_le q2 q3
      exact Nat.lt_trans q4 (by decide)
    · rw [dn_take hc]; rfl
  · obtain ⟨rfl, t, hf⟩ := J
    rw [List.take_length, Nat.add_sub_cancel_left] at hf
    exact retP (nmL C₄ (hv := by exact hf)) fun _ k' => ret _ (if_pos hle) _ t k' C₄.pop
theorem newT {vs : List Value} {Q : Value → Shared → Prop} (hz : vs.length ≤ 1000) (hQ : ∀ h' t, h.get? t = none → h'.get? t = some { cls := .type "tuple", data := .seq vs.toArray } → h.StaysIn h' → Q (.ref t) (St s h' k)) : wpG κ (model prg w) A (newTuple vs) Q E (St s h k) := by
  unfold newTuple
  exact gOf (wpAny_newObj_type (s := St s h k) (hQ _ _ (get_size h) (Heap.get?_push_size _ rfl) (stays_push h _)) (by show vs.toArray.size ≤ sizeLine; rw [List.size_toArray, sizeLine_eq]; omega))
theorem Cx.toG {h' : Heap} {t : Addr} {o : Obj} (C : Cx w g fr h news) (hn : h.get? t = none) (ho : h'.get? t = some o) (q : h.StaysIn h') : g.StaysIn (reb h' fr news) ∧ Cx w (reb h' fr news) fr h' news ∧ (reb h' fr news).get? t = some o :=
  have C' := C.on q
  ⟨C'.grow, C'.rebase, reb_get ho (fun p hp => C.noFr hn p hp) fun p hp => C.nes hn p hp⟩
theorem vs4Get : ∀ n, n < 4 → ∃ t, ([.int 1 286, .int 2 287, .int 4 288, .int 8 289] : List Value)[n]? = some (.int (2 ^ n : Nat) t)
  | 0, _ => ⟨_, rfl⟩
  | 1, _ => ⟨_, rfl⟩
  | 2, _ => ⟨_, rfl⟩
  | 3, _ => ⟨_, rfl⟩
  | n + 4, h => absurd h (by omega)
theorem varint_r {l : List UInt8} {i : Nat} {tl ti : Tok} {Q : Value → Shared → Prop} (hR : Rm A 6) (F : FrA A fr) (C : Cx w g fr h news) (hl : l.length ≤ 1000000)
    (ret : ∀ n j, getV l i = some (n, j) → ∀ g' h' k' t tn tj, g.StaysIn g' → Cx w g' fr h' news → g'.IsTuple t #[.int n tn, .int j tj] → Q (.ref t) (St s h' k')) (exc : getV l i = none → ∀ v s', Fx w s g fr news (fun C _ => C = 71) v s' → E v s') :
    wpG κ (model prg w) A (call (.ref 110) [.bytes l.toArray tl, .int i ti]) Q E (St s h k) := by
  refine' enterE (binds := [("data", .bytes l.toArray tl), ("at", .int i ti)]) F C hR.lt ?k1 ?k2 ?k3 ?k4 (fun C _ => getV l i = none ∧ C = 71) (fun v s' X => ?_) fun L h₁ k₁ C₁ F₁ => ?_
  walk_at "M enter"
  · refine exc ?_ v s' (X.mono fun _ _ q => q.2)
    obtain ⟨_, _, _, _, _, _, _, _, q⟩ := X
    exact q.1
  refine ifP (tGe (nmL C₁) (pLenY (nmB (v := .builtin "len") C₁ (by rfl) (by k_is) (by rfl) (by decide)) (nmL C₁) (by rw [List.size_toArray]; omega))) (fun b k₂ => ?_) fun b k₂ => ?_
  · have q : getV l i = none := by
      have := of_decide_eq_true b
      rw [List.size_toArray] at this
      exact if_neg (by omega)
    exact raiseSh C₁ (hR.in.le (by decide)) ⟨q, rfl⟩
  have hlt : i < l.length := by
    have := of_decide_eq_false b
    rw [List.size_toArray] at this
    omega
  have hc := (l.getD i 0).toNat_lt
  obtain ⟨tz, hz⟩ := vs4Get ((l.getD i 0).toNat / 64) (by omega)
  refine asgP C₁ (pItT (n := (l.getD i 0).toNat / 64) ((vsTup C₁.G).at fun _ q => C₁.keep _ _ q) (nmK C₁ (by rfl) (by k_is)) (pShr (pItY (nmL C₁) (nmL C₁) ⟨by omega, by omega, by omega⟩ (fun _ _ => rfl) (fun _ _ => rfl)) cI (by decide)) ⟨?_, by omega⟩ hz (fun _ => rfl)) fun h₂ t₂ k₂ C₂ => ?_
  · rw [show (2 : Int) ^ (6 : Int).toNat = 64 from rfl, Int.toNat_natCast]; omega
  have v0 : zAt l i = 2 ^ ((l.getD i 0).toNat / 64) := rfl
  have b0 : 1 ≤ zAt l i := Nat.one_le_two_pow
  have b1 : zAt l i ≤ 8 := Nat.pow_le_pow_right (by decide) (by omega : (l.getD i 0).toNat / 64 ≤ 3)
  have e9 : 8 * ((zAt l i : Nat) : Int) - 2 = (8 * zAt l i - 2 : Nat) := by omega
  refine gRet (gTup ?_ rfl)
  refine gBin (callF C₂ (by rfl) (by k_is) (by k_is) fun k₃ => gP (nmL C₂) fun _ k₄ => gP (nmL C₂) fun _ k₅ => gP (nmL C₂) fun _ k₆ => ⟨C₂.keep, whole_r (z := zAt l i) hR.in F₁.aa C₂ hl b1 (fun n hn h₃ t₃ k₃ C₃ => ?_) fun hn v s' X => ?_⟩)
  · refine gP (pSub (pShl cI (pSub (pMul cI (nmL C₃) (by decide)) cI) ?_) cI) fun t₄ k₄ => ?_
    · rw [← v0, e9]; exact ⟨Int.natCast_nonneg _, by omega, by decide⟩
    refine gOf (and_int (s := St s h₃ k₄) ?_)
    refine gP (pAdd (nmL C₃) (nmL C₃)) fun t₅ k₅ => newT (by simp) fun h₄ t hnt ho q => ?_
    obtain ⟨q1, q2, q3⟩ := C₃.pop.toG hnt ho q
    refine ret (n % 2 ^ (8 * zAt l i - 2)) (i + zAt l i) ?_ _ _ _ t k₄ t₅ q1 q2 ⟨_, q3, rfl, 0, ?_⟩
    · unfold getV
      rw [if_pos hlt, hn]; rfl
    · rw [← v0, e9, Int.toNat_natCast, Int.one_mul, kbt_mask, cast2, ← Int.natCast_emod]
      rfl
  · refine (X.drop fun _ q => q).bx.mono fun C c q => ⟨?_, q⟩
    unfold getV
    rw [if_pos hlt, hn]; rfl
end
end Mine

open PySem PySem.W PySem.Calls PyProof.Rows
set_option Elab.async false
set_option maxRecDepth 100000
set_option maxHeartbeats 1000000
set_option linter.unusedVariables false
namespace Mine
local macro_rules | `(tactic| walk_at "M enter") => `(tactic| ((case k1 => k_is); (case k2 => k_is); (case k3 => exact fun _ => .of_eq rfl); (case k4 => rfl)))
section
variable {κ : Bool} {w : World} {A : Around} {E : Value → Shared → Prop} {s : Shared} {g h : Heap} {fr : Fs} {L e a : Addr} {m : NsM} {news news' : List (Addr × Obj)} {k : Nat} {env : Env} {rest body : List Stmt} {pos px py pt : Pos} {o value : Expr} {x y : Str} {cn : Str} {cs : Scope} {ccd : Value} {cl : List (Str × Addr)} {P : Addr → Int → Prop}
abbrev H3 (c : Int) : Addr → Int → Prop := fun C c' => C = 51 ∧ c' = c
theorem Fx.get {v : Value} {s' : Shared} {p : Prop} {P : Addr → Int → Prop} (X : Fx w s g fr news (fun C c => p ∧ P C c) v s') : p ∧ Fx w s g fr news P v s' := by
  refine ⟨?_, X.mono fun _ _ q => q.2⟩
  obtain ⟨_, _, _, _, _, _, _, _, q⟩ := X
  exact q.1
theorem wholev_r {l : List UInt8} {i : Nat} {tl ti : Tok} {Q : Value → Shared → Prop} (hR : Rm A 7) (F : FrA A fr) (C : Cx w g fr h news) (hl : l.length ≤ 1000000)
    (ret : ∀ n j, getV l i = some (n, j) → ∀ g' h' k' t tn tj, g.StaysIn g' → Cx w g' fr h' news → g'.IsTuple t #[.int n tn, .int j tj] → Q (.ref t) (St s h' k')) (exc : getV l i = none → ∀ v s', Fx w s g fr news (H3 262) v s' → E v s') :
    wpG κ (model prg w) A (call (.ref 144) [.bytes l.toArray tl, .int i ti]) Q E (St s h k) := by
  refine' enterE (binds := [("payload", .bytes l.toArray tl), ("at", .int i ti)]) F C hR.lt ?k1 ?k2 ?k3 ?k4 (fun C c => getV l i = none ∧ H3 262 C c) (fun v s' X => exc X.get.1 v s' X.get.2) fun L h₁ k₁ C₁ F₁ => ?_
  walk_at "M enter"
  refine gTry (Cl := 71) (P := fun C _ => getV l i = none ∧ C = 71) (P₂ := fun C c => getV l i = none ∧ H3 262 C c) F₁ rfl (.inr rfl) (fun A' h' m' C' => nmK C' (by rfl) (by k_is)) ?_ (fun C c q => q.2) (fun h' k' e c m' X q => ?_) fun v s' X => X
  · exact gRet (callF C₁ (by rfl) (by k_is) (by k_is) fun k₂ => gP (nmL C₁) fun _ k₃ => gP (nmL C₁) fun _ k₄ => ⟨C₁.keep, varint_r hR.in F₁.aa C₁ hl (fun n j hn g' h' k' t tn tj q1 q2 q3 => ret n j hn g' h' k' t tn tj q1 q2.pop q3) fun hn v s' X => X.bx.mono fun C c q => ⟨hn, q⟩⟩)
  · exact raiseH3' (c := 262) X rfl (by have := hR.room; show A.depth + 1 + 3 < _; omega) rfl (by k_is) (by decide) (by decide) ⟨q.1, rfl, rfl⟩
end
end Mine

open PySem PySem.W PySem.Calls PyProof.Rows
set_option Elab.async false
set_option maxRecDepth 100000
set_option maxHeartbeats 1000000
set_option linter.unusedVariables false
namespace Mine
structure EnvAt (env : Env) (L : Addr) : Prop where
  loc : env.locals = L
  kind : env.scope.kind = .function
  glob : env.globals = mainGlobals
  bi : env.builtins = builtinsNs
section
variable {κ : Bool} {w : World} {A : Around} {E : Value → Shared → Prop} {s : Shared} {g h : Heap} {fr : Fs} {L a : Addr} {m : NsM} {news : List (Addr × Obj)} {k nt : Nat} {env : Env} {x y : Str} {px py pt pos : Pos} {v : Value} {es : List Expr} {fa : Addr}
theorem nmLe (C : Cx w g ((L, m) :: fr) h news) (e : EnvAt env L) (hx : env.kindOf x = some .local := by rfl) (hv : m x = some v := by rfl) (hd : (x == ("__debug__" : Str)) = false := by decide +kernel) : PEv w A env s h (.Name x px) fun _ => v :=
  fun k Q E hQ => wpAny_Name (s := St s h k) (wpAny_loadName_local e.kind hx (by rw [e.loc]; exact C.ns) hv (hQ 0 k)) hd
theorem nmKe (C : Cx w g fr h news) (e : EnvAt env L) (hv : nsIn (KK w.params) mainGlobals x = some (some v)) (hx : env.kindOf x = some .globalImplicit := by rfl) (hd : (x == ("__debug__" : Str)) = false := by decide +kernel) : PEv w A env s h (.Name x px) fun _ => v := fun k Q E hQ => by
  obtain ⟨_, _, _, _, _, T⟩ := C.G.2
  exact Name_function_global (s := St s h k) e.kind hx (loadGlobal_global (by rw [e.glob]; exact T.g.keeps C.keep) (mg_of C.G.X T.g hv) (hQ 0 k)) hd
theorem nmBe (C : Cx w g fr h news) (e : EnvAt env L) (hv : nsIn (KK w.params) mainGlobals x = some none) (hb : bootBuiltins x = some v) (hn : x ≠ "__name__") (hx : env.kindOf x = some .globalImplicit := by rfl) (hd : (x == ("__debug__" : Str)) = false := by decide +kernel) : PEv w A env s h (.Name x px) fun _ => v := fun k Q E hQ => by
  obtain ⟨_, _, _, _, _, T⟩ := C.G.2
  exact Name_function_global (s := St s h k) e.kind hx (loadGlobal_builtin (by rw [e.glob]; exact T.g.keeps C.keep) (mg_none_of C.G.X T.g hv) (by rw [e.bi]; exact T.b.keeps C.keep) ((T.builtins _ hn).trans hb) (hQ 0 k)) hd
theorem nmCe {c : Addr} {o : Obj} (C : Cx w g fr h news) (hk : env.scope.kind = .function) (hm : (c, o) ∈ news) (hd : o.data = .cell (some v)) (hc : env.cells.lookup x = some c := by rfl) (hx : env.kindOf x = some .cell := by rfl) (hb : (x == ("__debug__" : Str)) = false := by decide +kernel) : PEv w A env s h (.Name x px) fun _ => v :=
  fun k Q E hQ => wpAny_Name (s := St s h k) (wpAny_loadName_cell hk hx hc ⟨o, (C.N _ hm).1, hd⟩ (hQ 0 k)) hb
theorem nmFe {c : Addr} {o : Obj} (C : Cx w g fr h news) (hk : env.scope.kind = .function) (hm : (c, o) ∈ news) (hd : o.data = .cell (some v)) (hc : env.cells.lookup x = some c := by rfl) (hx : env.kindOf x = some .free := by rfl) (hb : (x == ("__debug__" : Str)) = false := by decide +kernel) (hn : (x == ("__classdict__" : Str)) = false := by decide +kernel) : PEv w A env s h (.Name x px) fun _ => v :=
  fun k Q E hQ => wpAny_Name (s := St s h k) (wpAny_loadName_free hk hx hc ⟨o, (C.N _ hm).1, hd⟩ (hQ 0 k) hn) hb
theorem stoXe {Q : Unit → Shared → Prop} (C : Cx w g ((L, m) :: fr) h news) (e : EnvAt env L) (hQ : ∀ h' k', Cx w g ((L, up m x v) :: fr) h' news → Q () (St s h' k')) (hx : env.kindOf x = some .local := by rfl) : wpAny (model prg w) A (storeName env x v) Q E (St s h k) :=
  wpAny_storeName_local (s := St s h k) (m := m) hx (by rw [e.loc]; exact C.ns) (fun h' hn hs => by rw [e.loc] at hn hs; exact hQ h' _ (C.set hn hs)) (by rw [e.kind]; rfl)
theorem asgTe (hh : A.handled = none) {t : Addr} {u v : Value} {Q : Unit → Shared → Prop} (C : Cx w g ((L, m) :: fr) h news) (e : EnvAt env L) (ht : h.IsTuple t #[u, v]) (hQ : ∀ h' k', Cx w g ((L, up (up m x u) y v) :: fr) h' news → Q () (St s h' k'))
    (hx : env.kindOf x = some .local := by rfl) (hy : env.kindOf y = some .local := by rfl) : wpAny (model prg w) A (assign (.Tuple [.Name x px, .Name y py] nt pt) env (.ref t)) Q E (St s h k) :=
  wpAny_assign_Tuple (s := St s h k) hh ht rfl rfl fun h₁ he => by
    have C₁ : Cx w g ((L, m) :: fr) h₁ news := C.on fun b o e => he b o (Nat.ne_of_lt (Heap.lt_size e)) e
    show wpAny _ _ (do holding [v] (assign (.Name x px) env u); do holding [] (assign (.Name y py) env v); pure ()) _ _ _
    exact wpAny_bind (wpAny_holding (wpAny_assign_Name (stoXe C₁ e (fun h₂ k₂ C₂ => wpAny_bind (wpAny_holding (wpAny_assign_Name (stoXe C₂ e (fun h₃ k₃ C₃ => wpAny_pure (hQ h₃ k₃ C₃)) hy)))) hx)))
theorem callFe {Q : Value → Shared → Prop} (C : Cx w g fr h news) (e : EnvAt env L) (hv : nsIn (KK w.params) mainGlobals x = some (some (.ref fa))) (hkp : keepIn (KK w.params) (.ref fa) = true)
    (h1 : ∀ k, Evs κ (model prg w) A env es (fun vs s' => g.StaysIn s'.heap ∧ wpG κ (model prg w) A (call (.ref fa) vs) Q E s') E (St s h k))
    (hs : starEach es env = es.map fun e => (false, eval e env) := by rfl) (hx : env.kindOf x = some .globalImplicit := by rfl) (hd : (x == ("__debug__" : Str)) = false := by decide +kernel) :
    wpG κ (model prg w) A (eval (.Call (.Name x px) es [] pos) env) Q E (St s h k) :=
  gCallN (gP (nmKe C e hv hx hd) fun _ k₁ => gCall (evsMono (h1 k₁) fun vs s' y => ⟨keeps_K hkp _ (C.G.X.keeps y.1), y.2⟩) hs)
end
def tests (env : Env) (ifs : List Expr) : Sem Bool := forIn ifs true fun c r => if r = true then do let ok ← isTrue c env (eval c env); pure (ForInStep.yield ok) else pure (ForInStep.yield r)
section
variable {κ : Bool} {w : World} {A : Around} {E : Value → Shared → Prop} {s : Shared} {g h : Heap} {fr : Fs} {L a : Addr} {m : NsM} {news : List (Addr × Obj)} {k nt : Nat} {env : Env} {R : Result → Shared → Prop}
theorem cLoop {elt iter target : Expr} {ifs : List Expr} {scope : Scope} {pos : Pos} {it acc : Value} (I : Nat → Shared → Prop)
    (turn : ∀ n s, I n s → wpAny (model prg w) A (pyNext it) (fun r s₁ => match r with
      | none => R (.ok .next) s₁
      | some v => wpAny (model prg w) A (letOwnedTupleGo target it v) (fun _ s₁' => wpAny (model prg w) A (assign target env v) (fun _ s₂ =>
          wpAny (model prg w) A (tests env ifs) (fun ok s₃ => match ok with
            | true => wpAny (model prg w) A (eval elt env) (fun x s₄ => wpAny (model prg w) A (call (.builtin "list.append") [acc, x]) (fun _ s₅ => ∃ m, m < n ∧ I m s₅) No s₄) No s₃
            | false => ∃ m, m < n ∧ I m s₃) No s₂) No s₁') No s₁) No s)
    (n : Nat) (h : I n s) : codeAny (model prg w) A (.compLoop (.ListComp elt [⟨target, iter, ifs, 0⟩] scope pos) 0 it acc env) R s := by
  refine codeAny_loop rfl I (fun n s hI => ?_) n h
  show wpAny _ A ((compTurn (.ListComp elt [⟨target, iter, ifs, 0⟩] scope pos) 0 it acc env).onRaise (fun x => do noteFrame x env; theTreesLotGoes x)) _ _ s
  refine wpAny_noted ?_
  rw [compTurn_list]
  refine wpAny_bind (wpAny_standAt (wpAny_bind (wpAny_mono (turn n s hI) (fun r s₁ h₁ => ?_) fun _ _ z => z.elim)))
  cases r with
  | none => exact wpAny_pure h₁
  | some v =>
    refine wpAny_bind (wpAny_mono h₁ (fun _ s₁' h₁' => ?_) fun _ _ z => z.elim)
    refine wpAny_bind (wpAny_mono h₁' (fun _ s₂ h₂ => wpAny_bind (wpAny_mono h₂ (fun ok s₃ h₃ => ?_) fun _ _ z => z.elim)) fun _ _ z => z.elim)
    cases ok with
    | false => exact wpAny_pure ⟨rfl, h₃⟩
    | true => exact wpAny_bind (wpAny_bind (wpAny_mono h₃ (fun x s₄ h₄ => wpAny_bind (wpAny_mono h₄ (fun _ s₅ h₅ => wpAny_pure (wpAny_pure ⟨rfl, h₅⟩)) fun _ _ z => z.elim)) fun _ _ z => z.elim))
abbrev CpP (w : World) (A : Around) (elt iter target : Expr) (ifs : List Expr) (scope : Scope) (pos : Pos) (cl : List (Str × Addr)) (env : Env) (post : Value → Addr → Result → Shared → Prop) (E : Value → Shared → Prop) (v₀ : Value) (s₁ : Shared) : Prop :=
  wpAny (model prg w) A (pyIter v₀) (fun it s₂ => wpAny (model prg w) A (newList []) (fun acc s₃ => wpAny (model prg w) A (newFunctionEnv scope env.globals cl [] env.qual none .none (some env)) (fun cenv s₄ =>
    codeAny (model prg w) A (.compStart (.ListComp elt [⟨target, iter, ifs, 0⟩] scope pos) 0 it acc { cenv with scope := relabel scope env }) (post acc cenv.locals) s₄) E s₃) E s₂) E s₁
abbrev CpG (w : World) (A : Around) (elt iter target : Expr) (ifs : List Expr) (scope : Scope) (pos : Pos) (cl : List (Str × Addr)) (env : Env) (Q : Value → Shared → Prop) (E : Value → Shared → Prop) (v₀ : Value) (s₁ : Shared) : Prop :=
  wpAny (model prg w) A (pyIter v₀) (fun it s₂ => wpAny (model prg w) A (newList []) (fun acc s₃ => wpAny (model prg w) A (newFunctionEnv scope env.globals cl [] env.qual none .none (some env)) (fun cenv s₄ =>
    codeAny (model prg w) A (.compStart (.ListComp elt [⟨target, iter, ifs, 0⟩] scope pos) 0 it acc { cenv with scope := relabel scope env }) (compPost (model prg w) A E none Q acc cenv.locals) s₄) E s₃) E s₂) E s₁
theorem gComp {elt iter target : Expr} {ifs : List Expr} {scope : Scope} {pos : Pos} {cl : List (Str × Addr)} {Q : Value → Shared → Prop} (h : wpG false (model prg w) A (eval iter env) (CpG w A elt iter target ifs scope pos cl env Q E) E s)
    (hclos : closureFor scope env = pure cl) (hkind : scope.kind = .function := by rfl) (hnames : ∀ x ∈ scope.names, x.2 = .local → scope.names.lookup x.1 = some .local := by decide +kernel) (hs : ∀ x, foldedSetIterable iter env x = pure x := by intro _; rfl) :
    wpG κ (model prg w) A (eval (.ListComp elt [⟨target, iter, ifs, 0⟩] scope pos) env) Q E s := by
  rw [eval_ListComp]
  exact gOf (wpAny_comprehension_free rfl hs hclos hkind hnames (gAny h))
abbrev Ct (w : World) (s : Shared) (g' : Heap) (Cc L : Addr) (m : NsM) (fr : Fs) (I D : Addr) (oI oD : Obj) (J : Heap → List (Addr × Obj) → Prop) (s' : Shared) : Prop :=
  ∃ g'' h'' nx' k' mc', s' = St s h'' k' ∧ g'.StaysIn g'' ∧ Cx w g'' ((Cc, mc') :: (L, m) :: fr) h'' ((I, oI) :: (D, oD) :: nx') ∧ (∀ q ∈ nx', q.1 ≠ I ∧ q.1 ≠ D) ∧ J g'' nx'
theorem Cx.unC {h₁ h₂ : Heap} {Cc : Addr} {mc : NsM} (C : Cx w g ((Cc, mc) :: fr) h₁ news) (hs : Heap.SameBut Cc h₁ h₂) : Cx w g fr h₂ news := by
  have z := C.pop
  have nC : ∀ b o, b ≠ Cc → h₁.get? b = some o → h₂.get? b = some o := fun b o hb e => (hs.2 b hb).trans e
  refine ⟨z.G, fun b o e => nC b o (fun q => by rw [q, C.out] at e; cases e) (z.keep b o e), z.P, fun p hp => ?_, fun q hq => ⟨nC _ _ ((C.N q hq).2.2 _ (.head _)) (C.N q hq).1, (z.N q hq).2⟩⟩
  obtain ⟨⟨o, es, ep, e, r⟩, y⟩ := z.F p hp
  exact ⟨⟨o, es, ep, nC _ _ ((List.pairwise_cons.mp C.P).1 p hp).symm e, r⟩, y⟩
theorem Cx.swp {p q : Addr × NsM} (C : Cx w g (p :: q :: fr) h news) : Cx w g (q :: p :: fr) h news := by
  obtain ⟨P1, P2⟩ := List.pairwise_cons.mp C.P
  obtain ⟨P3, P4⟩ := List.pairwise_cons.mp P2
  refine ⟨C.G, C.keep, List.pairwise_cons.mpr ⟨fun r hr => ?_, List.pairwise_cons.mpr ⟨fun r hr => P1 r (.tail _ hr), P4⟩⟩, fun r hr => C.F r ?_, fun r hr => ⟨(C.N r hr).1, (C.N r hr).2.1, fun x hx => (C.N r hr).2.2 x ?_⟩⟩
  · rcases List.mem_cons.mp hr with rfl | hr
    · exact (P1 q (.head _)).symm
    · exact P3 r hr
  · rcases List.mem_cons.mp hr with rfl | hr
    · exact .tail _ (.head _)
    · rcases List.mem_cons.mp hr with rfl | hr
      · exact .head _
      · exact .tail _ (.tail _ hr)
  · rcases List.mem_cons.mp hx with rfl | hx
    · exact .tail _ (.head _)
    · rcases List.mem_cons.mp hx with rfl | hx
      · exact .head _
      · exact .tail _ (.tail _ hx)
theorem compI0 {elt iter target : Expr} {ifs : List Expr} {scope : Scope} {pos : Pos} {cl : List (Str × Addr)} {post : Value → Addr → Result → Shared → Prop} {v₀ : Value} {oI : Obj} {fp : List Addr} {n : Nat} {P : Nat → Value → Prop} {S : Nat → Heap → Prop} {bnd : Nat → Value → NsM → NsM}
    (J : Nat → Heap → List Value → List (Addr × Obj) → Prop) (C : Cx w g ((L, m) :: fr) h news) (hfree : oI.isFreed = false)
    (hit : ∀ k (Q : Value → Shared → Prop) E, Q (.ref h.objs.size) (St s (h.push oI) k) → wpAny (model prg w) A (pyIter v₀) Q E (St s h k))
    (W : Walks prg w A h.objs.size (h.objs.size :: fp) [h.objs.size] n P S) (hfp : ∀ b ∈ fp, ∃ o, g.get? b = some o) (hst : S 0 (h.push oI)) (hI : ∀ i h', S i h' → ∃ o, h'.get? h.objs.size = some o) (hJ : J 0 g [] news)
    (hgo : ∀ i v h' k (Q : Unit → Shared → Prop) E, S (i + 1) h' → P i v → Q () (St s h' k) → wpAny (model prg w) A (letOwnedTupleGo target (.ref h.objs.size) v) Q E (St s h' k))
    (hasg : ∀ i v g' h' mc nx k Cc (Q : Unit → Shared → Prop) E, P i v → g.StaysIn g' → Cx w g' ((Cc, mc) :: (L, m) :: fr) h' nx → (∀ h'' k', Cx w g' ((Cc, bnd i v mc) :: (L, m) :: fr) h'' nx → Q () (St s h'' k')) → wpAny (model prg w) A (assign target (compEnvC scope cl Cc env) v) Q E (St s h' k))
    (turn : ∀ i v g' h' mc nx k oI oD ys I D Cc, i < n → P i v → J i g' ys nx → g.StaysIn g' → Cx w g' ((Cc, bnd i v mc) :: (L, m) :: fr) h' ((I, oI) :: (D, oD) :: nx) → (∀ q ∈ nx, q.1 ≠ I ∧ q.1 ≠ D) → I ≠ D →
      wpAny (model prg w) A (tests (compEnvC scope cl Cc env) ifs) (fun ok s₃ => match ok with
        | true => wpAny (model prg w) A (eval elt (compEnvC scope cl Cc env)) (fun y s' => Ct w s g' Cc L m fr I D oI oD (fun g'' nx' => J (i + 1) g'' (ys ++ [y]) nx') s') No s₃
        | false => Ct w s g' Cc L m fr I D oI oD (fun g'' nx' => J (i + 1) g'' ys nx') s₃) No (St s h' k))
    (done : ∀ g' h' D oD nx k ys mc Cc, g.StaysIn g' → Cx w g' ((Cc, mc) :: (L, m) :: fr) h' ((D, oD) :: nx) → LsO oD ys.toArray → (∀ q ∈ nx, q.1 ≠ D) → J n g' ys nx → post (.ref D) Cc (.ok .next) (St s h' k))
    (hglob : env.globals = mainGlobals := by rfl) (hnc : ∀ x ∈ scope.names, x.2 ≠ .cell := by decide +kernel) (hkind : scope.kind = .function := by rfl) (hn : n ≤ 1000000 := by decide) : CpP w A elt iter target ifs scope pos cl env post E v₀ (St s h k) := by
  refine hit k _ _ ?_
  have C₁ : Cx w g ((L, m) :: fr) (h.push oI) ((h.objs.size, oI) :: news) := C.push oI hfree
  have nI := C.nes (get_size h)
  unfold newList
  refine wpAny_newObj_type (s := St s (h.push oI) k) ?_ (by size_fits)
  have nD := C₁.nes (get_size (h.push oI))
  have C₂ := C₁.push { cls := .type "list", data := .seq ([] : List Value).toArray } rfl
  have hsz := get_size ((h.push oI).push { cls := .type "list", data := .seq ([] : List Value).toArray })
  refine wpAny_newFunctionEnv (s := St s ((h.push oI).push { cls := .type "list", data := .seq ([] : List Value).toArray }) k) hnc (by intro x hx; cases hx) (fun h₃ hns hsb => ?_) hkind
  have C₃ := C₂.into (fun b o e => hsb.extBut b o (Nat.ne_of_lt (Heap.lt_size e)) (Heap.get?_push_of_some _ e)) hsz hns
  have hS : S 0 h₃ := W.frame _ _ _ hst fun b hb o e => by
    refine hsb.extBut b o (Nat.ne_of_lt (Nat.lt_trans (Heap.lt_size e) (by show _ < ((h.push oI).push _).objs.size; simp only [Heap.size_push]; omega))) (Heap.get?_push_of_some _ (Heap.get?_push_of_some _ e))
  generalize hDa : (h.push oI).objs.size = D at *
  generalize hCa : ((h.push oI).push { cls := .type "list", data := .seq ([] : List Value).toArray }).objs.size = Cc at *
  have hDI : h.objs.size ≠ D := by rw [← hDa, Heap.size_push]; omega
  have fin : codeAny (model prg w) A (.compLoop (.ListComp elt [⟨target, iter, ifs, 0⟩] scope pos) 0 (.ref h.objs.size) (.ref D) (compEnvC scope cl Cc env)) (post (.ref D) Cc) (St s h₃ (k + 0)) := by
    refine cLoop (fun q s' => ∃ i g' h' mc nx k oI oD ys, s' = St s h' k ∧ g.StaysIn g' ∧ Cx w g' ((Cc, mc) :: (L, m) :: fr) h' ((h.objs.size, oI) :: (D, oD) :: nx) ∧ (∀ q ∈ nx, q.1 ≠ h.objs.size ∧ q.1 ≠ D) ∧ LsO oD ys.toArray ∧ ys.length ≤ i ∧ S i h' ∧ J i g' ys nx ∧ i ≤ n ∧ q = n - i) ?_ n
      ⟨0, g, h₃, _, news, _, oI, { cls := .type "list", data := .seq ([] : List Value).toArray }, [], rfl, fun _ _ e => e, C₃.drop (fun p hp => ?_), fun q hq => ⟨nI q hq, nD q (.tail _ hq)⟩, ⟨rfl, 0, rfl⟩, Nat.le_refl _, hS, hJ, Nat.zero_le _, rfl⟩
    · rintro q s' ⟨i, g', h', mc, nx, k, oI, oD, ys, rfl, hg, C', hne, hD, hys, hSi, hJi, hi, rfl⟩
      have hcl : ∀ {b : Addr} {mc' : NsM} {h' : Heap} {nx' : List (Addr × Obj)} {g'' : Heap}, Cx w g'' ((Cc, mc') :: (L, m) :: fr) h' nx' → b ∈ fp → g.StaysIn g'' → ∃ o, g''.get? b = some o := fun C'' hb hg'' => by
        obtain ⟨o, e⟩ := hfp _ hb
        exact ⟨o, hg'' _ _ e⟩
      by_cases hlt : i < n
      · refine W.item i _ _ _ hlt hSi fun v h₁ tk₁ hP hS₁ hk₁ => ?_
        obtain ⟨oI₁, hI₁⟩ := hI _ _ hS₁
        refine hgo i v h₁ tk₁ _ _ hS₁ hP ?_
        have C₁' : Cx w g' ((Cc, mc) :: (L, m) :: fr) h₁ ((h.objs.size, oI₁) :: (D, oD) :: nx) := C'.but (UpdF.head (fun q hq => by
          rcases List.mem_cons.mp hq with rfl | hq
          · exact hDI.symm
          · exact (hne q hq).1)) (fun b o hb e => hk₁ b o (fun z => hb (List.mem_singleton.mp z)) e) hI₁
        refine hasg i v g' h₁ mc _ tk₁ Cc _ _ hP hg C₁' fun h₂ k₂ C₂' => ?_
        have hS₂ : S (i + 1) h₂ := W.frame _ _ _ hS₁ fun b hb o e => by
          rcases List.mem_cons.mp hb with rfl | hb
          · rw [hI₁] at e; cases e; exact (C₂'.N _ (.head _)).1
          · obtain ⟨o', e'⟩ := hcl C₂' hb hg
            have := C₁'.keep _ _ e'
            rw [this] at e; cases e
            exact C₂'.keep _ _ e'
        have kept : ∀ {g'' h'' : Heap} {mc' : NsM} {nx' : List (Addr × Obj)} {oD' : Obj}, g'.StaysIn g'' → Cx w g'' ((Cc, mc') :: (L, m) :: fr) h'' ((h.objs.size, oI₁) :: (D, oD') :: nx') → S (i + 1) h'' := fun hg'' C'' => W.frame _ _ _ hS₂ fun b hb o e => by
          rcases List.mem_cons.mp hb with rfl | hb
          · have := (C₂'.N _ (.head _)).1
            rw [this] at e; cases e; exact (C''.N _ (.head _)).1
          · obtain ⟨o', e'⟩ := hcl C₂' hb hg
            have := C₂'.keep _ _ e'
            rw [this] at e; cases e
            exact C''.keep _ _ (hg'' _ _ e')
        refine wpAny_mono (turn i v g' h₂ mc nx k₂ oI₁ oD ys h.objs.size D Cc hlt hP hJi hg C₂' hne hDI) (fun ok s₃ y => ?_) fun _ _ z => z
        cases ok with
        | false =>
          obtain ⟨g'', h'', nx', k', mc', rfl, hg'', C'', hne', hJ'⟩ := y
          exact ⟨n - (i + 1), Nat.sub_succ_lt_self _ _ hlt, i + 1, g'', h'', mc', nx', k', oI₁, oD, ys, rfl, fun b o e => hg'' _ _ (hg _ _ e), C'', hne', hD, Nat.le_succ_of_le hys, kept hg'' C'', hJ', hlt, rfl⟩
        | true =>
          refine wpAny_mono y (fun y s₄ z => ?_) fun _ _ z => z
          obtain ⟨g'', h'', nx', k', mc', rfl, hg'', C'', hne', hJ'⟩ := z
          have hDl := (C''.N _ (.tail _ (.head _))).1
          refine wpAny_list_append (s := St s h'' k') (hD.is hDl) (fun h₅ hl hs => ?_) (by rw [List.size_toArray, sizeLine_eq]; omega)
          obtain ⟨oD', hoD', hl'⟩ := hl
          have C₅ := C''.but (UpdF.tail hDI (UpdF.head fun q hq => (hne' q hq).2)) (fun b o hb e => (hs.2 b hb).trans e) hoD'
          refine ⟨n - (i + 1), Nat.sub_succ_lt_self _ _ hlt, i + 1, g'', h₅, mc', nx', k', oI₁, oD', ys ++ [y], rfl, fun b o e => hg'' _ _ (hg _ _ e), C₅, hne', ?_, ?_, kept hg'' C₅, hJ', hlt, rfl⟩
          · rw [List.push_toArray] at hl'; exact hl'
          · rw [List.length_append]; exact Nat.succ_le_succ hys
      · have hin : i = n := Nat.le_antisymm hi (Nat.not_lt.mp hlt)
        subst hin
        refine W.done _ _ _ hSi fun h₁ tk₁ hk₁ => ?_
        have C₁' : Cx w g' ((Cc, mc) :: (L, m) :: fr) h₁ ((D, oD) :: nx) := (C'.drop (news' := (D, oD) :: nx) fun p hp => .tail _ hp).walked hk₁ (fun p hp z => ?_) (fun q hq z => ?_) fun b hb => ?_
        · exact done g' h₁ D oD nx tk₁ ys mc Cc hg C₁' hD (fun q hq => (hne q hq).2) hJi
        · rw [List.mem_singleton] at z
          exact (C'.N _ (.head _)).2.2 p hp z.symm
        · rw [List.mem_singleton] at z
          rcases List.mem_cons.mp hq with rfl | hq
          · exact hDI z.symm
          · exact (hne q hq).1 z
        · rw [List.mem_singleton.mp hb]; exact (C'.N _ (.head _)).2.1
    · rcases List.mem_cons.mp hp with rfl | hp
      · exact .tail _ (.head _)
      · rcases List.mem_cons.mp hp with rfl | hp
        · exact .head _
        · exact .tail _ (.tail _ hp)
  exact codeAny_compStart_list fin (W.self 0 _ _ _ hS fin)
theorem compI {elt iter target : Expr} {ifs : List Expr} {scope : Scope} {pos : Pos} {cl : List (Str × Addr)} {Q : Value → Shared → Prop} {v₀ : Value} {oI : Obj} {fp : List Addr} {n : Nat} {P : Nat → Value → Prop} {S : Nat → Heap → Prop} {bnd : Nat → Value → NsM → NsM}
    (J : Nat → Heap → List Value → List (Addr × Obj) → Prop) (C : Cx w g ((L, m) :: fr) h news) (hfree : oI.isFreed = false)
    (hit : ∀ k (Q : Value → Shared → Prop) E, Q (.ref h.objs.size) (St s (h.push oI) k) → wpAny (model prg w) A (pyIter v₀) Q E (St s h k))
    (W : Walks prg w A h.objs.size (h.objs.size :: fp) [h.objs.size] n P S) (hfp : ∀ b ∈ fp, ∃ o, g.get? b = some o) (hst : S 0 (h.push oI)) (hI : ∀ i h', S i h' → ∃ o, h'.get? h.objs.size = some o) (hJ : J 0 g [] news)
    (hgo : ∀ i v h' k (Q : Unit → Shared → Prop) E, S (i + 1) h' → P i v → Q () (St s h' k) → wpAny (model prg w) A (letOwnedTupleGo target (.ref h.objs.size) v) Q E (St s h' k))
    (hasg : ∀ i v g' h' mc nx k Cc (Q : Unit → Shared → Prop) E, P i v → g.StaysIn g' → Cx w g' ((Cc, mc) :: (L, m) :: fr) h' nx → (∀ h'' k', Cx w g' ((Cc, bnd i v mc) :: (L, m) :: fr) h'' nx → Q () (St s h'' k')) → wpAny (model prg w) A (assign target (compEnvC scope cl Cc env) v) Q E (St s h' k))
    (turn : ∀ i v g' h' mc nx k oI oD ys I D Cc, i < n → P i v → J i g' ys nx → g.StaysIn g' → Cx w g' ((Cc, bnd i v mc) :: (L, m) :: fr) h' ((I, oI) :: (D, oD) :: nx) → (∀ q ∈ nx, q.1 ≠ I ∧ q.1 ≠ D) → I ≠ D →
      wpAny (model prg w) A (tests (compEnvC scope cl Cc env) ifs) (fun ok s₃ => match ok with
        | true => wpAny (model prg w) A (eval elt (compEnvC scope cl Cc env)) (fun y s' => Ct w s g' Cc L m fr I D oI oD (fun g'' nx' => J (i + 1) g'' (ys ++ [y]) nx') s') No s₃
        | false => Ct w s g' Cc L m fr I D oI oD (fun g'' nx' => J (i + 1) g'' ys nx') s₃) No (St s h' k))
    (done : ∀ g' h' D oD nx k ys, g.StaysIn g' → Cx w g' ((L, m) :: fr) h' ((D, oD) :: nx) → LsO oD ys.toArray → (∀ q ∈ nx, q.1 ≠ D) → J n g' ys nx → Q (.ref D) (St s h' k))
    (hglob : env.globals = mainGlobals := by rfl) (hnc : ∀ x ∈ scope.names, x.2 ≠ .cell := by decide +kernel) (hkind : scope.kind = .function := by rfl) (hn : n ≤ 1000000 := by decide) : CpG w A elt iter target ifs scope pos cl env Q E v₀ (St s h k) :=
  compI0 (post := compPost (model prg w) A E none Q) J C hfree hit W hfp hst hI hJ hgo hasg turn (fun g' h' D oD nx k ys mc Cc hg C₁' hD hne hJ => ⟨mc, C₁'.ns, fun h₂ hs₂ => done g' h₂ D oD nx k ys hg (C₁'.unC hs₂) hD hne hJ⟩) hglob hnc hkind hn
end
end Mine

open PySem PySem.W PySem.Calls PyProof.Rows
set_option Elab.async false
set_option maxRecDepth 100000
set_option maxHeartbeats 1000000
set_option linter.unusedVariables false
namespace Mine
local macro_rules | `(tactic| walk_at "M enter") => `(tactic| ((case k1 => k_is); (case k2 => k_is); (case k3 => exact fun _ => .of_eq rfl); (case k4 => rfl)))
section
variable {κ : Bool} {w : World} {A : Around} {E E₁ : Value → Shared → Prop} {s : Shared} {g h : Heap} {fr : Fs} {L e a : Addr} {m : NsM} {news news' : List (Addr × Obj)} {k n nt : Nat} {env : Env} {rest body : List Stmt} {pos px py pt tp : Pos} {o value test : Expr} {x y : Str} {cn : Str} {cs : Scope} {ccd : Value} {cl : List (Str × Addr)} {P : Addr → Int → Prop}
theorem bxNoted {Q : Flow → Shared → Prop} {v : Value} {s' : Shared} (F : FrE A env ((L, m) :: fr)) (hf : env.frame = some L) (X : Bx w s g L fr news P v s') (hE : ∀ v s', Bx w s g L fr news P v s' → E v s') : Noted (model prg w) A env (Lr (model prg w) A env Q E) v s' := by
  obtain ⟨h', k', e, m', C, c, rfl, rfl, X, p⟩ := X
  exact noteL F.up hf X fun h₁ X₁ => backL hf X₁ fun h₂ X₂ => hE _ _ ⟨h₂, k', e, m', C, c, rfl, rfl, .inr (.inr X₂), p⟩
def Wn (w : World) (s : Shared) (g' : Heap) (L : Addr) (fr : Fs) (J : Heap → NsM → List (Addr × Obj) → Prop) (Q : Flow → Shared → Prop) (f : Flow) (s' : Shared) : Prop := match f with
  | .next | .cont => ∃ g'' h' m' nx' k', s' = St s h' k' ∧ g'.StaysIn g'' ∧ Cx w g'' ((L, m') :: fr) h' nx' ∧ J g'' m' nx'
  | .brk => Q .next s'
  | .ret v => Q (.ret v) s'
theorem wnNext {g' g'' h' : Heap} {m' : NsM} {nx' : List (Addr × Obj)} {k' : Nat} {J : Heap → NsM → List (Addr × Obj) → Prop} {Q : Flow → Shared → Prop} (hg : g'.StaysIn g'') (C : Cx w g'' ((L, m') :: fr) h' nx') (hJ : J g'' m' nx') : Wn w s g' L fr J Q .next (St s h' k') := ⟨g'', h', m', nx', k', rfl, hg, C, hJ⟩
theorem whileG {Q : Flow → Shared → Prop} (J : Nat → Heap → NsM → List (Addr × Obj) → Prop) (C : Cx w g ((L, m) :: fr) h news) (hJ : J n g m news)
    (turn : ∀ n g' h m nx k, g.StaysIn g' → Cx w g' ((L, m) :: fr) h nx → J n g' m nx → wpG κ (model prg w) A (isTrue test env (eval test env)) (fun b s₂ => match b with
      | true => wpG κ (model prg w) A (execs body env) (Wn w s g' L fr (fun g'' m nx => ∃ n', n' < n ∧ J n' g'' m nx) Q) E₁ s₂
      | false => Q .next s₂) E₁ (St s h k))
    (hE : ∀ e s', E₁ e s' → Noted (model prg w) A env (Lr (model prg w) A env Q E) e s') :
    codeG κ (model prg w) A (.whileLoop test body [] env) (Lr (model prg w) A env Q E) (St s h k) := by
  refine cgWhile (fun q s' => ∃ g' h m nx k, s' = St s h k ∧ g.StaysIn g' ∧ Cx w g' ((L, m) :: fr) h nx ∧ J q g' m nx) ?_ n ⟨g, h, m, news, k, rfl, fun _ _ e => e, C, hJ⟩
  rintro q s' ⟨g', h, m, nx, k, rfl, hg, C, hJ⟩
  refine gMono (turn q g' h m nx k hg C hJ) (fun b s₂ y => ?_) hE
  cases b with
  | false => exact y
  | true =>
    refine gMono y (fun f s₃ z => ?_) hE
    have fin : ∀ {g'' h' m' nx' k'}, g'.StaysIn g'' → Cx w g'' ((L, m') :: fr) h' nx' → (∃ n', n' < q ∧ J n' g'' m' nx') → ∃ q', q' < q ∧ ∃ g₃ h m nx k, St s h' k' = St s h k ∧ g.StaysIn g₃ ∧ Cx w g₃ ((L, m) :: fr) h nx ∧ J q' g₃ m nx := fun hg'' C'' hJ'' => by
      obtain ⟨n', hn, hJ''⟩ := hJ''
      exact ⟨n', hn, _, _, _, _, _, rfl, fun b o e => hg'' _ _ (hg _ _ e), C'', hJ''⟩
    cases f with
    | next => obtain ⟨g'', h', m', nx', k', rfl, hg'', C'', hJ''⟩ := z; exact fin hg'' C'' hJ''
    | cont => obtain ⟨g'', h', m', nx', k', rfl, hg'', C'', hJ''⟩ := z; exact fin hg'' C'' hJ''
    | brk => exact z
    | ret v => exact z
theorem gSwap {e1 e2 : Expr} {Q : Flow → Shared → Prop} (hh : A.handled = none)
    (hv : Evs κ (model prg w) A (envX cn cs L a ccd cl) [e1, e2] (fun vs s₁ => ∃ v1 v2 h₁ k₁ m₁ n₁ g₁, vs = [v1, v2] ∧ s₁ = St s h₁ k₁ ∧ Cx w g₁ ((L, m₁) :: fr) h₁ n₁ ∧ ∀ h' k', Cx w g₁ ((L, up (up m₁ y v2) x v1) :: fr) h' n₁ → wpG κ (model prg w) A (execs rest (envX cn cs L a ccd cl)) Q E (St s h' k')) E (St s h k))
    (hs : swapsWithSole [.Tuple [.Name x px, .Name y py] nt pt] (.Tuple [e1, e2] n tp) pos.line (envX cn cs L a ccd cl) = pure false := by rfl) (hw : swappedStores [.Tuple [.Name x px, .Name y py] nt pt] (.Tuple [e1, e2] n tp) (envX cn cs L a ccd cl) = pure (some [x, y]) := by rfl)
    (he : starEach [e1, e2] (envX cn cs L a ccd cl) = [e1, e2].map fun e => (false, eval e (envX cn cs L a ccd cl)) := by rfl) (hk : cs.kind = .function := by rfl) (hx : cs.names.lookup x = some .local := by rfl) (hy : cs.names.lookup y = some .local := by rfl) :
    wpG κ (model prg w) A (execs (.Assign [.Tuple [.Name x px, .Name y py] nt pt] (.Tuple [e1, e2] n tp) pos :: rest) (envX cn cs L a ccd cl)) Q E (St s h k) := by
  refine gSt ?_
  rw [exec_Assign]
  refine gBind (gStand ?_)
  rw [hs]
  refine gBind (gPure ?_)
  simp only [Bool.false_eq_true, if_false]
  refine gBind (gTup (evsMono hv fun vs s₁ z => ?_) he)
  obtain ⟨v1, v2, h₁, k₁, m₁, n₁, g₁, rfl, rfl, C₁, hQ⟩ := z
  refine newT (by decide : 2 ≤ 1000) fun h₂ t hn ho q => ?_
  have C₂ := C₁.on q
  rw [hw]
  refine gBind (gPure ?_)
  show wpG _ _ _ (do rule "assign.swapped-stores"; let items ← unpackItems (.ref t) 2 none; assignInOrder [fun v => bindName (envX cn cs L a ccd cl) y v, fun v => bindName (envX cn cs L a ccd cl) x v] items.reverse; pure Flow.next : Sem Flow) _ _ _
  refine gBind (gOf (wpAny_rule (gBind (gOf (wpAny_unpackItems_tuple (s := St s h₂ k₁) (items := #[v1, v2]) hh ⟨_, ho, rfl, 0, rfl⟩ fun h₃ he₃ => ?_)))))
  have C₃ : Cx w g₁ ((L, m₁) :: fr) h₃ n₁ := C₂.on fun b o e => he₃ b o (Nat.ne_of_lt (Heap.lt_size e)) e
  show wpG _ _ _ (assignInOrder [fun v => bindName (envX cn cs L a ccd cl) y v, fun v => bindName (envX cn cs L a ccd cl) x v] [v2, v1] >>= _) _ _ _
  refine gBind (gOf ?_)
  unfold assignInOrder
  refine wpAny_bind (wpAny_holding (wpAny_bindName (stoX C₃ (fun h₄ k₄ C₄ => ?_) hk hy)))
  unfold assignInOrder
  refine wpAny_bind (wpAny_holding (wpAny_bindName (stoX C₄ (fun h₅ k₅ C₅ => ?_) hk hx)))
  unfold assignInOrder
  exact wpAny_pure (gPure (hQ h₅ k₅ C₅))
def LsD (o : Obj) (its : Array Value) : Prop := LsO o its ∧ o.dict = none
theorem newL {vs : List Value} {Q : Value → Shared → Prop} (hQ : ∀ h' t o, h.get? t = none → h'.get? t = some o → LsD o vs.toArray → h.StaysIn h' → Q (.ref t) (St s h' k)) (hz : vs.length ≤ 1000 := by decide) : wpG κ (model prg w) A (newList vs) Q E (St s h k) := by
  unfold newList
  exact gOf (wpAny_newObj_type (s := St s h k) (hQ _ _ _ (get_size h) (Heap.get?_push_size _ rfl) ⟨⟨rfl, 0, rfl⟩, rfl⟩ (stays_push h _)) (by show vs.toArray.size ≤ sizeLine; rw [List.size_toArray, sizeLine_eq]; omega))
theorem appX {b : Addr} {o : Obj} {its : Array Value} {v : Value} {Q : Value → Shared → Prop} (ho : h.get? b = some o) (hl : LsD o its) (hQ : ∀ h' o', h'.get? b = some o' → LsD o' (its.push v) → But b h h' → Q .none (St s h' k)) (hz : its.size ≤ 1000) : wpAny (model prg w) A (call (.builtin "list.append") [.ref b, v]) Q E (St s h k) := by
  have hl' := hl.1.is ho
  obtain ⟨⟨hc, n, hd⟩, hdn⟩ := hl
  obtain ⟨n', hd'⟩ := Obj.data_mapSeq hd (·.push v)
  refine wpAny_call_entry slot_list_append hl'.typeIs entry_list_append ?_ (args_list_append _ _)
  show wpAny _ _ (updateSeq b (·.push v) >>= fun _ => ret .none) _ _ _
  refine wpAny_bind ?_
  refine wpAny_updateSeq (s := St s h k) ho hd (wpAny_pure ⟨.none, rfl, hQ _ _ (Heap.get?_update_self _ ho (Obj.isFreed_of_seq hd')) ⟨⟨(Obj.cls_mapSeq ..).trans hc, n', hd'⟩, ?_⟩ fun c oc hc e => (Heap.get?_update_other _ _ (Ne.symm hc)).trans e⟩) (by rw [sizeLine_eq]; omega)
  obtain ⟨_, _, dt, _⟩ := o
  simp only at hd
  subst hd
  exact hdn
theorem Cx.unG {g₂ : Heap} {l : Addr} {o : Obj} (C : Cx w g₂ fr h news) (hl : g₂.get? l = some o) (G : Gd w g) (q : g.StaysIn g₂) (hn : g.get? l = none) : Cx w (hideAll g₂ [l]) fr h ((l, o) :: news) ∧ g.StaysIn (hideAll g₂ [l]) := by
  have st : g.StaysIn (hideAll g₂ [l]) := fun b ob e => hideAll_get _ (q b ob e) fun z => by rw [List.mem_singleton.mp z, hn] at e; cases e
  have no : ∀ b, g₂.get? b = none → (hideAll g₂ [l]).get? b = none := fun b e => by
    cases z : (hideAll g₂ [l]).get? b with
    | none => rfl
    | some o' => rw [of_hideAll _ z] at e; cases e
  refine ⟨⟨G.on st, fun b ob e => C.keep b ob (of_hideAll _ e), C.P, fun p hp => ⟨(C.F p hp).1, no _ (C.F p hp).2⟩, fun p hp => ?_⟩, st⟩
  rcases List.mem_cons.mp hp with rfl | hp
  · exact ⟨C.keep _ _ hl, hideAll_none _ (List.mem_singleton.mpr rfl), fun p hp z => by have := (C.F p hp).2; rw [← z, hl] at this; cases this⟩
  · exact ⟨(C.N p hp).1, no _ (C.N p hp).2.1, (C.N p hp).2.2⟩
theorem Cx.inG {l : Addr} {o : Obj} (C : Cx w g fr h ((l, o) :: news)) (hne : ∀ q ∈ news, q.1 ≠ l) : g.StaysIn (reb h fr news) ∧ Cx w (reb h fr news) fr h news ∧ (reb h fr news).get? l = some o :=
  have C' := C.drop (news' := news) fun p hp => .tail _ hp
  ⟨C'.grow, C'.rebase, reb_get (C.N _ (.head _)).1 (fun p hp => (C.N _ (.head _)).2.2 p hp) hne⟩
end
end Mine

open PySem PySem.W PySem.Calls PyProof.Rows
set_option Elab.async false
set_option maxRecDepth 100000
set_option maxHeartbeats 2000000
set_option linter.unusedVariables false
namespace Mine
section
variable {κ : Bool} {w : World} {A : Around} {E : Value → Shared → Prop} {s : Shared} {g h : Heap} {fr : Fs} {L a : Addr} {m : NsM} {news : List (Addr × Obj)} {k n nt : Nat} {env : Env} {px py pos tp : Pos} {x y : Str} {elt iter c : Expr} {scope : Scope} {cl : List (Str × Addr)} {Q : Value → Shared → Prop}
theorem compPr {l : Addr} {qs : Prs} (J : Nat → Heap → List Value → List (Addr × Obj) → Prop) (hh : A.handled = none) (C : Cx w g ((L, m) :: fr) h news) (hl : g.IsList l (prV qs)) (hq : PrOk g qs) (hJ : J 0 g [] news)
    (turn : ∀ i q g' h' mc nx k oI oD ys I D Cc, qs[i]? = some q → J i g' ys nx → g.StaysIn g' → Cx w g' ((Cc, up (up mc x q.2.1) y q.2.2) :: (L, m) :: fr) h' ((I, oI) :: (D, oD) :: nx) → (∀ q ∈ nx, q.1 ≠ I ∧ q.1 ≠ D) → I ≠ D →
      wpG false (model prg w) A (eval elt (compEnvC scope cl Cc env)) (fun y s' => Ct w s g' Cc L m fr I D oI oD (fun g'' nx' => J (i + 1) g'' (ys ++ [y]) nx') s') No (St s h' k))
    (done : ∀ g' h' D oD nx k ys, g.StaysIn g' → Cx w g' ((L, m) :: fr) h' ((D, oD) :: nx) → LsO oD ys.toArray → (∀ q ∈ nx, q.1 ≠ D) → J qs.length g' ys nx → Q (.ref D) (St s h' k))
    (he : ∀ Cc, EnvAt (compEnvC scope cl Cc env) Cc) (hx : ∀ Cc, (compEnvC scope cl Cc env).kindOf x = some .local := by intro _; rfl) (hy : ∀ Cc, (compEnvC scope cl Cc env).kindOf y = some .local := by intro _; rfl)
    (hglob : env.globals = mainGlobals := by rfl) (hnc : ∀ x ∈ scope.names, x.2 ≠ .cell := by decide +kernel) (hkind : scope.kind = .function := by rfl) (hn : qs.length ≤ 1000000) :
    CpG w A elt iter (.Tuple [.Name x px, .Name y py] nt tp) [] scope pos cl env Q E (.ref l) (St s h k) := by
  obtain ⟨ot, hot, hor⟩ := id hl
  have hlh : h.IsList l (prV qs) := hl.at fun o z => C.keep _ _ z
  refine compI (n := (prV qs).size) (bnd := fun i _ m => match qs[i]? with | some q => up (up m x q.2.1) y q.2.2 | none => m) J C rfl (fun k Q E hQ => wpAny_pyIter_list (s := St s h k) hlh hQ) (Walks.list (prog := prg) (w := w) (A := A) hh h.objs.size l (Nat.ne_of_lt (Heap.lt_size (C.keep _ _ hot))) (prV qs))
    (fun b hb => by rw [List.mem_singleton.mp hb]; exact ⟨ot, hot⟩) ⟨⟨_, Heap.get?_push_size _ rfl, rfl, rfl⟩, hlh.at fun o z => Heap.get?_push_of_some _ z⟩ (fun i h' S => let ⟨o, ho, _⟩ := S.1; ⟨o, ho⟩) hJ
    (fun i v h' k Q E S hP hQ => ?_) (fun i v g' h' mc nx k Cc Q E hP hg C hQ => ?_) (fun i v g' h' mc nx k oI oD ys I D Cc _ hP hJ hg C hne hID => ?_) (fun g' h' D oD nx k ys hg C hD hne hJ => done g' h' D oD nx k ys hg C hD hne ?_) hglob hnc hkind ?_
  · obtain ⟨q, _, rfl⟩ := prAt hP
    exact wpAny_letOwnedTupleGo_listiter (s := St s h' k) S.1 hQ
  · obtain ⟨q, e, rfl⟩ := prAt hP
    simp only [e] at hQ
    exact asgTe hh C (he Cc) ((hq i q e).at fun _ z => C.keep _ _ (hg _ _ z)) hQ (hx Cc) (hy Cc)
  · obtain ⟨q, e, rfl⟩ := prAt hP
    simp only [e] at C
    exact wpAny_tests_nil (gAny (turn i q g' h' mc nx k oI oD ys I D Cc e hJ hg C hne hID))
  · rw [List.size_toArray, List.length_map] at hJ; exact hJ
  · rw [List.size_toArray, List.length_map]; exact hn
theorem compRng0 {post : Value → Addr → Result → Shared → Prop} {i₀ j st : Int} {r : Addr} {ta tb tc : Tok} (J : Nat → Heap → List Value → List (Addr × Obj) → Prop) (hh : A.handled = none) (C : Cx w g ((L, m) :: fr) h news) (hr : IsRange h r i₀ j st ta tb tc) (hsm : Builtin.Range.small i₀ j st = true) (hn : Builtin.Range.rangeSize i₀ j st = n) (hJ : J 0 g [] news)
    (turn : ∀ i t g' h' mc nx k oI oD ys I D Cc, i < n → J i g' ys nx → g.StaysIn g' → Cx w g' ((Cc, up mc x (.int (i₀ + i * st) t)) :: (L, m) :: fr) h' ((I, oI) :: (D, oD) :: nx) → (∀ q ∈ nx, q.1 ≠ I ∧ q.1 ≠ D) → I ≠ D →
      wpG false (model prg w) A (eval elt (compEnvC scope cl Cc env)) (fun y s' => Ct w s g' Cc L m fr I D oI oD (fun g'' nx' => J (i + 1) g'' (ys ++ [y]) nx') s') No (St s h' k))
    (done : ∀ g' h' D oD nx k ys mc Cc, g.StaysIn g' → Cx w g' ((Cc, mc) :: (L, m) :: fr) h' ((D, oD) :: nx) → LsO oD ys.toArray → (∀ q ∈ nx, q.1 ≠ D) → J n g' ys nx → post (.ref D) Cc (.ok .next) (St s h' k))
    (he : ∀ Cc, EnvAt (compEnvC scope cl Cc env) Cc) (hx : ∀ Cc, (compEnvC scope cl Cc env).kindOf x = some .local := by intro _; rfl)
    (hglob : env.globals = mainGlobals := by rfl) (hnc : ∀ x ∈ scope.names, x.2 ≠ .cell := by decide +kernel) (hkind : scope.kind = .function := by rfl) (hnn : n ≤ 1000000) :
    CpP w A elt iter (.Name x px) [] scope pos cl env post E (.ref r) (St s h k) := by
  refine compI0 (n := n) (fp := []) (bnd := fun _ v m => up m x v) J C rfl (fun k Q E hQ => wpAny_pyIter_range (s := St s h k) hr hsm hQ) (Walks.range (prog := prg) (w := w) (A := A) hh h.objs.size i₀ st n) (fun b hb => nomatch hb) ?_ (fun i h' S => ⟨_, S⟩) hJ
    (fun i v h' k Q E S hP hQ => wpAny_of_eq rfl hQ) (fun i v g' h' mc nx k Cc Q E hP hg C hQ => wpAny_assign_Name (stoXe C (he Cc) hQ (hx Cc))) (fun i v g' h' mc nx k oI oD ys I D Cc hi hP hJ hg C hne hID => ?_) done hglob hnc hkind hnn
  · show (h.push _).get? h.objs.size = _
    rw [hn, show i₀ + ((0 : Nat) : Int) * st = i₀ by rw [Int.natCast_zero, Int.zero_mul, Int.add_zero], show ((n : Nat) : Int) - ((0 : Nat) : Int) = n from Int.sub_zero _]
    exact Heap.get?_push_size _ rfl
  · obtain ⟨t, rfl⟩ := hP
    exact wpAny_tests_nil (gAny (turn i t g' h' mc nx k oI oD ys I D Cc hi hJ hg C hne hID))
theorem compRng {i₀ j st : Int} {r : Addr} {ta tb tc : Tok} (J : Nat → Heap → List Value → List (Addr × Obj) → Prop) (hh : A.handled = none) (C : Cx w g ((L, m) :: fr) h news) (hr : IsRange h r i₀ j st ta tb tc) (hsm : Builtin.Range.small i₀ j st = true) (hn : Builtin.Range.rangeSize i₀ j st = n) (hJ : J 0 g [] news)
    (turn : ∀ i t g' h' mc nx k oI oD ys I D Cc, i < n → J i g' ys nx → g.StaysIn g' → Cx w g' ((Cc, up mc x (.int (i₀ + i * st) t)) :: (L, m) :: fr) h' ((I, oI) :: (D, oD) :: nx) → (∀ q ∈ nx, q.1 ≠ I ∧ q.1 ≠ D) → I ≠ D →
      wpG false (model prg w) A (eval elt (compEnvC scope cl Cc env)) (fun y s' => Ct w s g' Cc L m fr I D oI oD (fun g'' nx' => J (i + 1) g'' (ys ++ [y]) nx') s') No (St s h' k))
    (done : ∀ g' h' D oD nx k ys, g.StaysIn g' → Cx w g' ((L, m) :: fr) h' ((D, oD) :: nx) → LsO oD ys.toArray → (∀ q ∈ nx, q.1 ≠ D) → J n g' ys nx → Q (.ref D) (St s h' k))
    (he : ∀ Cc, EnvAt (compEnvC scope cl Cc env) Cc) (hx : ∀ Cc, (compEnvC scope cl Cc env).kindOf x = some .local := by intro _; rfl)
    (hglob : env.globals = mainGlobals := by rfl) (hnc : ∀ x ∈ scope.names, x.2 ≠ .cell := by decide +kernel) (hkind : scope.kind = .function := by rfl) (hnn : n ≤ 1000000) :
    CpG w A elt iter (.Name x px) [] scope pos cl env Q E (.ref r) (St s h k) := by
  refine compI (n := n) (fp := []) (bnd := fun _ v m => up m x v) J C rfl (fun k Q E hQ => wpAny_pyIter_range (s := St s h k) hr hsm hQ) (Walks.range (prog := prg) (w := w) (A := A) hh h.objs.size i₀ st n) (fun b hb => nomatch hb) ?_ (fun i h' S => ⟨_, S⟩) hJ
    (fun i v h' k Q E S hP hQ => wpAny_of_eq rfl hQ) (fun i v g' h' mc nx k Cc Q E hP hg C hQ => wpAny_assign_Name (stoXe C (he Cc) hQ (hx Cc))) (fun i v g' h' mc nx k oI oD ys I D Cc hi hP hJ hg C hne hID => ?_) done hglob hnc hkind hnn
  · show (h.push _).get? h.objs.size = _
    rw [hn, show i₀ + ((0 : Nat) : Int) * st = i₀ by rw [Int.natCast_zero, Int.zero_mul, Int.add_zero], show ((n : Nat) : Int) - ((0 : Nat) : Int) = n from Int.sub_zero _]
    exact Heap.get?_push_size _ rfl
  · obtain ⟨t, rfl⟩ := hP
    exact wpAny_tests_nil (gAny (turn i t g' h' mc nx k oI oD ys I D Cc hi hJ hg C hne hID))
theorem compLs {l : Addr} {its : Array Value} {ifs : List Expr} (J : Nat → Heap → List Value → List (Addr × Obj) → Prop) (hh : A.handled = none) (C : Cx w g ((L, m) :: fr) h news) (hl : g.IsList l its) (hJ : J 0 g [] news)
    (turn : ∀ i v g' h' mc nx k oI oD ys I D Cc, its[i]? = some v → J i g' ys nx → g.StaysIn g' → Cx w g' ((Cc, up mc x v) :: (L, m) :: fr) h' ((I, oI) :: (D, oD) :: nx) → (∀ q ∈ nx, q.1 ≠ I ∧ q.1 ≠ D) → I ≠ D →
      wpAny (model prg w) A (tests (compEnvC scope cl Cc env) ifs) (fun ok s₃ => match ok with
        | true => wpAny (model prg w) A (eval elt (compEnvC scope cl Cc env)) (fun y s' => Ct w s g' Cc L m fr I D oI oD (fun g'' nx' => J (i + 1) g'' (ys ++ [y]) nx') s') No s₃
        | false => Ct w s g' Cc L m fr I D oI oD (fun g'' nx' => J (i + 1) g'' ys nx') s₃) No (St s h' k))
    (done : ∀ g' h' D oD nx k ys, g.StaysIn g' → Cx w g' ((L, m) :: fr) h' ((D, oD) :: nx) → LsO oD ys.toArray → (∀ q ∈ nx, q.1 ≠ D) → J its.size g' ys nx → Q (.ref D) (St s h' k))
    (he : ∀ Cc, EnvAt (compEnvC scope cl Cc env) Cc) (hx : ∀ Cc, (compEnvC scope cl Cc env).kindOf x = some .local := by intro _; rfl)
    (hglob : env.globals = mainGlobals := by rfl) (hnc : ∀ x ∈ scope.names, x.2 ≠ .cell := by decide +kernel) (hkind : scope.kind = .function := by rfl) (hn : its.size ≤ 1000000) :
    CpG w A elt iter (.Name x px) ifs scope pos cl env Q E (.ref l) (St s h k) := by
  obtain ⟨ot, hot, hor⟩ := id hl
  have hlh : h.IsList l its := hl.at fun o z => C.keep _ _ z
  exact compI (n := its.size) (bnd := fun _ v m => up m x v) J C rfl (fun k Q E hQ => wpAny_pyIter_list (s := St s h k) hlh hQ) (Walks.list (prog := prg) (w := w) (A := A) hh h.objs.size l (Nat.ne_of_lt (Heap.lt_size (C.keep _ _ hot))) its)
    (fun b hb => by rw [List.mem_singleton.mp hb]; exact ⟨ot, hot⟩) ⟨⟨_, Heap.get?_push_size _ rfl, rfl, rfl⟩, hlh.at fun o z => Heap.get?_push_of_some _ z⟩ (fun i h' S => let ⟨o, ho, _⟩ := S.1; ⟨o, ho⟩) hJ
    (fun i v h' k Q E S hP hQ => wpAny_of_eq rfl hQ) (fun i v g' h' mc nx k Cc Q E hP hg C hQ => wpAny_assign_Name (stoXe C (he Cc) hQ (hx Cc))) (fun i v g' h' mc nx k oI oD ys I D Cc _ hP hJ hg C hne hID => turn i v g' h' mc nx k oI oD ys I D Cc hP hJ hg C hne hID) done hglob hnc hkind hn
theorem gAsgComp {elt iter target : Expr} {ifs : List Expr} {scope : Scope} {cpos : Pos} {cl : List (Str × Addr)} {cn : Str} {cs : Scope} {ccd : Value} {cl' : List (Str × Addr)} {rest : List Stmt} {y : Str} {Q : Flow → Shared → Prop}
    (h : wpG false (model prg w) A (eval iter (envX cn cs L a ccd cl')) (CpP w A elt iter target ifs scope cpos cl (envX cn cs L a ccd cl') (compPost (model prg w) A E (some (assign (.Name y py) (envX cn cs L a ccd cl'))) fun _ s' => wpG κ (model prg w) A (execs rest (envX cn cs L a ccd cl')) Q E s') E) E s)
    (hclos : closureFor scope (envX cn cs L a ccd cl') = pure cl) (hsw : swapsWith (.ListComp elt [⟨target, iter, ifs, 0⟩] scope cpos) (some (.Name y py)) pos.line (envX cn cs L a ccd cl') = pure true := by rfl) (hkind : scope.kind = .function := by rfl) (hnames : ∀ x ∈ scope.names, x.2 = .local → scope.names.lookup x.1 = some .local := by decide +kernel) (hs : ∀ x, foldedSetIterable iter (envX cn cs L a ccd cl') x = pure x := by intro _; rfl) :
    wpG κ (model prg w) A (execs (.Assign [.Name y py] (.ListComp elt [⟨target, iter, ifs, 0⟩] scope cpos) pos :: rest) (envX cn cs L a ccd cl')) Q E s := by
  refine gSt ?_
  rw [exec_Assign_Name_used _ _ _ _ hsw]
  refine gBind (gStand (gBind ?_))
  show wpG _ _ _ (do let _ ← comprehension (.ListComp elt [⟨target, iter, ifs, 0⟩] scope cpos) scope (envX cn cs L a ccd cl') _ (newList []) false (eval iter (envX cn cs L a ccd cl')) (some (assign (.Name y py) (envX cn cs L a ccd cl')))) _ _ s
  refine gBind (gMono (gOf (wpAny_comprehension_free (use := some _) (Q := fun _ s' => wpG κ (model prg w) A (execs rest (envX cn cs L a ccd cl')) Q E s') rfl hs hclos hkind hnames (gAny h))) (fun _ s' hq => gPure (gPure hq)) fun _ _ e => e)
theorem compUse {h₁ : Heap} {D Cc : Addr} {oD : Obj} {mc : NsM} {nx : List (Addr × Obj)} {y : Str} {cn : Str} {cs : Scope} {ccd : Value} {cl' : List (Str × Addr)} {Q : Value → Shared → Prop} (C : Cx w g ((Cc, mc) :: (L, m) :: fr) h₁ ((D, oD) :: nx))
    (hQ : ∀ h' k', Cx w g ((L, up m y (.ref D)) :: fr) h' ((D, oD) :: nx) → Q .none (St s h' k')) (hk : cs.kind = .function := by rfl) (hy : cs.names.lookup y = some .local := by rfl) :
    compPost (model prg w) A E (some (assign (.Name y py) (envX cn cs L a ccd cl'))) Q (.ref D) Cc (.ok .next) (St s h₁ k) :=
  wpAny_assign_Name (stoX C.swp (fun h₂ k₂ C₂ => ⟨mc, C₂.swp.ns, fun h₃ hs₃ => hQ h₃ k₂ (C₂.swp.unC hs₃)⟩) hk hy)
end
end Mine

open PySem PySem.W PySem.Calls PyProof.Rows
set_option Elab.async false
set_option maxRecDepth 100000
set_option maxHeartbeats 2000000
set_option linter.unusedVariables false
namespace Mine
local macro_rules | `(tactic| walk_at "M enter") => `(tactic| ((case k1 => k_is); (case k2 => k_is); (case k3 => exact fun _ => .of_eq rfl); (case k4 => rfl)))
def readSf (p : List UInt8) : Nat → Nat → List (Nat × Nat) → Except Nat (List (Nat × Nat))
  | 0, _, acc => .ok acc
  | f + 1, i, acc => if i < p.length then match getV p i with
      | none => .error 262
      | some (n, j) => match getV p j with
        | none => .error 262
        | some (v, j2) => if [2, 3, 4, 5].contains n || (acc.map (·.1)).contains n then .error 265 else readSf p f j2 (acc ++ [(n, v)])
    else .ok acc
def readS (p : List UInt8) : Except Nat (List (Nat × Nat)) := readSf p (p.length + 1) 0 []
theorem getV_lt {p : List UInt8} {i n j : Nat} (h : getV p i = some (n, j)) : i < j := by
  unfold getV at h
  split at h
  · obtain ⟨a, ha, e⟩ := Option.map_eq_some_iff.mp h
    cases e
    have : 1 ≤ zAt p i := Nat.one_le_two_pow
    omega
  · cases h
theorem IntP.snoc {qs : Prs} {ps : List (Nat × Nat)} {t : Addr} {n v : Nat} {a b : Tok} (h : IntP qs ps) : IntP (qs ++ [(t, .int n a, .int v b)]) (ps ++ [(n, v)]) := by
  refine ⟨by rw [List.length_append, List.length_append, h.1]; rfl, fun i q e => ?_⟩
  by_cases hi : i < qs.length
  · rw [List.getElem?_append_left hi] at e
    obtain ⟨p, c, d, e1, e2⟩ := h.2 i q e
    exact ⟨p, c, d, by rw [List.getElem?_append_left (by rw [← h.1]; exact hi)]; exact e1, e2⟩
  · rw [List.getElem?_append_right (Nat.le_of_not_lt hi)] at e
    have := (List.getElem?_eq_some_iff.mp e).1
    rw [List.length_singleton] at this
    have i0 : i - qs.length = 0 := by omega
    rw [i0] at e
    cases e
    exact ⟨(n, v), a, b, by rw [List.getElem?_append_right (by rw [← h.1]; exact Nat.le_of_not_lt hi), ← h.1, i0]; rfl, rfl⟩
theorem PrOk.snoc {g : Heap} {qs : Prs} {q : Addr × Value × Value} (h : PrOk g qs) (hq : g.IsTuple q.1 #[q.2.1, q.2.2]) : PrOk g (qs ++ [q]) := fun i p e => by
  by_cases hi : i < qs.length
  · rw [List.getElem?_append_left hi] at e; exact h i p e
  · rw [List.getElem?_append_right (Nat.le_of_not_lt hi)] at e
    have := (List.getElem?_eq_some_iff.mp e).1
    rw [List.length_singleton] at this
    rw [show i - qs.length = 0 by omega] at e
    cases e
    exact hq
theorem IntP.ints : ∀ {qs : Prs} {ps : List (Nat × Nat)}, IntP qs ps → IntsAre (qs.map (·.2.1)) (ps.map fun p => (p.1 : Int))
  | [], [], _ => .nil
  | [], p :: ps, h => by cases h.1
  | q :: qs, [], h => by cases h.1
  | q :: qs, p :: ps, h => by
    obtain ⟨p', a, b, e, e2⟩ := h.2 0 q rfl
    cases e
    have ih : IntP qs ps := ⟨Nat.succ.inj h.1, fun i q e => h.2 (i + 1) q e⟩
    rw [List.map_cons, List.map_cons, e2]
    exact .cons _ _ ih.ints
theorem any_nat (l : List Nat) (n : Nat) : (l.map fun (p : Nat) => (p : Int)).any (· == (n : Int)) = l.contains n := by
  induction l with
  | nil => rfl
  | cons a l ih =>
    rw [List.map_cons, List.any_cons, ih, List.contains_cons]
    congr 1
    by_cases q : a = n
    · subst q; rw [beq_self_eq_true, beq_self_eq_true]
    · have : ¬ ((a : Int) = n) := fun z => q (Int.ofNat.inj z)
      rw [beq_eq_false_iff_ne.mpr this, beq_eq_false_iff_ne.mpr (Ne.symm q)]
section
variable {κ : Bool} {w : World} {A : Around} {E : Value → Shared → Prop} {s : Shared} {g h : Heap} {fr : Fs} {L e a : Addr} {m : NsM} {news news' : List (Addr × Obj)} {k n nt : Nat} {env : Env}
theorem lsTest {A : Around} {env : Env} {l r : Expr} {pos : Pos} {i j : Int} {τ σ : Tok → Tok} (hl : PEv w A env s h l fun t => .int i (τ t)) (hr : PEv w A env s h r fun t => .int j (σ t)) (hb : behindInMarks .Lt r = false) : PTs w A env s h (.Compare l [.Lt] [r] pos) (decide (i < j)) := tLt hl hr hb
theorem settings_r {p : List UInt8} {tp : Tok} {Q : Value → Shared → Prop} (hR : Rm A 8) (F : FrA A fr) (C : Cx w g fr h news) (hp : p.length ≤ 500)
    (ret : ∀ ps, readS p = .ok ps → ∀ g' h' k' v, g.StaysIn g' → Cx w g' fr h' news → Sett g' v ps → Q v (St s h' k')) (exc : ∀ e : Nat, readS p = .error e → ∀ v s', Fx w s g fr news (H3 e) v s' → E v s') :
    wpG κ (model prg w) A (call (.ref 149) [.bytes p.toArray tp]) Q E (St s h k) := by
  refine' enterE (binds := [("payload", .bytes p.toArray tp)]) F C hR.lt ?k1 ?k2 ?k3 ?k4 (fun C c => ∃ e : Nat, readS p = .error e ∧ H3 e C c) (fun v s' X => ?_) fun L h₁ k₁ C₁ F₁ => ?_
  walk_at "M enter"
  · obtain ⟨h', k', e, C, c, rfl, rfl, X, e', q1, q2⟩ := X
    exact exc e' q1 _ _ ⟨h', k', e, C, c, rfl, rfl, X, q2⟩
  refine gSwap hR.hh (gLst (es := []) (newL fun h₂ l ol hn ho hl q => gP cI fun t₂ k₂ => ⟨_, _, _, _, _, _, _, rfl, rfl, C₁.add q ho hn, fun h₃ k₃ C₃ => ?_⟩) (by rfl))
  have hne := C₁.nes hn
  have hgl := C₁.no hn
  refine gWhile (whileG (n := p.length + 1) (E₁ := Bx w s g L fr news fun C c => ∃ e : Nat, readS p = .error e ∧ H3 e C c)
    (fun n g' m nx => ∃ acc qs i oL, nx = (l, oL) :: news ∧ LsD oL (prV qs) ∧ PrOk g' qs ∧ IntP qs acc ∧ (m "found" = some (.ref l) ∧ m "payload" = some (.bytes p.toArray tp) ∧ ∃ t, m "at" = some (.int (i : Nat) t)) ∧ readSf p n i acc = readS p ∧ p.length + 1 ≤ i + n ∧ acc.length ≤ i)
    C₃ ⟨[], [], 0, ol, rfl, hl, (fun i q e => by cases e), ⟨rfl, fun i q e => by cases e⟩, ⟨rfl, rfl, _, rfl⟩, rfl, by omega, Nat.le_refl _⟩ (fun n g' h₄ m nx k₄ hg C₄ hJ => ?_) fun v s' X => bxNoted F₁ rfl X fun _ _ y => y)
  obtain ⟨acc, qs, i, oL, rfl, hL, hqs, hiP, ⟨hm1, hm2, ta, hm3⟩, hres, hfuel, hacc⟩ := hJ
  refine gT (tLt (nmL C₄ (hv := by exact hm3)) (pLenY (nmB (v := .builtin "len") C₄ (by rfl) (by k_is) (by rfl) (by decide)) (nmL C₄ (hv := by exact hm2)) (by rw [List.size_toArray]; omega))) fun k₅ => ?_
  by_cases hi : i < p.length
  · rw [decide_eq_true (show (i : Int) < (p.toArray.size : Nat) by rw [List.size_toArray]; omega)]
    have hn0 : ∃ n', n = n' + 1 := ⟨n - 1, by omega⟩
    obtain ⟨n', rfl⟩ := hn0
    have hcs : ∀ e : Nat, readSf p (n' + 1) i acc = .error e → readS p = .error e := fun e q => hres ▸ q
    unfold readSf at hres hcs
    rw [if_pos hi] at hres
    rw [if_pos hi] at hcs
    refine gAsgTup (callF C₄ (by rfl) (by k_is) (by k_is) fun k₆ => gP (nmL C₄ (hv := by exact hm2)) fun _ k₇ => gP (nmL C₄ (hv := by exact hm3)) fun _ k₈ => ⟨C₄.keep, wholev_r hR.in F₁.aa C₄ (by omega) (fun n j hnj g₅ h₅ k₅ t tn tj hg₅ C₅ ht₅ => ?_) fun hno v s' X => ?_⟩)
    case refine_2 =>
      rw [hno] at hcs
      exact ((X.bx.less C₁.G hg).drop fun p hp => .tail _ hp).mono fun C c q => ⟨262, hcs 262 rfl, q⟩
    rw [hnj] at hres hcs
    dsimp only at hres hcs
    have q1 := getV_lt hnj
    refine asgT (by exact hR.hh) C₅ (ht₅.at fun _ z => C₅.keep _ _ z) fun h₆ k₆ C₆ => ?_
    refine gAsgTup (callF C₆ (by rfl) (by k_is) (by k_is) fun k₆ => gP (nmL C₆ (hv := by exact hm2)) fun _ k₇ => gP (nmL C₆) fun _ k₈ => ⟨C₆.keep, wholev_r hR.in F₁.aa C₆ (by omega) (fun n2 j2 hnj2 g₇ h₇ k₇ t2 tn2 tj2 hg₇ C₇ ht₇ => ?_) fun hno v s' X => ?_⟩)
    case refine_2 =>
      rw [hno] at hcs
      exact ((X.bx.less C₁.G fun b o e => hg₅ _ _ (hg _ _ e)).drop fun p hp => .tail _ hp).mono fun C c q => ⟨262, hcs 262 rfl, q⟩
    rw [hnj2] at hres hcs
    dsimp only at hres hcs
    have q2 := getV_lt hnj2
    refine asgT (by exact hR.hh) C₇ (ht₇.at fun _ z => C₇.keep _ _ z) fun h₈ k₈ C₈ => ?_
    have hgg : g.StaysIn g₇ := fun b o e => hg₇ _ _ (hg₅ _ _ (hg _ _ e))
    have hqs₇ := (hqs.keeps hg₅).keeps hg₇
    have raise : ([2, 3, 4, 5].contains n || (acc.map (·.1)).contains n) = true → readS p = .error 265 := fun q => hcs 265 (by rw [if_pos q])
    refine gIf (gOf (wpAny_isTrue_BoolOp (wpAny_allTrue_Or_cons ?_)))
    refine tCmp (nmL C₈) (nmK C₈ (by rfl) (by k_is)) (fun t u k Q E hQ => in_tuple_ints (s := St s h₈ k) ⟨_, C₈.gd.X 116 _ (by k_is), rfl, 0, rfl⟩ (.cons 2 _ (.cons 3 _ (.cons 4 _ (.cons 5 _ .nil)))) (hQ k)) (by rfl) k₈ _ _ _ fun k₉ => ?_
    have e0 : ([2, 3, 4, 5] : List Int).any (· == (n : Int)) = [2, 3, 4, 5].contains n := any_nat [2, 3, 4, 5] n
    have bx : ∀ {g' : Heap} {v : Value} {s' : Shared}, g₇.StaysIn g' → Bx w s g' L fr ((l, oL) :: news) (H3 265) v s' → ([2, 3, 4, 5].contains n || (acc.map (·.1)).contains n) = true → Bx w s g L fr news (fun C c => ∃ e : Nat, readS p = .error e ∧ H3 e C c) v s' := fun hg' X q =>
      ((X.less C₁.G fun b o e => hg' _ _ (hgg _ _ e)).drop fun p hp => .tail _ hp).mono fun C c z => ⟨265, raise q, z⟩
    rw [e0]
    by_cases hb : [2, 3, 4, 5].contains n = true
    · rw [if_pos hb]
      exact gMono (raiseH3 (c := 265) C₈ (hR.in.le (by decide)) (by k_is) (by decide) (by decide) ⟨rfl, rfl⟩) (fun _ _ z => z) fun v s' X => bx (fun _ _ e => e) X (by rw [hb]; rfl)
    rw [if_neg hb]
    obtain ⟨z1, z2, z3⟩ := C₈.inG hne
    refine wpAny_allTrue_Or_cons (wpAny_isTrue_Compare1 (gAny (gP (nmL C₈) fun t₁ k₁ => gAny (gComp ?_ (by rfl)))) rfl)
    refine gP (nmL z2 (hv := by exact hm1)) fun _ k₂ => compPr (fun i g' ys nx => nx = news ∧ ys = (qs.take i).map (·.2.1)) hR.hh z2 (hL.1.is z3) (hqs₇.keeps z1) ⟨rfl, rfl⟩ (fun i q g' h' mc nx k oI oD ys I D Cc e hJ hg C hne' hID => ?_) (fun g₉ h₉ D oD nx k₃ ys hg₉ C₉ hD hneD hJ => ?_) (fun Cc => ⟨rfl, rfl, rfl, rfl⟩) (hn := ?_)
    · refine gP (nmLe C ⟨rfl, rfl, rfl, rfl⟩) fun _ k' => ⟨g', h', nx, k', _, rfl, fun _ _ e => e, C, hne', hJ.1, ?_⟩
      rw [hJ.2, List.take_add_one, e, List.map_append]; rfl
    · obtain ⟨rfl, rfl⟩ := hJ
      rw [List.take_length] at hD
      refine in_list_ints (s := St s h₉ k₃) (hD.is (C₉.N _ (.head _)).1) hiP.ints (wpAny_truthy_bool ?_)
      have e1 := any_nat (acc.map (·.1)) n
      rw [List.map_map] at e1
      rw [show (acc.map fun p => (p.1 : Int)).any (· == (n : Int)) = (acc.map (·.1)).contains n from e1]
      obtain ⟨C₁₀, st⟩ := (C₉.drop (news' := nx) fun p hp => .tail _ hp).unG (hg₉ _ _ z3) C₈.G (fun b o e => hg₉ _ _ (z1 _ _ e)) (C₈.N _ (.head _)).2.1
      by_cases hc : (acc.map (·.1)).contains n = true
      · rw [if_pos hc]
        exact gMono (raiseH3 (c := 265) C₁₀ (hR.in.le (by decide)) (by k_is) (by decide) (by decide) ⟨rfl, rfl⟩) (fun _ _ z => z) fun v s' X => bx st X (by rw [hc, Bool.or_true])
      rw [if_neg hc]
      refine wpAny_allTrue_Or_nil ?_
      refine gNil ?_
      show wpG _ _ _ (execs _ _) _ _ _
      have hok : readSf p n' j2 (acc ++ [(n, n2)]) = readS p := by rw [← hres, if_neg (by rw [Bool.not_eq_true] at hb hc; rw [hb, hc]; decide)]
      have hl₁₀ := (C₁₀.N _ (.head _)).1
      refine gExpr (gMeth (gP (nmL C₁₀ (hv := by exact hm1)) fun _ k₄ => getMethod_builtin (s := St s h₉ k₄) (hL.1.is hl₁₀).typeIs PySem.F.plainAttrs_list PySem.F.slot_list_append PySem.F.type_list_append (fun a e => by cases e; exact ⟨_, hl₁₀, hL.2⟩) ?_) (by rfl))
      refine gCall (gTup (gP (nmL C₁₀) fun _ k₅ => gP (nmL C₁₀) fun _ k₆ => newT (by decide : 2 ≤ 1000) fun h₁₁ t hnt ho q => ?_) (by rfl)) (by rfl)
      obtain ⟨y1, C₁₁, y3⟩ := C₁₀.toG hnt ho q
      refine ⟨kpB, gOf (appX (C₁₁.N _ (.head _)).1 hL (fun h' o' ho' hL' hbut => gNil ?_) ?_)⟩
      · refine wnNext (fun b o e => y1 _ _ (st _ _ (hg₇ _ _ (hg₅ _ _ e)))) (C₁₁.but (UpdF.head hne) hbut ho') ⟨n', Nat.lt_succ_self _, acc ++ [(n, n2)], qs ++ [(t, .int n tn, .int n2 tn2)], j2, o', rfl, ?_, ((hqs₇.keeps st).keeps y1).snoc ⟨_, y3, rfl, 0, rfl⟩, hiP.snoc, ⟨hm1, hm2, _, rfl⟩, hok, by omega, ?_⟩
        · rw [show prV (qs ++ [(t, .int n tn, .int n2 tn2)]) = (prV qs).push (.ref t) by unfold prV; rw [List.map_append, List.push_toArray]; rfl]
          exact hL'
        · rw [List.length_append, List.length_singleton]; omega
      · rw [List.size_toArray, List.length_map, hiP.1]; omega
    · rw [hiP.1]; omega
  · rw [decide_eq_false (show ¬ (i : Int) < (p.toArray.size : Nat) by rw [List.size_toArray]; omega)]
    have hr : readS p = .ok acc := by
      rw [← hres]
      cases n with
      | zero => rfl
      | succ n => exact if_neg hi
    obtain ⟨z1, z2, z3⟩ := C₄.pop.inG hne
    exact retP (nmL C₄ (hv := by exact hm1)) fun _ k' => ret acc hr _ _ k' _ (fun b o e => z1 _ _ (hg _ _ e)) z2 ⟨l, qs, rfl, hL.1.is z3, hqs.keeps z1, hiP⟩
end
end Mine

open PySem PySem.W PySem.Calls PyProof.Rows
set_option Elab.async false
set_option maxRecDepth 100000
set_option maxHeartbeats 2000000
set_option linter.unusedVariables false
namespace Mine
local macro_rules | `(tactic| walk_at "M enter") => `(tactic| ((case k1 => k_is); (case k2 => k_is); (case k3 => exact fun _ => .of_eq rfl); (case k4 => rfl)))
def readI (i : Nat) (p : List UInt8) : Except Nat Frm := match getV p 0 with
  | none => .error 262
  | some (n, j) => if j = p.length then .ok (.id i n) else .error 262
def readP (kd : Nat) (p : List UInt8) : Except Nat Frm :=
  if [2, 6, 8, 9].contains kd then .error 261 else if kd = 0 then .ok (.pl false p) else if kd = 1 then .ok (.pl true p)
  else if kd = 4 then (readS p).map .st
  else if kd = 5 then (match getV p 0 with | none => .error 262 | some (n, j) => .ok (.pp n (p.drop j)))
  else if kd = 3 then readI 0 p else if kd = 7 then readI 1 p else if kd = 13 then readI 2 p else .ok (.un kd p)
abbrev Ans {α : Type} (r : Except Nat α) : Addr → Int → Prop := fun C c => ∃ e : Nat, r = .error e ∧ H3 e C c
section
variable {κ : Bool} {w : World} {A : Around} {E : Value → Shared → Prop} {s : Shared} {g h : Heap} {fr : Fs} {L e a : Addr} {m : NsM} {news news' : List (Addr × Obj)} {k n nt : Nat} {env : Env}
theorem Fx.ans {α : Type} {r : Except Nat α} {v : Value} {s' : Shared} (exc : ∀ e : Nat, r = .error e → ∀ v s', Fx w s g fr news (H3 e) v s' → E v s') (X : Fx w s g fr news (Ans r) v s') : E v s' := by
  obtain ⟨h', k', e, C, c, rfl, rfl, X, e', q1, q2⟩ := X
  exact exc e' q1 _ _ ⟨h', k', e, C, c, rfl, rfl, X, q2⟩
theorem Fx.back {α : Type} {r : Except Nat α} {v : Value} {s' : Shared} {c : Nat} {g' : Heap} (X : Fx w s g' ((L, m) :: fr) news' (H3 c) v s') (hr : r = .error c) (G : Gd w g) (q : g.StaysIn g') (hs : ∀ p ∈ news, p ∈ news') : Bx w s g L fr news (Ans r) v s' :=
  ((X.bx.less G q).drop hs).mono fun C c q => ⟨_, hr, q⟩
theorem retT {es : List Expr} {env : Env} {Q : Flow → Shared → Prop} {rest : List Stmt} {nt : Nat} {tp pos : Pos} (hv : Evs κ (model prg w) A env es (fun vs s₁ => wpG κ (model prg w) A (newTuple vs) (fun v => Q (.ret v)) E s₁) E s) (hs : starEach es env = es.map fun e => (false, eval e env)) :
    wpG κ (model prg w) A (execs (.Return (some (.Tuple es nt tp)) pos :: rest) env) Q E s := gRet (gTup hv hs)
theorem onlyid_r {i : Nat} {p : List UInt8} {tp tn : Tok} {Q : Value → Shared → Prop} (hR : Rm A 8) (F : FrA A fr) (C : Cx w g fr h news) (hp : p.length ≤ 500)
    (ret : ∀ f, readI i p = .ok f → ∀ g' h' k' v, g.StaysIn g' → Cx w g' fr h' news → FrAt g' v f → Q v (St s h' k')) (exc : ∀ e : Nat, readI i p = .error e → ∀ v s', Fx w s g fr news (H3 e) v s' → E v s') :
    wpG κ (model prg w) A (call (.ref 156) [.str (idN i) tn, .bytes p.toArray tp]) Q E (St s h k) := by
  refine' enterE (binds := [("name", .str (idN i) tn), ("payload", .bytes p.toArray tp)]) F C hR.lt ?k1 ?k2 ?k3 ?k4 (Ans (readI i p)) (fun v s' X => X.ans exc) fun L h₁ k₁ C₁ F₁ => ?_
  walk_at "M enter"
  refine gAsgTup (callF C₁ (by rfl) (by k_is) (by k_is) fun k₆ => gP (nmL C₁) fun _ k₇ => gP cI fun _ k₈ => ⟨C₁.keep, wholev_r (i := 0) hR.in F₁.aa C₁ (by omega) (fun n j hnj g₅ h₅ k₅ t tn tj hg₅ C₅ ht₅ => ?_) fun hno v s' X => X.back ?_ C₁.G (fun _ _ e => e) fun _ z => z⟩)
  · refine asgT (by exact hR.hh) C₅ (ht₅.at fun _ z => C₅.keep _ _ z) fun h₆ k₆ C₆ => ?_
    refine ifP (tNe (nmL C₆) (pLenY (nmB (v := .builtin "len") C₆ (by rfl) (by k_is) (by rfl) (by decide)) (nmL C₆) (by rw [List.size_toArray]; omega))) (fun b k₂ => ?_) fun b k₂ => ?_
    · have q : readI i p = .error 262 := by
        unfold readI
        rw [hnj]
        refine if_neg fun z => ?_
        rw [z, List.size_toArray, bne_self_eq_false] at b
        cases b
      exact gMono (raiseH3 (P := Ans (readI i p)) (c := 262) C₆ (hR.in.le (by decide)) (by k_is) (by decide) (by decide) ⟨262, q, rfl, rfl⟩) (fun _ _ z => z) fun v s' X => X.less C₁.G hg₅
    · have q : readI i p = .ok (.id i n) := by
        unfold readI
        rw [hnj]
        refine if_pos ?_
        have := bne_eq_false_iff_eq.mp b
        rw [List.size_toArray] at this
        exact Int.ofNat.inj this
      refine retT (gP (nmL C₆) fun _ k₃ => gP (nmL C₆) fun _ k₄ => newT (by decide : 2 ≤ 1000) fun h₇ t' hnt ho z => ?_) (by rfl)
      obtain ⟨y1, y2, y3⟩ := C₆.pop.toG hnt ho z
      exact ret _ q _ _ _ _ (fun b o e => y1 _ _ (hg₅ _ _ e)) y2 ⟨t', _, _, rfl, ⟨_, y3, rfl, 0, rfl⟩, ⟨_, rfl⟩⟩
  · unfold readI
    rw [hno]
theorem FrAt.mk {t : Addr} {f : Frm} {vs : List Value} {u : Tok} (ht : g.get? t = some { cls := .type "tuple", data := .seq (Value.str (f.its g).1 u :: vs).toArray }) (hv : (f.its g).2 vs) : FrAt g (.ref t) f := ⟨t, u, vs, rfl, ⟨_, ht, rfl, 0, rfl⟩, hv⟩
theorem payload_r {kd : Nat} {p : List UInt8} {tk tp : Tok} {Q : Value → Shared → Prop} (hR : Rm A 9) (F : FrA A fr) (C : Cx w g fr h news) (hp : p.length ≤ 500)
    (ret : ∀ f, readP kd p = .ok f → ∀ g' h' k' v, g.StaysIn g' → Cx w g' fr h' news → FrAt g' v f → Q v (St s h' k')) (exc : ∀ e : Nat, readP kd p = .error e → ∀ v s', Fx w s g fr news (H3 e) v s' → E v s') :
    wpG κ (model prg w) A (call (.ref 163) [.int kd tk, .bytes p.toArray tp]) Q E (St s h k) := by
  refine' enterE (binds := [("kind", .int kd tk), ("payload", .bytes p.toArray tp)]) F C hR.lt ?k1 ?k2 ?k3 ?k4 (Ans (readP kd p)) (fun v s' X => X.ans exc) fun L h₁ k₁ C₁ F₁ => ?_
  walk_at "M enter"
  have e0 : ([2, 6, 8, 9] : List Int).any (· == (kd : Int)) = [2, 6, 8, 9].contains kd := any_nat [2, 6, 8, 9] kd
  refine ifP (tCmp (b := [2, 6, 8, 9].contains kd) (nmL C₁) (nmK C₁ (by rfl) (by k_is)) (fun t u k Q E hQ => in_tuple_ints (s := St s h₁ k) ⟨_, C₁.gd.X 115 _ (by k_is), rfl, 0, rfl⟩ (.cons 2 _ (.cons 6 _ (.cons 8 _ (.cons 9 _ .nil)))) (by rw [e0]; exact hQ k)) (by rfl)) (fun b k₂ => ?_) fun b k₂ => ?_
  · exact raiseH3 (c := 261) C₁ (hR.in.le (by decide)) (by k_is) (by decide) (by decide) ⟨261, if_pos b, rfl, rfl⟩
  have r0 : readP kd p = if kd = 0 then .ok (.pl false p) else if kd = 1 then .ok (.pl true p) else if kd = 4 then (readS p).map .st
      else if kd = 5 then (match getV p 0 with | none => .error 262 | some (n, j) => .ok (.pp n (p.drop j)))
      else if kd = 3 then readI 0 p else if kd = 7 then readI 1 p else if kd = 13 then readI 2 p else .ok (.un kd p) := if_neg (by rw [b]; decide)
  have tk : ∀ {j : Nat}, ((kd : Int) == (j : Int)) = decide (kd = j) := fun {j} => by
    by_cases q : kd = j
    · rw [q]; simp
    · rw [decide_eq_false q]; exact beq_eq_false_iff_ne.mpr fun z => q (Int.ofNat.inj z)
  refine ifP (tEq (nmL C₁) (nmK C₁ (by rfl) (by k_is))) (fun b k₃ => ?_) fun b k₃ => ?_
  · have q : kd = 0 := Int.ofNat.inj (beq_iff_eq.mp b)
    refine retT (gP cS fun t₃ k₃ => gP (nmL C₁) fun _ k₄ => newT (by decide : 2 ≤ 1000) fun h₇ t' hnt ho z => ?_) (by rfl)
    obtain ⟨y1, y2, y3⟩ := C₁.pop.toG hnt ho z
    exact ret (.pl false p) (by rw [r0, if_pos q]) _ _ _ _ y1 y2 (.mk y3 ⟨_, rfl⟩)
  have n0 : ¬ kd = 0 := fun q => by rw [q] at b; cases b
  refine ifP (tEq (nmL C₁) (nmK C₁ (by rfl) (by k_is))) (fun b k₃ => ?_) fun b k₃ => ?_
  · have q : kd = 1 := Int.ofNat.inj (beq_iff_eq.mp b)
    refine retT (gP cS fun t₃ k₃ => gP (nmL C₁) fun _ k₄ => newT (by decide : 2 ≤ 1000) fun h₇ t' hnt ho z => ?_) (by rfl)
    obtain ⟨y1, y2, y3⟩ := C₁.pop.toG hnt ho z
    exact ret (.pl true p) (by rw [r0, if_neg n0, if_pos q]) _ _ _ _ y1 y2 (.mk y3 ⟨_, rfl⟩)
  have n1 : ¬ kd = 1 := fun q => by rw [q] at b; cases b
  refine ifP (tEq (nmL C₁) (nmK C₁ (by rfl) (by k_is))) (fun b k₃ => ?_) fun b k₃ => ?_
  · have q : kd = 4 := Int.ofNat.inj (beq_iff_eq.mp b)
    rw [if_neg n0, if_neg n1, if_pos q] at r0
    refine retT (gP cS fun t₃ k₃ => callF C₁ (by rfl) (by k_is) (by k_is) fun k₄ => gP (nmL C₁) fun _ k₅ => ⟨C₁.keep, settings_r hR.in F₁.aa C₁ hp (fun ps hps g₅ h₅ k₅ v hg₅ C₅ hv => ?_) fun e he v s' X => X.back (by rw [r0, he]; rfl) C₁.G (fun _ _ e => e) fun _ z => z⟩) (by rfl)
    refine newT (by decide : 2 ≤ 1000) fun h₇ t' hnt ho z => ?_
    obtain ⟨y1, y2, y3⟩ := C₅.pop.toG hnt ho z
    exact ret (.st ps) (by rw [r0, hps]; rfl) _ _ _ _ (fun b o e => y1 _ _ (hg₅ _ _ e)) y2 (.mk y3 ⟨v, rfl, hv.keeps y1⟩)
  have n4 : ¬ kd = 4 := fun q => by rw [q] at b; cases b
  refine ifP (tEq (nmL C₁) (nmK C₁ (by rfl) (by k_is))) (fun b k₃ => ?_) fun b k₃ => ?_
  · have q : kd = 5 := Int.ofNat.inj (beq_iff_eq.mp b)
    rw [if_neg n0, if_neg n1, if_neg n4, if_pos q] at r0
    refine gAsgTup (callF C₁ (by rfl) (by k_is) (by k_is) fun k₆ => gP (nmL C₁) fun _ k₇ => gP cI fun _ k₈ => ⟨C₁.keep, wholev_r (i := 0) (hR.in.le (by decide)) F₁.aa C₁ (by omega) (fun n j hnj g₅ h₅ k₅ t tn tj hg₅ C₅ ht₅ => ?_) fun hno v s' X => X.back (by rw [r0, hno]) C₁.G (fun _ _ e => e) fun _ z => z⟩)
    refine asgT (by exact hR.hh) C₅ (ht₅.at fun _ z => C₅.keep _ _ z) fun h₆ k₆ C₆ => ?_
    refine retT (gP cS fun t₃ k₃ => gP (nmL C₆) fun _ k₄ => slY' (i := j) (nmL C₆) (nmL C₆) rfl (by omega) fun h₈ t₈ k₈ z₈ => newT (by decide : 3 ≤ 1000) fun h₇ t' hnt ho z => ?_) (by rfl)
    obtain ⟨y1, y2, y3⟩ := (C₆.pop.on z₈).toG hnt ho z
    exact ret (.pp n (p.drop j)) (by rw [r0, hnj]) _ _ _ _ (fun b o e => y1 _ _ (hg₅ _ _ e)) y2 (.mk y3 ⟨_, _, rfl⟩)
  have n5 : ¬ kd = 5 := fun q => by rw [q] at b; cases b
  rw [if_neg n0, if_neg n1, if_neg n4, if_neg n5] at r0
  refine gFor (gP (nmK C₁ (by rfl) (by k_is)) fun _ k₅ => forPrT (E₁ := Bx w s g L fr news (Ans (readP kd p))) (fun j m nx => nx = news ∧ (m "payload" = some (.bytes p.toArray tp) ∧ m "kind" = some (.int kd _)) ∧ ∀ i < j, kd ≠ idT i) hR.hh C₁ (idTup C₁.G) (idPrs C₁.G) ⟨rfl, ⟨rfl, rfl⟩, fun i hi => absurd hi (Nat.not_lt_zero i)⟩
      (fun j q g' h₃ m nx k₃ e J hg C₃ => ?_) (fun h₃ m nx k₃ C₃ J => ?_) (fun v s' X => bxNoted F₁ rfl X fun _ _ y => y)) fun _ => rfl
  · obtain ⟨hj, a, b, c, rfl⟩ := idAt e
    obtain ⟨rfl, ⟨j1, j2⟩, j3⟩ := J
    refine ifP (tEq (nmL C₃) (nmL C₃ (hv := by exact j2))) (fun e k₆ => ?_) fun e k₆ => ?_
    · have q : kd = idT j := (Int.ofNat.inj (beq_iff_eq.mp e)).symm
      have r1 : readP kd p = readI j p := by
        rw [r0, q]
        rcases j with _ | _ | _ | j
        · rfl
        · rfl
        · rfl
        · omega
      exact gRet (callF C₃ (by rfl) (by k_is) (by k_is) fun k₄ => gP (nmL C₃) fun _ k₅ => gP (nmL C₃ (hv := by exact j1)) fun _ k₇ => ⟨C₃.keep,
        onlyid_r (by exact hR.in) F₁.aa C₃ hp (fun f hf g₅ h₅ k₅ v hg₅ C₅ hv => ret f (r1.trans hf) _ _ _ _ (fun b o e => hg₅ _ _ (hg _ _ e)) C₅.pop hv) fun e he v s' X => X.back (r1.trans he) C₁.G hg fun _ z => z⟩)
    · exact gNil (tnNext C₃ ⟨rfl, ⟨j1, j2⟩, fun i hi => by
        rcases Nat.lt_succ_iff_lt_or_eq.mp hi with hi | rfl
        · exact j3 i hi
        · intro z; rw [z, beq_self_eq_true] at e; cases e⟩)
  · obtain ⟨rfl, ⟨j1, j2⟩, j3⟩ := J
    have q : readP kd p = .ok (.un kd p) := by
      rw [r0]
      exact (if_neg (j3 0 (by decide))).trans ((if_neg (j3 1 (by decide))).trans (if_neg (j3 2 (by decide))))
    refine retT (gP cS fun t₃ k₃ => gP (nmL C₃ (hv := by exact j2)) fun _ k₄ => gP (nmL C₃ (hv := by exact j1)) fun _ k₅ => newT (by decide : 3 ≤ 1000) fun h₇ t' hnt ho z => ?_) (by rfl)
    obtain ⟨y1, y2, y3⟩ := C₃.pop.toG hnt ho z
    exact ret (.un kd p) q _ _ _ _ y1 y2 (.mk y3 ⟨_, _, rfl⟩)
end
end Mine

open PySem PySem.W PySem.Calls PyProof.Rows
set_option Elab.async false
set_option maxRecDepth 100000
set_option maxHeartbeats 2000000
set_option linter.unusedVariables false
namespace Mine
local macro_rules | `(tactic| walk_at "M enter") => `(tactic| ((case k1 => k_is); (case k2 => k_is); (case k3 => exact fun _ => .of_eq rfl); (case k4 => rfl)))
noncomputable def nsFS (P : Params) : NsM := nsOfO (dcO P dFS0 4)
theorem nsFS_is {P : Params} {h : Heap} (X : (KK P).In h) : h.Ns 200 (nsFS P) := ns_of (X 200 _ (by k_is)) (by kernel_rfl)
theorem missO_most : typeLookup (.type "object") "most" = pure none := by rw [typeLookup_type, builtinLookup_eq_fast]; kernel_rfl
theorem missO_rest : typeLookup (.type "object") "rest" = pure none := by rw [typeLookup_type, builtinLookup_eq_fast]; kernel_rfl
theorem missO_next : typeLookup (.type "object") "next_frame" = pure none := by rw [typeLookup_type, builtinLookup_eq_fast]; kernel_rfl
theorem missO_take : typeLookup (.type "object") "take" = pure none := by rw [typeLookup_type, builtinLookup_eq_fast]; kernel_rfl
theorem missO_end : typeLookup (.type "object") "end" = pure none := by rw [typeLookup_type, builtinLookup_eq_fast]; kernel_rfl
theorem nsFS_at (P : Params) : nsFS P "__setattr__" = none ∧ nsFS P "__getattribute__" = none ∧ nsFS P "__getattr__" = none ∧ nsFS P "most" = none ∧ nsFS P "rest" = none ∧ nsFS P "take" = some (.ref 184) ∧ nsFS P "next_frame" = some (.ref 191) ∧ nsFS P "end" = some (.ref 198) :=
  ⟨by kernel_rfl, by kernel_rfl, by kernel_rfl, by kernel_rfl, by kernel_rfl, by kernel_rfl, by kernel_rfl, by kernel_rfl⟩
abbrev mStrm (tm tr : Tok) (most : Nat) (r : List UInt8) : NsM := up (up (fun _ => none) "most" (.int most tm)) "rest" (.bytes r.toArray tr)
structure Strm (x d : Addr) (ox od : Obj) (most : Nat) (r : List UInt8) (tm tr : Tok) : Prop where
  cls : ox.cls = .ref 201
  nc : ∀ c, ox.data ≠ .cls c
  dict : ox.dict = some d
  ne : d ≠ x
  xC : x ≠ 201
  ns : NsO od (mStrm tm tr most r)
section
variable {κ : Bool} {w : World} {A : Around} {E : Value → Shared → Prop} {s : Shared} {g h : Heap} {fr : Fs} {L e a x d : Addr} {m : NsM} {news news' : List (Addr × Obj)} {k n nt most : Nat} {env : Env} {ox od : Obj} {r : List UInt8} {tm tr : Tok} {y name : Str} {px pos apos : Pos} {v : Value}
theorem Strm.inst (S : Strm x d ox od most r tm tr) (C : Cx w g fr h news) (hx : (x, ox) ∈ news) (hd : (d, od) ∈ news) : h.Inst x 201 (mStrm tm tr most r) :=
  ⟨ox, (C.N _ hx).1, S.cls, S.nc, .inr ⟨d, S.dict, S.ne, let ⟨es, ep, z⟩ := S.ns; ⟨od, es, ep, (C.N _ hd).1, z⟩⟩⟩
theorem pAttr (S : Strm x d ox od most r tm tr) (C : Cx w g fr h news) (hx : (x, ox) ∈ news) (hd : (d, od) ∈ news) (hs : PEv w A env s h (.Name y px) fun _ => .ref x) (hv : mStrm tm tr most r name = some v) (hna : nsFS w.params name = none) (hB : typeLookup (.type "object") name = pure none) (hh : handedOut v = pure v)
    (he : eval (.Attribute (.Name y px) name apos) env = (do
      let o ← eval (.Name y px) env
      standAt apos.atName
      let r ← holding [o] (getAttr o name true)
      letTemporaryGo (.Name y px) o r
      pure r) := by with_unfolding_all rfl) : PEv w A env s h (.Attribute (.Name y px) name apos) fun _ => v := fun k Q E hQ =>
  Attribute_Name_ (hs k _ E fun _ k₁ => load_attr (C.gd.X 201 _ (by k_is)) (nsFS_is C.gd.X) (nsFS_at _).2.1 hna hB (S.inst C hx hd) hv hh (hQ 0 _)) he
theorem pRest (S : Strm x d ox od most r tm tr) (C : Cx w g fr h ((x, ox) :: (d, od) :: news)) (hs : PEv w A env s h (.Name y px) fun _ => .ref x)
    (he : eval (.Attribute (.Name y px) "rest" apos) env = (do
      let o ← eval (.Name y px) env
      standAt apos.atName
      let r ← holding [o] (getAttr o "rest" true)
      letTemporaryGo (.Name y px) o r
      pure r) := by with_unfolding_all rfl) : PEv w A env s h (.Attribute (.Name y px) "rest" apos) fun _ => .bytes r.toArray tr :=
  pAttr S C (.head _) (.tail _ (.head _)) hs rfl (nsFS_at _).2.2.2.2.1 missO_rest rfl he
theorem pMost (S : Strm x d ox od most r tm tr) (C : Cx w g fr h ((x, ox) :: (d, od) :: news)) (hs : PEv w A env s h (.Name y px) fun _ => .ref x)
    (he : eval (.Attribute (.Name y px) "most" apos) env = (do
      let o ← eval (.Name y px) env
      standAt apos.atName
      let r ← holding [o] (getAttr o "most" true)
      letTemporaryGo (.Name y px) o r
      pure r) := by with_unfolding_all rfl) : PEv w A env s h (.Attribute (.Name y px) "most" apos) fun _ => .int most tm :=
  pAttr S C (.head _) (.tail _ (.head _)) hs rfl (nsFS_at _).2.2.2.1 missO_most rfl he
theorem setRest {r' : List UInt8} {t : Tok} {Q : Unit → Shared → Prop} (S : Strm x d ox od most r tm tr) (C : Cx w g fr h ((x, ox) :: (d, od) :: news)) (hne : ∀ q ∈ news, q.1 ≠ x ∧ q.1 ≠ d)
    (hQ : ∀ h' k' ox' od', Cx w g fr h' ((x, ox') :: (d, od') :: news) → Strm x d ox' od' most r' tm t → Q () (St s h' k')) : wpAny (model prg w) A (setAttr (.ref x) "rest" (.bytes r'.toArray t)) Q E (St s h k) :=
  store2 PySem.F.store_object (C.gd.X 201 _ (by k_is)) (nsFS_is C.gd.X) (nsFS_at _).1 (nsFS_at _).2.2.2.2.1 missO_rest C S.xC S.ne hne S.cls S.nc S.dict S.ns
    fun h' k' ox' od' C' e1 e2 e3 e4 => hQ h' k' ox' od' C' ⟨e1.trans S.cls, (by rw [e2]; exact S.nc), e3, S.ne, S.xC, by
      obtain ⟨es, ep, z1, z2, z3, z4⟩ := e4
      refine ⟨es, ep, z1, z2, z3, fun n => (z4 n).trans ?_⟩
      show (if n = _ then _ else if n = _ then _ else _) = if n = _ then _ else _
      by_cases q : n = ("rest" : Str)
      · rw [if_pos q, if_pos q]
      · rw [if_neg q, if_neg q, if_neg q]⟩
theorem methS {f : Addr} {pl : Sem Bool} {Q : Value × List Value → Shared → Prop} (S : Strm x d ox od most r tm tr) (C : Cx w g fr h news) (hx : (x, ox) ∈ news) (hd : (d, od) ∈ news) (hf : nsFS w.params name = some (.ref f)) (hfo : typeIn (KK w.params) (.ref f) = some (.type "function"))
    (hB : typeLookup (.type "object") name = pure none) (hsh : mStrm tm tr most r name = none) (hQ : Q (.ref f, [.ref x]) (St s h k)) : wpAny (model prg w) A (getMethod (.ref x) name pl) Q E (St s h k) := by
  obtain ⟨o, ho, hc⟩ := Option.map_eq_some_iff.mp hfo
  exact method_of (C.gd.X 201 _ (by k_is)) (nsFS_is C.gd.X) (nsFS_at _).2.1 (nsFS_at _).2.2.1 hf (C.gd.X _ _ ho) hc hB (S.inst C hx hd) hsh hQ
theorem cgAny {c : Code} {M : Model} {R : Result → Shared → Prop} {s : Shared} (h : codeG false M A c R s) : codeAny M A c R s := fun Γ p hc hΓ => h Γ p hc hΓ (fun e => nomatch e)
theorem enterC {fa : Addr} {name qual : Str} {params : Arguments} {body : List Stmt} {scope : Scope} {dV kV doc pm cdv ct oc : Value} {an od : Option Addr} {osl : Array (Option Value)} {args : List Value} {binds : List (Str × Value)} {R : Result → Shared → Prop}
    (C : Cx w g fr h news) (hroom : A.depth < recursionLimit) (ho : (KK w.params).lookup fa = some ⟨oc, od, .func (fnOf name qual params body scope dV kV doc pm an cdv ct), osl⟩) (hcd : codeIn (KK w.params) cdv qual = true)
    (hbind : ∀ s, BindsTo s (fnOf name qual params body scope dV kV doc pm an cdv ct) ⟨args, []⟩ binds) (hok : okDef scope binds = true)
    (hQ : ∀ L' h₁ k', Cx w g ((L', fun y => binds.reverse.lookup y) :: fr) h₁ news →
      wpG κ (model prg w) (A.deeper (envX qual scope L' fa cdv [])) (execs body (envX qual scope L' fa cdv [])) (Rt fun v s' => R (.ok (.ret v)) s') No (St s h₁ k')) : codeG κ (model prg w) A (.call (.ref fa) ⟨args, []⟩) R (St s h k) := by
  simp only [okDef, Bool.and_eq_true, Bool.not_eq_true', List.all_eq_true, beq_iff_eq, bne_iff_ne] at hok
  obtain ⟨hco, hgen, hk, hcell, hloc⟩ := hok
  refine cgDef (fd := fnOf name qual params body scope dV kV doc pm an cdv ct) (body := body) (binds := binds) hroom (C.keep _ _ (C.G.X _ _ ho)) rfl (C.G.lim.keeps C.keep) (codeRec_of (C.G.X.keeps C.keep) hcd) rfl (hbind _) hcell hloc (fun h₁ hns hk₁ => ?_) hco hgen hk
  refine gMono (hQ _ h₁ _ (C.into hk₁ (get_size h) hns)) (fun f s' x => ?_) fun _ _ x => x
  cases f <;> exact x
theorem stream_n {tm : Tok} {Q : Value → Shared → Prop} (hr : A.depth + 3 < recursionLimit) (C : Cx w g fr h news)
    (ret : ∀ h' k' x d ox od tr, Cx w g fr h' ((x, ox) :: (d, od) :: news) → Strm x d ox od most [] tm tr → (∀ q ∈ news, q.1 ≠ x ∧ q.1 ≠ d) → Q (.ref x) (St s h' k')) : wpG κ (model prg w) A (call (.ref 201) [.int most tm]) Q E (St s h k) := by
  have X₀ := C.gd.X
  refine gOf (wpAny_call (make_core (makes_of X₀ (by k_is)) (looks_findIn X₀ (by k_is)) (fun self => bind_fn X₀ self (f := 177) (by k_is)) (.inl (by decide)) (cgAny ?_)))
  have n1 := get_size h
  have C₁ := C.push emptyDict
  have n2 := get_size (h.push emptyDict)
  have C₂ := C₁.push (instObj 201 h.objs.size)
  rw [Heap.size_push] at C₂ n2
  have hne : ∀ q ∈ news, q.1 ≠ h.objs.size + 1 ∧ q.1 ≠ h.objs.size := fun q hq => ⟨C₁.nes n2 q (.tail _ hq), C.nes n1 q hq⟩
  have hdx : h.objs.size ≠ h.objs.size + 1 := C₁.nes n2 _ (.head _)
  have hxC : h.objs.size + 1 ≠ 201 := fun q => by
    have := C₁.gd.X 201 _ (by k_is)
    rw [← q, n2] at this; cases this
  generalize h.objs.size + 1 = x at *
  generalize h.objs.size = d at *
  refine' enterC (binds := [("self", .ref x), ("most", .int most tm)]) C₂ ?hr ?k1 ?k2 ?k3 ?k4 fun L h₂ k₂ C₃ => ?_
  case hr => show A.depth + 1 < _; omega
  walk_at "M enter"
  refine gAsgA (gP (nmL C₃) fun _ k₃ => gP (nmL C₃) fun _ k₄ => store2 PySem.F.store_object (C₃.gd.X 201 _ (by k_is)) (nsFS_is C₃.gd.X) (nsFS_at _).1 (nsFS_at _).2.2.2.1 missO_most C₃ hxC hdx hne rfl (by intro c q; cases q) rfl (m := fun _ => none) ⟨#[], 0, rfl, (fun e he => absurd he (by simp)), (by simp [UniqKeys]), fun _ => rfl⟩ fun h₄ k₅ ox od C₄ e1 e2 e3 e4 => ?_)
  refine gAsgA (gP cY fun t₅ k₆ => gP (nmL C₄) fun _ k₇ => store2 PySem.F.store_object (C₄.gd.X 201 _ (by k_is)) (nsFS_is C₄.gd.X) (nsFS_at _).1 (nsFS_at _).2.2.2.2.1 missO_rest C₄ hxC hdx hne e1 (by rw [e2]; intro c q; cases q) e3 e4 fun h₆ k₈ ox' od' C₆ f1 f2 f3 f4 => gNil ?_)
  exact ⟨rfl, ret _ _ x d ox' od' t₅ C₆.pop ⟨f1.trans e1, (by rw [f2, e2]; intro c q; cases q), f3, hdx, hxC, f4⟩ hne⟩
theorem end_r {Q : Value → Shared → Prop} (hR : Rm A 6) (F : FrA A fr) (C : Cx w g fr h ((x, ox) :: (d, od) :: news)) (S : Strm x d ox od most r tm tr) (hz : r.length ≤ 1000000)
    (ret : r = [] → ∀ h' k', Cx w g fr h' ((x, ox) :: (d, od) :: news) → Q .none (St s h' k')) (exc : r ≠ [] → ∀ v s', Fx w s g fr ((x, ox) :: (d, od) :: news) (H3 262) v s' → E v s') : wpG κ (model prg w) A (call (.ref 198) [.ref x]) Q E (St s h k) := by
  refine' enterE (binds := [("self", .ref x)]) F C hR.lt ?k1 ?k2 ?k3 ?k4 (fun C c => r ≠ [] ∧ H3 262 C c) (fun v s' X => exc X.get.1 v s' X.get.2) fun L h₁ k₁ C₁ F₁ => ?_
  walk_at "M enter"
  refine ifP (tGt (pLenY (nmB (v := .builtin "len") C₁ (by rfl) (by k_is) (by rfl) (by decide)) (pRest S C₁ (nmL C₁)) (by rw [List.size_toArray]; omega)) cI) (fun b k₂ => ?_) fun b k₂ => ?_
  · refine raiseH3 (c := 262) C₁ (hR.in.le (by decide)) (by k_is) (by decide) (by decide) ⟨fun q => ?_, rfl, rfl⟩
    rw [q] at b; cases b
  · refine gNil (ret ?_ _ _ C₁.pop)
    have := of_decide_eq_false b
    rw [List.size_toArray] at this
    exact List.eq_nil_of_length_eq_zero (by omega)
end
end Mine

open PySem PySem.W PySem.Calls PyProof.Rows
set_option Elab.async false
set_option maxRecDepth 100000
set_option maxHeartbeats 2000000
set_option linter.unusedVariables false
namespace Mine
local macro_rules | `(tactic| walk_at "M enter") => `(tactic| ((case k1 => k_is); (case k2 => k_is); (case k3 => exact fun _ => .of_eq rfl); (case k4 => rfl)))
def nextF (most : Nat) (r : List UInt8) : Except Nat (Option (Frm × List UInt8)) := match getV r 0 with
  | none => .ok none
  | some (kd, i) => match getV r i with
    | none => .ok none
    | some (sz, j) => if [2, 6, 8, 9].contains kd then .error 261 else if most < sz then .error 263 else if r.length < j + sz then .ok none
      else (readP kd ((r.drop j).take sz)).map fun f => some (f, r.drop (j + sz))
section
variable {κ : Bool} {w : World} {A : Around} {E : Value → Shared → Prop} {s : Shared} {g h : Heap} {fr : Fs} {L e a x d : Addr} {m : NsM} {news news' : List (Addr × Obj)} {k n nt most : Nat} {env : Env} {ox od : Obj} {r : List UInt8} {tm tr : Tok} {y name : Str} {px pos apos : Pos} {v : Value}
theorem next_r {Q : Value → Shared → Prop} (hR : Rm A 10) (F : FrA A fr) (C : Cx w g fr h ((x, ox) :: (d, od) :: news)) (S : Strm x d ox od most r tm tr) (hne : ∀ q ∈ news, q.1 ≠ x ∧ q.1 ≠ d) (hm : most ≤ 500) (hz : r.length ≤ 100000)
    (ret0 : nextF most r = .ok none → ∀ g' h' k', g.StaysIn g' → Cx w g' fr h' ((x, ox) :: (d, od) :: news) → Q .none (St s h' k'))
    (ret1 : ∀ f r', nextF most r = .ok (some (f, r')) → ∀ g' h' k' v ox' od' t, g.StaysIn g' → Cx w g' fr h' ((x, ox') :: (d, od') :: news) → Strm x d ox' od' most r' tm t → FrAt g' v f → Q v (St s h' k'))
    (exc : ∀ e : Nat, nextF most r = .error e → ∀ v s', Fx w s g fr news (H3 e) v s' → E v s') : wpG κ (model prg w) A (call (.ref 191) [.ref x]) Q E (St s h k) := by
  refine' enterE2 news (binds := [("self", .ref x)]) F C hR.lt ?k1 ?k2 ?k3 ?k4 (Ans (nextF most r)) (fun v s' X => X.ans exc) fun L h₁ k₁ C₁ F₁ => ?_
  walk_at "M enter"
  have dr : ∀ {o o' : Obj}, ∀ p ∈ news, p ∈ (x, o) :: (d, o') :: news := fun p hp => .tail _ (.tail _ hp)
  refine gTry (g := g) (news := (x, ox) :: (d, od) :: news) (Cl := 71) (P := fun C _ => nextF most r = .ok none ∧ C = 71) (P₂ := fun _ _ => False) F₁ rfl (.inr rfl) (fun A' h' m' C' => nmK C' (by rfl) (by k_is)) ?_ (fun C c q => q.2) (fun h' k' e c m' X q => ?_) fun v s' X => ?_
  · refine gAsgTup (callF C₁ (by rfl) (by k_is) (by k_is) fun k₆ => gP (pRest S C₁ (nmL C₁)) fun _ k₇ => gP cI fun _ k₈ => ⟨C₁.keep, varint_r (i := 0) (hR.in.le (by decide)) F₁.aa C₁ (by omega) (fun kd i hk g₅ h₅ k₅ t tn tj hg₅ C₅ ht₅ => ?_) fun hno v s' X => X.bx.mono fun C c q => ⟨?_, q⟩⟩)
    case refine_2 => unfold nextF; rw [hno]
    refine asgT (by exact hR.hh) C₅ (ht₅.at fun _ z => C₅.keep _ _ z) fun h₆ k₆ C₆ => ?_
    refine gAsgTup (callF C₆ (by rfl) (by k_is) (by k_is) fun k₆ => gP (pRest S C₆ (nmL C₆)) fun _ k₇ => gP (nmL C₆) fun _ k₈ => ⟨C₆.keep, varint_r (hR.in.le (by decide)) F₁.aa C₆ (by omega) (fun sz j hs g₇ h₇ k₇ t2 tn2 tj2 hg₇ C₇ ht₇ => ?_) fun hno v s' X => (X.bx.less C₁.G hg₅).mono fun C c q => ⟨?_, q⟩⟩)
    case refine_2 => unfold nextF; rw [hk]; dsimp only; rw [hno]
    refine asgT (by exact hR.hh) C₇ (ht₇.at fun _ z => C₇.keep _ _ z) fun h₈ k₈ C₈ => gNil ?_
    show wpG _ _ _ (execs _ _) _ _ _
    have hg : g.StaysIn g₇ := fun b o e => hg₇ _ _ (hg₅ _ _ e)
    have bx : ∀ {g' : Heap} {v : Value} {s' : Shared} {c : Nat} {o o' : Obj}, g₇.StaysIn g' → nextF most r = .error c → Bx w s g' L fr ((x, o) :: (d, o') :: news) (H3 c) v s' → Bx w s g L fr news (Ans (nextF most r)) v s' := fun hg' q X =>
      ((X.less C₁.G fun b o e => hg' _ _ (hg _ _ e)).drop dr).mono fun C c z => ⟨_, q, z⟩
    have r0 : nextF most r = if [2, 6, 8, 9].contains kd then .error 261 else if most < sz then .error 263 else if r.length < j + sz then .ok none
        else (readP kd ((r.drop j).take sz)).map fun f => some (f, r.drop (j + sz)) := by
      unfold nextF; rw [hk]; dsimp only; rw [hs]
    have e0 : ([2, 6, 8, 9] : List Int).any (· == (kd : Int)) = [2, 6, 8, 9].contains kd := any_nat [2, 6, 8, 9] kd
    refine ifP (tCmp (b := [2, 6, 8, 9].contains kd) (nmL C₈) (nmK C₈ (by rfl) (by k_is)) (fun t u k Q E hQ => in_tuple_ints (s := St s h₈ k) ⟨_, C₈.gd.X 115 _ (by k_is), rfl, 0, rfl⟩ (.cons 2 _ (.cons 6 _ (.cons 8 _ (.cons 9 _ .nil)))) (by rw [e0]; exact hQ k)) (by rfl)) (fun b k₂ => ?_) fun b k₂ => ?_
    · exact gMono (raiseH3 (c := 261) C₈ (hR.in.le (by decide)) (by k_is) (by decide) (by decide) ⟨rfl, rfl⟩) (fun _ _ z => z) fun v s' X => bx (fun _ _ e => e) (by rw [r0, if_pos b]) X
    rw [if_neg (by rw [b]; decide)] at r0
    refine ifP (tGt (nmL C₈) (pMost S C₈ (nmL C₈))) (fun b k₂ => ?_) fun b k₂ => ?_
    · have q := Int.ofNat_lt.mp (of_decide_eq_true b)
      exact gMono (raiseH3 (c := 263) C₈ (hR.in.le (by decide)) (by k_is) (by decide) (by decide) ⟨rfl, rfl⟩) (fun _ _ z => z) fun v s' X => bx (fun _ _ e => e) (by rw [r0, if_pos q]) X
    have q1 : ¬ most < sz := fun z => of_decide_eq_false b (Int.ofNat_lt.mpr z)
    rw [if_neg q1] at r0
    refine ifP (tLt (pLenY (nmB (v := .builtin "len") C₈ (by rfl) (by k_is) (by rfl) (by decide)) (pRest S C₈ (nmL C₈)) (by rw [List.size_toArray]; omega)) (pAdd (nmL C₈) (nmL C₈))) (fun b k₂ => ?_) fun b k₂ => ?_
    · have q : r.length < j + sz := by
        have := of_decide_eq_true b
        rw [List.size_toArray] at this
        omega
      exact retP cN fun _ k' => ret0 (by rw [r0, if_pos q]) g₇ _ _ hg C₈.pop
    have q2 : ¬ r.length < j + sz := fun z => of_decide_eq_false b (by rw [List.size_toArray]; omega)
    rw [if_neg q2] at r0
    refine gAsg ?_
    refine slY (i := j) (j := j + sz) (pRest S C₈ (nmL C₈)) (nmL C₈) (pAdd (nmL C₈) (nmL C₈)) rfl rfl (by omega) fun h₉ t₉ k₉ z₉ => stoX (C₈.on z₉) fun h₃ k₃ C₃ => ?_
    rw [Nat.add_sub_cancel_left] at C₃
    refine gAsgA ?_
    refine slY' (i := j + sz) (pRest S C₃ (nmL C₃)) (pAdd (nmL C₃) (nmL C₃)) rfl (by omega) fun h₄ t₄ k₄ z₄ => ?_
    have C₄ := C₃.on z₄
    refine gP (nmL C₄) fun _ k₅ => setRest S C₄ hne fun h₂ k₂ ox' od' C₂ S₂ => ?_
    refine gRet (callF C₂ (by rfl) (by k_is) (by k_is) fun k₆ => gP (nmL C₂) fun _ k₇ => gP (nmL C₂) fun _ k₈ => ⟨C₂.keep, payload_r hR.in F₁.aa C₂ ?_ (fun f hf g₁ h₁ k₁ v hg₁ C₁ hv => ?_) fun e he v s' X => bx (fun _ _ e => e) (by rw [r0, he]; rfl) X.bx⟩)
    · rw [List.length_take]; omega
    · exact ret1 f (r.drop (j + sz)) (by rw [r0, hf]; rfl) g₁ h₁ k₁ v ox' od' t₄ (fun b o e => hg₁ _ _ (hg _ _ e)) C₁.pop S₂ hv
  · exact retP cN fun _ k' => ret0 q.1 g h' k' (fun _ _ e => e) X.cx.pop
  · obtain ⟨_, _, _, _, _, _, _, _, _, q⟩ := X
    exact q.elim
end
end Mine

open PySem PySem.W PySem.Calls PyProof.Rows
set_option Elab.async false
set_option maxRecDepth 100000
set_option maxHeartbeats 2000000
set_option linter.unusedVariables false
namespace Mine
local macro_rules | `(tactic| walk_at "M enter") => `(tactic| ((case k1 => k_is); (case k2 => k_is); (case k3 => exact fun _ => .of_eq rfl); (case k4 => rfl)))
def takeN (most : Nat) : Nat → List UInt8 → List Frm → Except Nat (List Frm × List UInt8)
  | 0, r, acc => .ok (acc, r)
  | n + 1, r, acc => match nextF most r with
    | .error e => .error e
    | .ok none => .ok (acc, r)
    | .ok (some (f, r')) => takeN most n r' (acc ++ [f])
def takeF (most : Nat) (r : List UInt8) : Except Nat (List Frm × List UInt8) := takeN most (r.length + 1) r []
theorem nextF_lt {most : Nat} {r r' : List UInt8} {f : Frm} (h : nextF most r = .ok (some (f, r'))) : r'.length < r.length := by
  unfold nextF at h
  cases hk : getV r 0 with
  | none => rw [hk] at h; cases h
  | some p =>
    obtain ⟨kd, i⟩ := p
    have q1 := getV_lt hk
    rw [hk] at h
    dsimp only at h
    cases hs : getV r i with
    | none => rw [hs] at h; cases h
    | some p =>
      obtain ⟨sz, j⟩ := p
      have q2 := getV_lt hs
      rw [hs] at h
      dsimp only at h
      split at h
      · cases h
      split at h
      · cases h
      split at h
      · cases h
      rename_i z
      cases hp : readP kd ((r.drop j).take sz) with
      | error e => rw [hp] at h; cases h
      | ok f' =>
        rw [hp] at h
        cases h
        rw [List.length_drop]
        omega
theorem FrAt.keeps {g g' : Heap} {v : Value} {f : Frm} (h : FrAt g v f) (k : g.StaysIn g') : FrAt g' v f := by
  obtain ⟨t, u, vs, rfl, ht, hi⟩ := h
  have e : (f.its g).1 = (f.its g').1 := by cases f <;> rfl
  refine ⟨t, u, vs, rfl, e ▸ (ht.at fun _ z => k _ _ z), ?_⟩
  cases f with
  | st ps => obtain ⟨v, rfl, hs⟩ := hi; exact ⟨v, rfl, hs.keeps k⟩
  | _ => exact hi
abbrev FrsAt (g : Heap) (vs : List Value) (fs : List Frm) : Prop := Paired (FrAt g) vs fs
theorem FrsAt.keeps {g g' : Heap} {vs : List Value} {fs : List Frm} (h : FrsAt g vs fs) (k : g.StaysIn g') : FrsAt g' vs fs := Paired.mono (fun _ _ z => z.keeps k) h
section
variable {κ : Bool} {w : World} {A : Around} {E : Value → Shared → Prop} {s : Shared} {g h : Heap} {fr : Fs} {L e a x d : Addr} {m : NsM} {news news' : List (Addr × Obj)} {k n nt most : Nat} {env : Env} {ox od : Obj} {r data : List UInt8} {tm tr : Tok} {y name : Str} {px pos apos : Pos} {v : Value}
theorem addYg {x y : List UInt8} {t u : Tok} {Q : Value → Shared → Prop} (hc : x.length + y.length ≤ 1000000) (hQ : ∀ t k', Q (.bytes (x ++ y).toArray t) (St s h k')) : wpG κ (model prg w) A (binaryOp .Add (.bytes x.toArray t) (.bytes y.toArray u)) Q E (St s h k) :=
  gOf (KBy.add_bytes (s := St s h k) (by simp only [List.size_toArray]; exact Nat.le_trans hc (by decide)) fun t k' => by rw [List.append_toArray]; exact hQ t k')
theorem tIsNot {l : Expr} {v : Value} {n : Nat} {px pos : Pos} (hl : PEv w A env s h l fun _ => v) : PTs w A env s h (.Compare l [.IsNot] [.Constant .none n px] pos) (v != .none) := tCmp hl cN (fun t _ k Q E hQ => by
  cases v with
  | none => exact wpAny_pure (hQ _)
  | _ => exact isnot_none_ne (by intro z; cases z) (hQ _)) rfl
theorem swapL {α : Type} {a b c : α} {l : List α} : ∀ p ∈ b :: c :: a :: l, p ∈ a :: b :: c :: l := fun p hp => by
  rcases List.mem_cons.mp hp with rfl | hp
  · exact .tail _ (.head _)
  · rcases List.mem_cons.mp hp with rfl | hp
    · exact .tail _ (.tail _ (.head _))
    · rcases List.mem_cons.mp hp with rfl | hp
      · exact .head _
      · exact .tail _ (.tail _ (.tail _ hp))
theorem swapR {α : Type} {a b c : α} {l : List α} : ∀ p ∈ a :: b :: c :: l, p ∈ b :: c :: a :: l := fun p hp => by
  rcases List.mem_cons.mp hp with rfl | hp
  · exact .tail _ (.tail _ (.head _))
  · rcases List.mem_cons.mp hp with rfl | hp
    · exact .head _
    · rcases List.mem_cons.mp hp with rfl | hp
      · exact .tail _ (.head _)
      · exact .tail _ (.tail _ (.tail _ hp))
theorem stepF {cn : Str} {cs : Scope} {ccd : Value} {cl : List (Str × Addr)} {l : Addr} {oL : Obj} {Q : Flow → Shared → Prop} {rest : List Stmt} {pf : Pos} (hR : Rm A 10) (F : FrA A ((L, m) :: fr)) (C : Cx w g ((L, m) :: fr) h ((l, oL) :: (x, ox) :: (d, od) :: news)) (S : Strm x d ox od most r tm tr) (hne : ∀ q ∈ (l, oL) :: news, q.1 ≠ x ∧ q.1 ≠ d) (hm : most ≤ 500) (hz : r.length ≤ 100000)
    (hs : m "self" = some (.ref x))
    (h0 : nextF most r = .ok none → ∀ g' h' k', g.StaysIn g' → Cx w g' ((L, up m "frame" .none) :: fr) h' ((l, oL) :: (x, ox) :: (d, od) :: news) → wpG κ (model prg w) A (execs rest (envX cn cs L a ccd cl)) Q E (St s h' k'))
    (h1 : ∀ f r', nextF most r = .ok (some (f, r')) → ∀ g' h' k' v ox' od' t, g.StaysIn g' → Cx w g' ((L, up m "frame" v) :: fr) h' ((l, oL) :: (x, ox') :: (d, od') :: news) → Strm x d ox' od' most r' tm t → FrAt g' v f → wpG κ (model prg w) A (execs rest (envX cn cs L a ccd cl)) Q E (St s h' k'))
    (exc : ∀ e : Nat, nextF most r = .error e → ∀ v s', Fx w s g ((L, m) :: fr) ((l, oL) :: news) (H3 e) v s' → E v s')
    (he : eval (.Call (.Attribute (.Name "self" px) "next_frame" apos) [] [] pos) (envX cn cs L a ccd cl) = (do
      let ov ← eval (.Name "self" px) (envX cn cs L a ccd cl)
      standAt apos.atName
      let (f, first) ← holding [ov] (getMethod ov "next_frame" (do return (← importBound (.Name "self" px) (envX cn cs L a ccd cl)).getD true))
      callWith pos f first (backTo pos (starEach [] (envX cn cs L a ccd cl))) []) := by rfl) (hx : cs.names.lookup ("self" : Str) = some .local := by rfl) (hy : cs.names.lookup ("frame" : Str) = some .local := by rfl) (hk : cs.kind = .function := by rfl)
    (hsw : swapsWith (.Call (.Attribute (.Name "self" px) "next_frame" apos) [] [] pos) (some (.Name "frame" pf)) pf.line (envX cn cs L a ccd cl) = pure false := by rfl) {ps : Pos} (hps : ps.line = pf.line := by rfl) :
    wpG κ (model prg w) A (execs (.Assign [.Name "frame" pf] (.Call (.Attribute (.Name "self" px) "next_frame" apos) [] [] pos) ps :: rest) (envX cn cs L a ccd cl)) Q E (St s h k) := by
  have C' := C.drop (news' := (x, ox) :: (d, od) :: (l, oL) :: news) swapL
  refine gAsg (gMeth (gP (nmL C (hv := by exact hs) (hx := hx) (hk := hk)) fun _ k₁ => methS S C' (.head _) (.tail _ (.head _)) (nsFS_at _).2.2.2.2.2.2.1 (by k_is) missO_next (by rfl) (gCall (es := []) ⟨keeps_K (by k_is) _ C'.gd.X, ?_⟩ (by rfl))) he) (by rw [hps]; exact hsw)
  exact next_r hR F C' S hne hm hz (fun q g' h' k' hg C₁ => stoX (C₁.drop swapR) (fun h'' k'' C₂ => h0 q g' h'' k'' hg C₂) hk hy) (fun f r' q g' h' k' v ox' od' t hg C₁ S₁ hf => stoX (C₁.drop swapR) (fun h'' k'' C₂ => h1 f r' q g' h'' k'' v ox' od' t hg C₂ S₁ hf) hk hy) exc
def TJ (x d l : Addr) (most : Nat) (tm : Tok) (R : Except Nat (List Frm × List UInt8)) (news : List (Addr × Obj)) (n : Nat) (g : Heap) (m : NsM) (nx : List (Addr × Obj)) : Prop :=
  ∃ fs vs oL ox od rc t, nx = (l, oL) :: (x, ox) :: (d, od) :: news ∧ LsD oL vs.toArray ∧ FrsAt g vs fs ∧ Strm x d ox od most rc tm t ∧ (m "found" = some (.ref l) ∧ m "self" = some (.ref x)) ∧
    ((m "frame" = some .none ∧ R = .ok (fs, rc)) ∨ ∃ fv f, m "frame" = some fv ∧ (fv != .none) = true ∧ FrAt g fv f ∧ takeN most n rc (fs ++ [f]) = R ∧ rc.length + 1 ≤ n ∧ fs.length + 1 + rc.length ≤ 900)
theorem stepJ {cn : Str} {cs : Scope} {ccd : Value} {cl : List (Str × Addr)} {l : Addr} {oL : Obj} {Q : Flow → Shared → Prop} {rest : List Stmt} {pf : Pos} {R : Except Nat (List Frm × List UInt8)} {fs : List Frm} {vs : List Value}
    (hR : Rm A 10) (F : FrA A ((L, m) :: fr)) (C : Cx w g ((L, m) :: fr) h ((l, oL) :: (x, ox) :: (d, od) :: news)) (S : Strm x d ox od most r tm tr) (hne : ∀ q ∈ (l, oL) :: news, q.1 ≠ x ∧ q.1 ≠ d) (hm : most ≤ 500)
    (hm1 : m "found" = some (.ref l)) (hs : m "self" = some (.ref x)) (hL : LsD oL vs.toArray) (hfs : FrsAt g vs fs) (hRn : takeN most n r fs = R) (hn : r.length + 1 ≤ n) (hz : fs.length + r.length ≤ 900)
    (hQ : ∀ n' g' h' k' m' nx', n' < n → g.StaysIn g' → Cx w g' ((L, m') :: fr) h' nx' → TJ x d l most tm R news n' g' m' nx' → wpG κ (model prg w) A (execs rest (envX cn cs L a ccd cl)) Q E (St s h' k'))
    (exc : ∀ e : Nat, R = .error e → ∀ v s', Fx w s g ((L, m) :: fr) ((l, oL) :: news) (H3 e) v s' → E v s')
    (he : eval (.Call (.Attribute (.Name "self" px) "next_frame" apos) [] [] pos) (envX cn cs L a ccd cl) = (do
      let ov ← eval (.Name "self" px) (envX cn cs L a ccd cl)
      standAt apos.atName
      let (f, first) ← holding [ov] (getMethod ov "next_frame" (do return (← importBound (.Name "self" px) (envX cn cs L a ccd cl)).getD true))
      callWith pos f first (backTo pos (starEach [] (envX cn cs L a ccd cl))) []) := by rfl) (hx : cs.names.lookup ("self" : Str) = some .local := by rfl) (hy : cs.names.lookup ("frame" : Str) = some .local := by rfl) (hk : cs.kind = .function := by rfl)
    (hsw : swapsWith (.Call (.Attribute (.Name "self" px) "next_frame" apos) [] [] pos) (some (.Name "frame" pf)) pf.line (envX cn cs L a ccd cl) = pure false := by rfl) {ps : Pos} (hps : ps.line = pf.line := by rfl) :
    wpG κ (model prg w) A (execs (.Assign [.Name "frame" pf] (.Call (.Attribute (.Name "self" px) "next_frame" apos) [] [] pos) ps :: rest) (envX cn cs L a ccd cl)) Q E (St s h k) := by
  obtain ⟨n', rfl⟩ : ∃ n', n = n' + 1 := ⟨n - 1, by omega⟩
  unfold takeN at hRn
  refine stepF hR F C S hne hm (by omega) hs (fun q g' h' k' hg C' => ?_) (fun f r' q g' h' k' v ox' od' t hg C' S' hf => ?_) (fun e q v s' X => exc e (by rw [← hRn, q]) v s' X) he hx hy hk hsw hps
  · rw [q] at hRn
    exact hQ n' g' h' k' _ _ (Nat.lt_succ_self _) hg C' ⟨fs, vs, oL, ox, od, r, tr, rfl, hL, hfs.keeps hg, S, ⟨hm1, hs⟩, .inl ⟨rfl, hRn.symm⟩⟩
  · rw [q] at hRn
    have q1 := nextF_lt q
    refine hQ n' g' h' k' _ _ (Nat.lt_succ_self _) hg C' ⟨fs, vs, oL, ox', od', r', t, rfl, hL, hfs.keeps hg, S', ⟨hm1, hs⟩, .inr ⟨v, f, rfl, ?_, hf, hRn, by omega, by omega⟩⟩
    obtain ⟨_, _, _, rfl, _⟩ := hf
    rfl
theorem take_r {td : Tok} {Q : Value → Shared → Prop} (hR : Rm A 11) (F : FrA A fr) (C : Cx w g fr h ((x, ox) :: (d, od) :: news)) (S : Strm x d ox od most r tm tr) (hne : ∀ q ∈ news, q.1 ≠ x ∧ q.1 ≠ d) (hm : most ≤ 500) (hz : r.length + data.length ≤ 900)
    (ret : ∀ fs r', takeF most (r ++ data) = .ok (fs, r') → ∀ g' h' k' l vs ox' od' t, g.StaysIn g' → Cx w g' fr h' ((x, ox') :: (d, od') :: news) → Strm x d ox' od' most r' tm t → g'.IsList l vs.toArray → FrsAt g' vs fs → Q (.ref l) (St s h' k'))
    (exc : ∀ e : Nat, takeF most (r ++ data) = .error e → ∀ v s', Fx w s g fr news (H3 e) v s' → E v s') : wpG κ (model prg w) A (call (.ref 184) [.ref x, .bytes data.toArray td]) Q E (St s h k) := by
  refine' enterE2 news (binds := [("self", .ref x), ("data", .bytes data.toArray td)]) F C hR.lt ?k1 ?k2 ?k3 ?k4 (Ans (takeF most (r ++ data))) (fun v s' X => X.ans exc) fun L h₁ k₁ C₁ F₁ => ?_
  walk_at "M enter"
  refine gAsgA (gBin (gP (pRest S C₁ (nmL C₁)) fun _ k₂ => gP (nmL C₁) fun _ k₃ => addYg (by omega) fun t₃ k₃ => gP (nmL C₁) fun _ k₄ => setRest S C₁ hne fun h₂ k₂ ox₂ od₂ C₂ S₂ => ?_))
  refine gAsg (gLst (es := []) (newL fun h₃ l ol hn ho hl q => stoX (C₂.add q ho hn) fun h₄ k₄ C₄ => ?_) (by rfl))
  have hnl := C₂.nes hn
  have hne₃ : ∀ {o : Obj}, ∀ q ∈ (l, o) :: news, q.1 ≠ x ∧ q.1 ≠ d := fun q hq => by
    rcases List.mem_cons.mp hq with rfl | hq
    · exact ⟨(hnl _ (.head _)).symm, (hnl _ (.tail _ (.head _))).symm⟩
    · exact hne q hq
  have dr : ∀ {o : Obj}, ∀ p ∈ news, p ∈ (l, o) :: news := fun p hp => .tail _ hp
  have hnx : ∀ {o o' : Obj}, ∀ q ∈ (x, o) :: (d, o') :: news, q.1 ≠ l := fun q hq => by
    rcases List.mem_cons.mp hq with rfl | hq
    · exact hnl (x, ox₂) (.head _)
    · rcases List.mem_cons.mp hq with rfl | hq
      · exact hnl (d, od₂) (.tail _ (.head _))
      · exact hnl q (.tail _ (.tail _ hq))
  have hlen : (r ++ data).length ≤ 900 := by rw [List.length_append]; exact hz
  refine stepJ (R := takeF most (r ++ data)) (n := (r ++ data).length + 1) (fs := []) (vs := []) (by exact hR.in.le (by decide)) F₁.aa C₄ S₂ hne₃ hm rfl rfl hl .nil rfl (Nat.le_refl _) (by rw [List.length_nil, Nat.zero_add]; exact hlen)
    (fun n₅ g₅ h₅ k₅ m₅ nx₅ _ hg₅ C₅ J₅ => ?_) fun e q v s' X => X.back q C₁.G (fun _ _ e => e) dr
  refine gWhile (whileG (n := n₅) (E₁ := Bx w s g L fr news (Ans (takeF most (r ++ data)))) (TJ x d l most tm (takeF most (r ++ data)) news) C₅ J₅ (fun n₆ g₆ h₆ m₆ nx₆ k₆ hg₆ C₆ J₆ => ?_) fun v s' X => bxNoted F₁ rfl X fun _ _ y => y)
  obtain ⟨fs, vs, oL, ox₆, od₆, rc, t₆, rfl, hL, hfs, S₆, ⟨m1, m2⟩, J⟩ := J₆
  have hgg : g.StaysIn g₆ := fun b o e => hg₆ _ _ (hg₅ _ _ e)
  rcases J with ⟨m3, hRR⟩ | ⟨fv, f, m3, hfv, hf, hRR, hnn, hzz⟩
  · refine gT (tIsNot (nmL C₆ (hv := by exact m3))) fun k₇ => ?_
    show wpG _ _ _ (execs _ _) _ _ _
    refine retP (nmL C₆ (hv := by exact m1)) fun _ k' => ?_
    obtain ⟨z1, z2, z3⟩ := C₆.pop.inG hnx
    exact ret fs rc hRR _ _ k' l vs ox₆ od₆ t₆ (fun b o e => z1 _ _ (hgg _ _ e)) z2 S₆ (hL.1.is z3) (hfs.keeps z1)
  · refine gT (tIsNot (nmL C₆ (hv := by exact m3))) fun k₇ => ?_
    rw [hfv]
    have hl₆ := (C₆.N _ (.head _)).1
    refine gExpr (gMeth (gP (nmL C₆ (hv := by exact m1)) fun _ k₄ => getMethod_builtin (s := St s h₆ k₄) (hL.1.is hl₆).typeIs PySem.F.plainAttrs_list PySem.F.slot_list_append PySem.F.type_list_append (fun a e => by cases e; exact ⟨_, hl₆, hL.2⟩) ?_) (by rfl))
    refine gCall (gP (nmL C₆ (hv := by exact m3)) fun _ k₅ => ⟨kpB, gOf (appX hl₆ hL (fun h' o' ho' hL' hbut => ?_) ?_)⟩) (by rfl)
    · have C₈ := C₆.but (UpdF.head hnx) hbut ho'
      refine stepJ (fs := fs ++ [f]) (vs := vs ++ [fv]) (n := n₆) (by exact hR.in.le (by decide)) F₁.aa C₈ S₆ hne₃ hm m1 m2 ?_ (hfs.snoc hf) hRR hnn (by rw [List.length_append, List.length_singleton]; exact hzz)
        (fun n₉ g₉ h₉ k₉ m₉ nx₉ hn₉ hg₉ C₉ J₉ => gNil (wnNext hg₉ C₉ ⟨n₉, hn₉, J₉⟩)) fun e q v s' X => X.back q C₁.G hgg dr
      rw [← List.push_toArray]; exact hL'
    · rw [List.size_toArray, Paired.length hfs]; omega
end
end Mine

open PySem PySem.W PySem.Calls PyProof.Rows
set_option Elab.async false
set_option maxRecDepth 100000
set_option maxHeartbeats 2000000
set_option linter.unusedVariables false
namespace Mine
section
variable {κ : Bool} {w : World} {A : Around} {E E₁ : Value → Shared → Prop} {s : Shared} {g h : Heap} {fr : Fs} {L e a : Addr} {m : NsM} {news news' : List (Addr × Obj)} {k n nt : Nat} {env : Env} {rest body : List Stmt} {pos px py pt tp p : Pos} {o value slice lo hi : Expr} {x y : Str} {cn : Str} {cs : Scope} {ccd : Value} {cl : List (Str × Addr)}
theorem addL {l b : Addr} {vs ws : List Value} {Q : Value → Shared → Prop} (hl : h.IsList l vs.toArray) (hb : h.IsList b ws.toArray) (hz : vs.length + ws.length ≤ 100000)
    (hQ : ∀ h' t o, h.get? t = none → h'.get? t = some o → LsD o (vs ++ ws).toArray → h.StaysIn h' → Q (.ref t) (St s h' k)) : wpG κ (model prg w) A (binaryOp .Add (.ref l) (.ref b)) Q E (St s h k) := by
  obtain ⟨⟨cls, dd, data, sl⟩, ho, hc, n, hd⟩ := hl
  obtain ⟨⟨cls2, dd2, data2, sl2⟩, ho2, hc2, n2, hd2⟩ := hb
  simp only at hc hd hc2 hd2
  subst hc hd hc2 hd2
  have e : vs.toArray ++ ws.toArray = (vs ++ ws).toArray := by simp
  refine gOf (concat_meets (s := St s h k) ⟨_, ho, rfl⟩ ⟨_, ho2, rfl⟩ noFill_list_add seq_list_add PySem.F.slot_list_add PySem.F.entry_list_add (PySem.F.args_list_add_2 _ _) (list_addW l b vs.toArray ws.toArray n n2 dd dd2 sl sl2 (by rw [sizeLine_eq, List.size_toArray, List.size_toArray]; omega)) ⟨ho, ho2, ?_⟩)
  rw [e]
  exact hQ _ _ _ (get_size h) (Heap.get?_push_size _ rfl) ⟨⟨rfl, 0, rfl⟩, rfl⟩ (stays_push h _)
theorem slTail {l : Addr} {its : Array Value} {vl vu : Value} {lo hi : Option Int} {Q : Value → Shared → Prop} (pl : IsPart vl lo) (pu : IsPart vu hi) (hL : h.IsList l its) (hz : its.size ≤ 100000)
    (hQ : ∀ h' t o, h.get? t = none → h'.get? t = some o → LsD o (slicePick its lo hi none) → h.StaysIn h' → Q (.ref t) (St s h' k))
    (hs : ∀ a, subscripted slice false (.ref l) (.ref a) = operate [.ref a, .ref l] (getItem (.ref l) (.ref a))) (ht : ∀ r, letTemporaryGo value (.ref l) r = pure ()) :
    wpAny (model prg w) A (subscriptTail value slice (.ref l) (.ref h.objs.size)) Q E (St s (h.push { cls := .type "slice", data := .fields #[vl, vu, .none] }) k) := by
  refine subscriptTail_ops (Heap.IsList.typeIs (s := St s (h.push { cls := .type "slice", data := .fields #[vl, vu, .none] }) k) (hL.push _)) list_getitem_lookup
    (wpAny_getItem_list_slice (s := St s (h.push { cls := .type "slice", data := .fields #[vl, vu, .none] }) k) (hL.push _) (Heap.IsSliceOf.new ..) pl pu .none (by intro z; cases z) ?_ (by rw [sizeLine_eq]; omega)) (hs _) ht
  have n2 := get_size (h.push { cls := .type "slice", data := .fields #[vl, vu, .none] })
  refine hQ _ _ _ ?_ (Heap.get?_push_size _ rfl) ⟨⟨rfl, 0, rfl⟩, rfl⟩ fun b o e => stays_push _ _ _ _ (stays_push _ _ _ _ e)
  cases q : h.get? (h.push { cls := .type "slice", data := .fields #[vl, vu, .none] }).objs.size with
  | none => rfl
  | some o => have := stays_push h { cls := .type "slice", data := .fields #[vl, vu, .none] } _ _ q; rw [n2] at this; cases this
theorem slL' {l : Addr} {its : Array Value} {i : Nat} {iI : Int} {σ : Tok → Tok} {Q : Value → Shared → Prop} (hv : PEv w A env s h value fun _ => .ref l) (hl : PEv w A env s h lo fun t => .int iI (σ t)) (ei : iI = i) (hL : h.IsList l its) (hz : its.size ≤ 100000)
    (hQ : ∀ h' t o k', h.get? t = none → h'.get? t = some o → LsD o (its.toList.drop i).toArray → h.StaysIn h' → Q (.ref t) (St s h' k'))
    (hs : ∀ a, subscripted (.Slice (some lo) none none p) false (.ref l) (.ref a) = operate [.ref a, .ref l] (getItem (.ref l) (.ref a)) := by intro _; with_unfolding_all rfl) (ht : ∀ r, letTemporaryGo value (.ref l) r = pure () := by intro _; with_unfolding_all rfl) :
    wpG κ (model prg w) A (eval (.Subscript value (.Slice (some lo) none none p) pos) env) Q E (St s h k) := by
  subst ei
  refine gSub (gP hv fun t k₁ => gOf (wpAny_Slice (hl k₁ _ E fun t₁ k₂ => wpAny_pure (wpAny_pure ?_))))
  exact slTail (.int _ _) .none hL hz (fun h' t o hn ho hD q => by rw [slicePick_from'] at hD; exact hQ h' t o k₂ hn ho hD q) hs ht
theorem forXT {elts : List Expr} {I : Addr} {fp wr : List Addr} {n : Nat} {P : Nat → Array Value → Prop} {S : Nat → Heap → Prop} {Md : Nat → Addr → Heap → Prop} {R : Result → Shared → Prop} {Q : Flow → Shared → Prop} {bnd : Nat → Array Value → NsM → NsM} (J : Nat → NsM → List (Addr × Obj) → Prop)
    (W : WalksT prg w A I fp wr n P S Md) (hex : ∀ i h, S i h → ∀ b ∈ fp, ∃ o, h.get? b = some o)
    (C : Cx w g ((L, m) :: fr) h news) (hst : S 0 h) (hL : L ∉ fp) (hf : ∀ p ∈ fr, p.1 ∉ fp) (hnf : ∀ q ∈ news, q.1 ∉ fp) (hgw : ∀ b ∈ wr, g.get? b = none) (hJ : J 0 m news)
    (hasg : ∀ i T vals g' h m nx k (Q : Unit → Shared → Prop) E, P i vals → h.IsTuple T vals → g.StaysIn g' → Cx w g' ((L, m) :: fr) h nx → (∀ h' k', Cx w g' ((L, bnd i vals m) :: fr) h' nx → Q () (St s h' k')) → wpAny (model prg w) A (assign (.Tuple elts nt pt) env (.ref T)) Q E (St s h k))
    (hE : ∀ e s', E₁ e s' → Noted (model prg w) A env R e s') (hQ : ∀ f s', Q f s' → R (.ok f) s')
    (turn : ∀ i vals g' h m nx k, i < n → P i vals → J i m nx → g.StaysIn g' → Cx w g' ((L, bnd i vals m) :: fr) h nx → wpG κ (model prg w) A (execs body env) (Tn w s g' L fr (J (i + 1)) Q) E₁ (St s h k))
    (done : ∀ h m nx k, Cx w g ((L, m) :: fr) h nx → J n m nx → Q .next (St s h k)) : codeG κ (model prg w) A (.forLoop (.Tuple elts nt pt) (.ref I) body [] env) R (St s h k) := by
  refine cgFor (fun q s' => ∃ i h m nx k, s' = St s h k ∧ Cx w g ((L, m) :: fr) h nx ∧ S i h ∧ (∀ q ∈ nx, q.1 ∉ fp) ∧ J i m nx ∧ i ≤ n ∧ q = n - i) ?_ n ⟨0, h, m, news, k, rfl, C, hst, hnf, hJ, Nat.zero_le _, rfl⟩
  rintro q s' ⟨i, h, m, nx, k, rfl, C, hst, hnf, hJ, hi, rfl⟩
  have hf' : ∀ (m : NsM) (p), p ∈ ((L, m) :: fr : Fs) → p.1 ∉ fp := fun m p hp => by
    rcases List.mem_cons.mp hp with rfl | hp
    · exact hL
    · exact hf p hp
  have walked : ∀ h₁ : Heap, (∀ b o, b ∉ wr → h.get? b = some o → h₁.get? b = some o) → Cx w g ((L, m) :: fr) h₁ nx := fun h₁ hk =>
    C.walked hk (fun p hp hb => hf' m p hp (W.sub _ hb)) (fun q hq hb => hnf q hq (W.sub _ hb)) hgw
  have kept : ∀ {m m' : NsM} {nx nx' : List (Addr × Obj)} {h₁ h₂ : Heap} {j : Nat}, (∀ q ∈ nx, q.1 ∉ fp) → S j h₁ → Cx w (reb h₁ ((L, m) :: fr) nx) ((L, m') :: fr) h₂ nx' → S j h₂ ∧ ∀ q ∈ nx', q.1 ∉ fp := fun {m m' nx nx' h₁ h₂ j} hnf S₁ C₂ => by
    have got : ∀ b ∈ fp, ∀ o, h₁.get? b = some o → (reb h₁ ((L, m) :: fr) nx).get? b = some o := fun b hb o e => reb_get e (fun p hp z => hf' m p hp (z ▸ hb)) fun p hp z => hnf p hp (z ▸ hb)
    refine ⟨W.frame _ _ _ S₁ fun b hb o e => C₂.keep b o (got b hb o e), fun q hq hb => ?_⟩
    obtain ⟨o, e⟩ := hex _ _ S₁ q.1 hb
    have := (C₂.N q hq).2.1
    rw [got _ hb o e] at this
    cases this
  by_cases hlt : i < n
  · refine W.item i _ _ _ hlt hst fun T vals h₀ tk₀ hP hsz hT mid hk₀ => ?_
    refine W.go elts nt pt i T _ _ _ mid fun h₁ hst₁ hk₁' => ?_
    have hk₁ : ∀ b o, b ∉ wr → h.get? b = some o → h₁.get? b = some o := fun b o hb e => hk₁' b o hb (hk₀ b o hb e)
    have hT₁ : h₁.IsTuple T vals := hT.at fun o z => hk₁' T o (W.apart _ _ _ mid) z
    have C₁ := walked h₁ hk₁
    refine hasg i T vals _ h₁ m nx tk₀ _ _ hP hT₁ C₁.grow C₁.rebase fun h₂ k₂ C₂ => ?_
    obtain ⟨S₂, hn₂⟩ := kept hnf hst₁ C₂
    refine gMono (turn i vals _ h₂ m nx k₂ hlt hP hJ C₁.grow C₂) (fun f s₃ x => ?_) hE
    have fin : ∀ h' m' nx' k', Cx w (reb h₁ ((L, m) :: fr) nx) ((L, m') :: fr) h' nx' → J (i + 1) m' nx' → ∃ q', q' < n - i ∧ ∃ i' h m nx k, St s h' k' = St s h k ∧ Cx w g ((L, m) :: fr) h nx ∧ S i' h ∧ (∀ q ∈ nx, q.1 ∉ fp) ∧ J i' m nx ∧ i' ≤ n ∧ q' = n - i' := fun h' m' nx' k' C' hJ' => by
      obtain ⟨S', hn'⟩ := kept hnf hst₁ C'
      exact ⟨n - (i + 1), Nat.sub_succ_lt_self _ _ hlt, i + 1, h', m', nx', k', rfl, C'.less C.G C₁.grow, S', hn', hJ', hlt, rfl⟩
    cases f with
    | next => obtain ⟨h', m', nx', k', rfl, C', hJ'⟩ := x; exact fin h' m' nx' k' C' hJ'
    | cont => obtain ⟨h', m', nx', k', rfl, C', hJ'⟩ := x; exact fin h' m' nx' k' C' hJ'
    | brk => exact hQ _ _ x
    | ret v => exact hQ _ _ x
  · have hin : i = n := Nat.le_antisymm hi (Nat.not_lt.mp hlt)
    subst hin
    refine W.done _ _ _ hst fun h₁ tk₁ hk₁ => hQ _ _ (done h₁ m nx tk₁ (walked h₁ hk₁) hJ)
theorem callEnumT {l : Addr} {items : Array Value} {Q : Value → Shared → Prop} (hL : h.IsTuple l items)
    (hQ : ∀ h' it e, h.get? it = none → h.get? e = none → it ≠ e → IsEnum h' e it 0 .none → h'.IsTupleIter it l 0 → h.StaysIn h' → Q (.ref e) (St s h' k)) :
    wpAny (model prg w) A (call (.type "enumerate") [.ref l]) Q E (St s h k) := by
  obtain ⟨⟨c, dct, dt, sl⟩, hl, hc, n, hd⟩ := hL
  replace hc : c = .type "tuple" := hc
  replace hd : dt = .seq items n := hd
  subst hc hd
  refine callType_new PySem.F.called_enumerate (by decide) (PySem.F.typeCall_enumerate_1 _) (PySem.F.newCall_enumerate_1 _) (fun obj => PySem.F.args_object_init_2 obj _) PySem.F.entry_enumerate_new
    (meetsEnumNewT l items n dct sl) ⟨hl, ?_⟩
  have hz : (h.push { cls := .type "tuple_iterator", data := .fields #[.ref l, .int 0 0] }).objs.size = h.objs.size + 1 := Heap.size_push ..
  show _ ∧ _
  have he : IsEnum ((h.push { cls := .type "tuple_iterator", data := .fields #[.ref l, .int 0 0] }).push { cls := .type "enumerate", data := .fields #[.none, .bool false, .ref h.objs.size, rawInt 0, .none, .none] }) (h.push { cls := .type "tuple_iterator", data := .fields #[.ref l, .int 0 0] }).objs.size h.objs.size 0 .none :=
    Heap.get?_push_size (h.push { cls := .type "tuple_iterator", data := .fields #[.ref l, .int 0 0] }) rfl
  refine ⟨⟨_, he, rfl⟩, hQ _ _ _ (get_size h) ?_ (by rw [hz]; exact Nat.ne_of_lt (Nat.lt_succ_self _)) he ⟨_, Heap.get?_push_of_some _ (Heap.get?_push_size _ rfl), rfl, rfl⟩ fun b o e => stays_push _ _ _ _ (stays_push _ _ _ _ e)⟩
  exact Heap.get?_none_of_le (by rw [hz]; exact Nat.le_succ _)
theorem forEn {l e it : Addr} {items : Array Value} {Q : Flow → Shared → Prop} (J : Nat → NsM → List (Addr × Obj) → Prop) (hh : A.handled = none) (C : Cx w g ((L, m) :: fr) h news) (hl : g.IsTuple l items)
    (he : IsEnum h e it 0 .none) (hit : h.IsTupleIter it l 0) (hei : it ≠ e) (hge : g.get? e = none) (hgi : g.get? it = none) (hfe : ∀ p ∈ ((L, m) :: fr : Fs), p.1 ≠ e ∧ p.1 ≠ it) (hne : ∀ q ∈ news, q.1 ≠ e ∧ q.1 ≠ it) (hJ : J 0 m news)
    (turn : ∀ i v tk g' h m nx k, items[i]? = some v → J i m nx → g.StaysIn g' → Cx w g' ((L, up (up m x (.int i tk)) y v) :: fr) h nx → wpG κ (model prg w) A (execs body (envX cn cs L a ccd cl)) (Tn w s g' L fr (J (i + 1)) (Sq κ (model prg w) A (envX cn cs L a ccd cl) rest Q E)) No (St s h k))
    (done : ∀ h m nx k, Cx w g ((L, m) :: fr) h nx → J items.size m nx → wpG κ (model prg w) A (execs rest (envX cn cs L a ccd cl)) Q E (St s h k))
    (hk : cs.kind = .function := by rfl) (hx : cs.names.lookup x = some .local := by rfl) (hy : cs.names.lookup y = some .local := by rfl) :
    ForG κ w A s (.Tuple [.Name x px, .Name y py] nt pt) body (envX cn cs L a ccd cl) rest Q E (.ref e) (St s h k) := by
  obtain ⟨ol, hol, hor⟩ := id hl
  have nl : ∀ b, g.get? b = none → l ≠ b := fun b hb z => by rw [← z, hol] at hb; cases hb
  have hfp : ∀ b, b ≠ e → b ≠ it → g.get? b = none → b ∉ ([e, it, l] : List Addr) := fun b b1 b2 b3 hm => by
    simp only [List.mem_cons, List.not_mem_nil, or_false] at hm
    rcases hm with rfl | rfl | rfl
    · exact b1 rfl
    · exact b2 rfl
    · exact nl _ b3 rfl
  have W := WalksT.enumerateD (drawsTup (prog := prg) (w := w) (A := A.in1) hh it l (nl it hgi) items) e hei.symm (by simp only [List.mem_cons, List.not_mem_nil, or_false, not_or]; exact ⟨hei.symm, (nl e hge).symm⟩) (.head _)
  have hlh : h.IsTuple l items := hl.at fun o z => C.keep _ _ z
  refine W.self 0 _ _ _ ⟨⟨_, he⟩, hit, hlh⟩ ?_
  refine forXT (bnd := fun i vals m => match vals.toList with | [u, v] => up (up m x u) y v | _ => m) J W (fun i h' S b hb => ?_) C ⟨⟨_, he⟩, hit, hlh⟩ (hfp _ (hfe _ (.head _)).1 (hfe _ (.head _)).2 C.out) (fun p hp => hfp _ (hfe _ (.tail _ hp)).1 (hfe _ (.tail _ hp)).2 (C.F p (.tail _ hp)).2) (fun q hq => hfp _ (hne q hq).1 (hne q hq).2 (C.N q hq).2.1) (fun b hb => ?_) hJ
    (fun i T vals g' h m nx k Q E hP hT hg C hQ => ?_) (fun _ _ z => False.elim z) (fun _ _ z => z) (fun i vals g' h m nx k hi hP hJ hg C => ?_) done
  · obtain ⟨⟨_, h1⟩, ⟨o2, h2, _⟩, o3, h3, _⟩ := S
    simp only [List.mem_cons, List.not_mem_nil, or_false] at hb
    rcases hb with rfl | rfl | rfl
    · exact ⟨_, h1⟩
    · exact ⟨_, h2⟩
    · exact ⟨_, h3⟩
  · simp only [List.mem_cons, List.not_mem_nil, or_false] at hb
    rcases hb with rfl | rfl
    · exact hge
    · exact hgi
  · obtain ⟨t, v, _, rfl⟩ := hP
    exact asgT hh C hT hQ hk hx hy
  · obtain ⟨t, v, hv, rfl⟩ := hP
    exact turn i v t g' h m nx k hv hJ hg C
end
end Mine

open PySem PySem.W PySem.Calls PyProof.Rows
set_option Elab.async false
set_option maxRecDepth 100000
set_option maxHeartbeats 2000000
set_option linter.unusedVariables false
namespace Mine
local macro_rules | `(tactic| walk_at "M enter") => `(tactic| ((case k1 => k_is); (case k2 => k_is); (case k3 => exact fun _ => .of_eq rfl); (case k4 => rfl)))
theorem be_add : ∀ (k c n : Nat), be k (c * 256 ^ k + n) = be k n
  | 0, _, _ => rfl
  | k + 1, c, n => by
    show (_ / 256 ^ k % 256).toUInt8 :: be k _ = (_ / 256 ^ k % 256).toUInt8 :: be k n
    have e : c * 256 ^ (k + 1) + n = (c * 256) * 256 ^ k + n := by rw [Nat.pow_succ, Nat.mul_assoc, Nat.mul_comm 256]
    rw [e, be_add k, Nat.add_comm, Nat.add_mul_div_right _ _ (Nat.pow_pos (by decide)), Nat.add_mul_mod_self_right]
theorem encS_pow {z : Nat} (hz : 1 ≤ z) : 2 ^ (8 * z - 2) = 64 * 256 ^ (z - 1) := by
  rw [show (256 : Nat) ^ (z - 1) = 2 ^ (8 * (z - 1)) from (Nat.pow_mul 2 8 _).symm, show (64 : Nat) = 2 ^ 6 from rfl, ← Nat.pow_add]
  congr 1
  omega
theorem encB {n a z : Nat} (ha : a < 4) (hn : n < 2 ^ (8 * (z + 1) - 2)) : be (z + 1) (a * 2 ^ (8 * (z + 1) - 2) + n) = (n / 256 ^ z % 256 + 64 * a).toUInt8 :: be z n := by
  have hp := encS_pow (z := z + 1) (by omega)
  rw [Nat.add_sub_cancel] at hp
  rw [hp] at hn ⊢
  have q := Nat.pow_pos (n := z) (by decide : 0 < 256)
  have q1 : n / 256 ^ z < 64 := Nat.div_lt_of_lt_mul (by rw [Nat.mul_comm]; exact hn)
  show ((a * (64 * 256 ^ z) + n) / 256 ^ z % 256).toUInt8 :: be z _ = _
  rw [← Nat.mul_assoc, be_add, Nat.add_comm, Nat.add_mul_div_right _ _ q]
  have e : (n / 256 ^ z + a * 64) % 256 = n / 256 ^ z % 256 + 64 * a := by
    generalize n / 256 ^ z = x at q1 ⊢
    omega
  rw [e]
theorem bitsAt {a b c d : Tok} : ∀ {i : Nat} {v : Value}, ([.int 6 a, .int 14 b, .int 30 c, .int 62 d] : List Value).toArray[i]? = some v → i < 4 ∧ ∃ t, v = .int (8 * 2 ^ i - 2 : Nat) t
  | 0, _, rfl => ⟨by decide, _, rfl⟩
  | 1, _, rfl => ⟨by decide, _, rfl⟩
  | 2, _, rfl => ⟨by decide, _, rfl⟩
  | 3, _, rfl => ⟨by decide, _, rfl⟩
  | _ + 4, _, h => nomatch h
theorem rngUp : ∀ z : Nat, z ≤ 8 → Builtin.Range.small 0 (z : Int) 1 = true ∧ Builtin.Range.rangeSize 0 (z : Int) 1 = z := by decide +kernel
theorem toU8 (x : Nat) : ((x % 256).toUInt8.toNat : Int) = (x : Int) % 256 := by
  rw [Nat.toUInt8_eq, UInt8.toNat_ofNat']
  omega
abbrev bI (l : List UInt8) : List Int := l.map fun b => (b.toNat : Int)
theorem bI_rng (l : List UInt8) : ∀ n ∈ bI l, 0 ≤ n ∧ n < 256 := fun n hn => by
  obtain ⟨b, _, rfl⟩ := List.mem_map.mp hn
  have := b.toNat_lt
  exact ⟨Int.natCast_nonneg _, by omega⟩
theorem bI_arr (l : List UInt8) : byteArr (bI l) = l.toArray := by
  unfold byteArr
  rw [List.map_map]
  congr 1
  conv => rhs; rw [← List.map_id l]
  refine List.map_congr_left fun b _ => ?_
  show ((b.toNat : Int)).toNat.toUInt8 = b
  rw [Int.toNat_natCast]
  exact UInt8.ofNat_toNat
section
variable {κ : Bool} {w : World} {A : Around} {E E₁ : Value → Shared → Prop} {s : Shared} {g h : Heap} {fr : Fs} {L e a : Addr} {m : NsM} {news news' : List (Addr × Obj)} {k n nt : Nat} {env : Env} {pos px py pt tp p : Pos} {l r : Expr}
theorem pPow2 {n : Nat} {τ σ : Tok → Tok} (hl : PEv w A env s h l fun t => .int 2 (τ t)) (hr : PEv w A env s h r fun t => .int n (σ t)) (hc : n ≤ 1000) : PEv w A env s h (.BinOp l .Pow r pos) fun t => .int ((2 ^ n : Nat) : Int) t := by
  have := pPow (pos := pos) hl hr ⟨Int.natCast_nonneg _, by omega, by decide⟩
  rw [Int.toNat_natCast, cast2] at this
  exact this
theorem varint_l {tn : Tok} {Q : Value → Shared → Prop} (hR : Rm A 1) (C : Cx w g fr h news) (hn : n < 2 ^ 62)
    (ret : ∀ h' t k', Cx w g fr h' news → Q (.bytes (enc n).toArray t) (St s h' k')) : wpG κ (model prg w) A (call (.ref 224) [.int n tn]) Q E (St s h k) := by
  refine' enterG (binds := [("number", .int n tn)]) C hR.lt ?k1 ?k2 ?k3 ?k4 fun L h₁ k₁ C₁ => ?_
  walk_at "M enter"
  have v3 := vix3 n
  refine gFor (callB (nmB (v := .type "enumerate") C₁ (by rfl) (by k_is) (by rfl) (by decide)) (fun _ => kpT) fun k₂ => gTup (gP cI fun t6 k3 => gP cI fun t14 k4 => gP cI fun t30 k5 => gP cI fun t62 k6 => newT (by decide : 4 ≤ 1000) fun h₂ t hnt ho z => ?_) (by rfl)) (fun _ => rfl)
  obtain ⟨y1, C₂, y3⟩ := C₁.toG hnt ho z
  refine gOf (callEnumT (s := s) (l := t) ⟨_, ho, rfl, 0, rfl⟩ fun h₃ it e hit he hei hE hI hs => ?_)
  have C₃ := C₂.on hs
  refine forEn (fun i m nx => nx = news ∧ m "number" = some (.int n tn) ∧ i ≤ vix n) hR.hh C₃ ⟨_, y3, rfl, 0, rfl⟩ hE hI hei (C₂.no he) (C₂.no hit) (fun p hp => ⟨(C₂.noFr he p hp).symm, (C₂.noFr hit p hp).symm⟩) (fun q hq => ⟨C₂.nes he q hq, C₂.nes hit q hq⟩) ⟨rfl, rfl, Nat.zero_le _⟩
    (fun i v tk g' h₄ m nx k₄ hv J hg C₄ => ?_) fun h₄ m nx k₄ C₄ J => ?_
  · obtain ⟨rfl, hm, hi⟩ := J
    obtain ⟨hi4, tb, rfl⟩ := bitsAt hv
    refine ifP (tLt (nmL C₄ (hv := by exact hm)) (pPow2 cI (nmL C₄) (by have := (by decide : ∀ i < 4, 8 * 2 ^ i - 2 ≤ 1000) i hi4; exact this))) (fun b k₅ => ?_) fun b k₅ => gNil (tnNext C₄ ⟨rfl, hm, ?_⟩)
    · have hlt : n < 2 ^ (8 * 2 ^ i - 2) := Int.ofNat_lt.mp (of_decide_eq_true b)
      have hiv : i = vix n := Nat.le_antisymm hi ((vixLe hn i hi4).mp hlt)
      have z1 : 2 ^ i = 2 ^ i - 1 + 1 := (Nat.sub_add_cancel Nat.one_le_two_pow).symm
      have z8 : 2 ^ i ≤ 8 := Nat.pow_le_pow_right (by decide) (Nat.le_of_lt_succ hi4)
      refine gSwap hR.hh (gLst (es := []) (newL fun h₅ l ol hnl hol hl q => gP (pPow2 cI (nmL (C₄.add q hol hnl)) (by omega)) fun t₂ k₂ => ⟨_, _, _, _, _, _, _, rfl, rfl, C₄.add q hol hnl, fun h₆ k₆ C₆ => ?_⟩) (by rfl))
      refine gFor (callB (nmB (v := .type "range") C₆ (by rfl) (by k_is) (by rfl) (by decide)) (fun _ => kpT) fun k₃ => gP (nmL C₆) fun t1 k1 => gOf (call_range_1 (s := St s h₆ k1) ?_)) (fun _ => rfl)
      refine forRng (s := s) (i₀ := 0) (j := ((2 ^ i : Nat) : Int)) (st := 1) (n := 2 ^ i) (fun j m nx' => ∃ r o vs, nx' = (r, o) :: nx ∧ LsD o (List.toArray vs) ∧ IntsAre vs (bI (be j n)) ∧ (m "row" = some (.ref r) ∧ ∃ t, m "number" = some (.int (n / 256 ^ j : Nat) t)) ∧ m "at" = some (.int i tk))
        hR.hh (C₆.on (stays_push _ _)) (Heap.get?_push_size _ rfl) (rngUp _ z8).1 (rngUp _ z8).2 ⟨l, ol, [], rfl, hl, .nil, ⟨rfl, tn, by rw [Nat.pow_zero, Nat.div_one]; exact hm⟩, rfl⟩ (fun j tj g₇ h₇ m₇ nx' k₇ hj J hg₇ C₇ => ?_) fun h₇ m₇ nx' k₇ C₇ J => ?_
      · obtain ⟨r, o, vs, rfl, hD, hI, ⟨m1, tq, m2⟩, m3⟩ := J
        refine gAsg (gBin (gLst (gP (pMod (nmL C₇ (hv := by exact m2)) cI (by decide)) fun t₈ k₈ => newL (hz := (by decide : 1 ≤ 1000)) fun h₉ l₉ o₉ hn₉ ho₉ hl₉ q₉ => ?_) (by rfl)))
        have C₉ := C₇.add q₉ ho₉ hn₉
        refine gP (nmL C₉ (hv := by exact m1)) fun _ k₉ => addL (hl₉.1.is ho₉) (hD.1.is (C₉.N _ (.tail _ (.head _))).1) ?_ fun h₃ t₃ o₃ hn₃ ho₃ hl₃ q₃ => stoX (C₉.add q₃ ho₃ hn₃) fun h₅ k₅ C₅ => ?_
        · rw [hI.length, List.length_map, be_len]
          show 1 + j ≤ _
          omega
        refine asgP C₅ (pDiv (nmL C₅ (hv := by exact m2)) cI (by decide)) fun h₆ t₆ k₆ C₆ => gNil (tnNext (C₆.drop (subCons fun p hp => .tail _ (.tail _ hp))) ⟨t₃, o₃, _, rfl, hl₃, ?_, ⟨rfl, t₆, ?_⟩, m3⟩)
        · show IntsAre (Value.int _ t₈ :: vs) (((n / 256 ^ j % 256).toUInt8.toNat : Int) :: bI (be j n))
          rw [toU8 (n / 256 ^ j)]
          exact .cons _ _ hI
        · show some (Value.int (n / 256 ^ j / 256 : Nat) t₆) = _
          rw [Nat.div_div_eq_div_mul, ← Nat.pow_succ]
      · obtain ⟨r, o, vs, rfl, hD, hI, ⟨m1, tq, m2⟩, m3⟩ := J
        have hI₂ : IntsAre vs (((n / 256 ^ (2 ^ i - 1) % 256).toUInt8.toNat : Int) :: bI (be (2 ^ i - 1) n)) := by
          have e : be (2 ^ i) n = be (2 ^ i - 1 + 1) n := by rw [← z1]
          rw [e] at hI
          exact hI
        rw [toU8 (n / 256 ^ (2 ^ i - 1))] at hI₂
        cases hI₂ with
        | @cons _ t0 vs _ hI₂ =>
        have hvs : vs.length ≤ 8 := by rw [hI₂.length, List.length_map, be_len]; omega
        refine gRet (callB (nmB (v := .type "bytes") C₇ (by rfl) (by k_is) (by rfl) (by decide)) (fun _ => kpT) fun k₈ => gBin (gLst (gP (pAdd (pItL (hD.1.is (C₇.N _ (.head _)).1) (nmL C₇ (hv := by exact m1)) cI (by decide) rfl) (pMul cI (nmL C₇ (hv := by exact m3)) (by decide))) fun t₉ k₉ => newL (hz := (by decide : 1 ≤ 1000)) fun h₉ l₉ o₉ hn₉ ho₉ hl₉ q₉ => ?_) (by rfl)))
        have C₉ := C₇.add q₉ ho₉ hn₉
        refine slL' (i := 1) (nmL C₉ (hv := by exact m1)) cI rfl (hD.1.is (C₉.N _ (.tail _ (.head _))).1) (by rw [List.size_toArray, List.length_cons]; omega) fun h₃ t₃ o₃ k₃ hn₃ ho₃ hl₃ q₃ => ?_
        refine addL (hl₉.1.is (q₃ _ _ ho₉)) (hl₃.1.is ho₃) (by show 1 + vs.length ≤ _; omega) fun h₄ t₄ o₄ hn₄ ho₄ hl₄ q₄ => ?_
        have hs : n / 256 ^ (2 ^ i - 1) < 64 := by
          refine Nat.div_lt_of_lt_mul ?_
          rw [Nat.mul_comm, ← encS_pow Nat.one_le_two_pow]
          exact hlt
        refine gOf (call_bytes_ints (s := St s h₄ k₃) (ns := (((n / 256 ^ (2 ^ i - 1) : Nat) : Int) % 256 + 64 * (i : Int)) :: bI (be (2 ^ i - 1) n)) (hl₄.1.is ho₄) (.cons _ _ hI₂) (fun y hy => ?_) (by rw [sizeLine_eq]; show vs.length + 1 ≤ _; omega) hR.hh fun h₅ t₅ k₅ hk₅ => ?_)
        · rcases List.mem_cons.mp hy with rfl | hy
          · generalize n / 256 ^ (2 ^ i - 1) = x at hs ⊢
            omega
          · exact bI_rng _ y hy
        · have e : byteArr ((((n / 256 ^ (2 ^ i - 1) : Nat) : Int) % 256 + 64 * (i : Int)) :: bI (be (2 ^ i - 1) n)) = (enc n).toArray := by
            have e1 : enc n = (n / 256 ^ (2 ^ i - 1) % 256 + 64 * i).toUInt8 :: be (2 ^ i - 1) n := by
              unfold enc vsz
              rw [← hiv, z1]
              exact encB hi4 (by rw [← z1]; exact hlt)
            have e2 := bI_arr (be (2 ^ i - 1) n)
            unfold byteArr at e2 ⊢
            have e3 := congrArg Array.toList e2
            dsimp only at e3
            rw [e1, List.map_cons, e3]
            have e4 : (((n / 256 ^ (2 ^ i - 1) : Nat) : Int) % 256 + 64 * (i : Int)).toNat = n / 256 ^ (2 ^ i - 1) % 256 + 64 * i := by
              generalize n / 256 ^ (2 ^ i - 1) = x
              omega
            rw [e4]
          rw [e]
          exact ret _ _ _ (((((C₉.on q₃).on q₄).on hk₅).drop (fun p hp => .tail _ (.tail _ hp))).pop.less C.G fun b o e => hg _ _ (y1 _ _ e))
    · have : ¬ n < 2 ^ (8 * 2 ^ i - 2) := fun z => of_decide_eq_false b (Int.ofNat_lt.mpr z)
      exact Nat.lt_of_not_le fun z => this ((vixLe hn i hi4).mpr z)
  · obtain ⟨_, _, z⟩ := J
    exact absurd z (Nat.not_le.mpr v3)
end
end Mine

open PySem PySem.W PySem.Calls PyProof.Rows
set_option Elab.async false
set_option maxRecDepth 100000
set_option maxHeartbeats 2000000
set_option linter.unusedVariables false
namespace Mine
local macro_rules | `(tactic| walk_at "M enter") => `(tactic| ((case k1 => k_is); (case k2 => k_is); (case k3 => exact fun _ => .of_eq rfl); (case k4 => rfl)))
section
variable {κ : Bool} {w : World} {A : Around} {E E₁ : Value → Shared → Prop} {s : Shared} {g h : Heap} {fr : Fs} {L e a : Addr} {m : NsM} {news news' : List (Addr × Obj)} {k n nt : Nat} {env : Env} {pos px py pt tp p : Pos} {l r : Expr}
theorem plain_l {kd : Nat} {tk tp : Tok} {p : List UInt8} {Q : Value → Shared → Prop} (hR : Rm A 2) (C : Cx w g fr h news) (hk : kd < 2 ^ 62) (hp : p.length ≤ 1000)
    (ret : ∀ h' t k', Cx w g fr h' news → Q (.bytes (plainB kd p).toArray t) (St s h' k')) : wpG κ (model prg w) A (call (.ref 231) [.int kd tk, .bytes p.toArray tp]) Q E (St s h k) := by
  refine' enterG (binds := [("kind", .int kd tk), ("payload", .bytes p.toArray tp)]) C hR.lt ?k1 ?k2 ?k3 ?k4 fun L h₁ k₁ C₁ => ?_
  walk_at "M enter"
  refine gRet (gBin (gBin (callF C₁ (by rfl) (by k_is) (by k_is) fun k₂ => gP (nmL C₁) fun t₂ k₃ => ⟨C₁.keep, varint_l hR.in C₁ hk fun h₅ t₅ k₅ C₅ =>
    callF C₅ (by rfl) (by k_is) (by k_is) fun k₆ => gP (pLenY (nmB (v := .builtin "len") C₅ (by rfl) (by k_is) (by rfl) (by decide)) (nmL C₅) (by simp only [List.size_toArray]; exact Nat.le_trans hp (by decide))) fun t₇ k₇ => ⟨C₅.keep,
      varint_l hR.in C₅ (Nat.lt_of_le_of_lt hp (by decide)) fun h₉ t₉ k₉ C₉ => addYg (Nat.le_trans (Nat.add_le_add (enc_le _) (enc_le _)) (by decide)) fun t₁₀ k₁₀ => gP (nmL C₉) fun _ k₁₁ => addYg ?_ fun t k' => ret _ t k' C₉.pop⟩⟩)))
  rw [List.length_append]
  exact Nat.le_trans (Nat.add_le_add (Nat.add_le_add (enc_le _) (enc_le _)) hp) (by decide)
theorem drawX {b l' : Addr} {o : Obj} {G : Obj → List (Addr × Obj)} {cn : Str} {cs : Scope} {ccd : Value} {cl : List (Str × Addr)} {fa : Addr} {x : Str} {N : Nat} {Rr : Heap → Value → Prop} {Q : Value → Shared → Prop} (D : Draws w s fa N Rr) (hR : Rm A N) (C : Cx w g ((L, m) :: fr) h news) (U : UpdF b o news G) (B : BoxO l' o) (I : Inner g l')
    (hv : nsIn (KK w.params) mainGlobals x = some (some (.ref fa))) (hkp : keepIn (KK w.params) (.ref fa) = true) (hb : m "box" = some (.ref b))
    (ret : ∀ g' h' k' o' v, g.StaysIn g' → Cx w g' ((L, m) :: fr) h' (G o') → BoxO l' o' → Rr g' v → Q v (St s h' k')) 
    (hx : cs.names.lookup x = some .globalImplicit := by rfl) (hbx : cs.names.lookup ("box" : Str) = some .local := by rfl) (hk : cs.kind = .function := by rfl) (hd : (x == ("__debug__" : Str)) = false := by decide +kernel)
    (hs : starEach [.Name "box" py] (envX cn cs L a ccd cl) = [.Name "box" py].map fun e => (false, eval e (envX cn cs L a ccd cl)) := by rfl) :
    wpG κ (model prg w) A (eval (.Call (.Name x px) [.Name "box" py] [] pos) (envX cn cs L a ccd cl)) Q E (St s h k) :=
  callF C hx hv hkp (fun k₁ => gP (nmL C (hv := by exact hb) (hx := hbx) (hk := hk)) fun _ k₂ => ⟨C.keep, D hR C U B I ret⟩) hs hk hd
theorem nats4 {a b c d : Tok} : ∀ {i : Nat}, i < 4 → ∃ n t, ([.int 60 a, .int (10 ^ 4) b, .int (10 ^ 9) c, .int (10 ^ 12) d] : List Value).toArray[i]? = some (.int (n : Nat) t) ∧ 0 < n ∧ n ≤ 10 ^ 12
  | 0, _ => ⟨60, _, rfl, by decide, by decide⟩
  | 1, _ => ⟨10 ^ 4, _, rfl, by decide, by decide⟩
  | 2, _ => ⟨10 ^ 9, _, rfl, by decide, by decide⟩
  | 3, _ => ⟨10 ^ 12, _, rfl, by decide, by decide⟩
  | _ + 4, h => absurd h (by omega)
theorem number_d : Draws w s 238 2 fun _ v => ∃ (n : Nat) (t : Tok), v = .int n t ∧ n < 2 ^ 62 := by
  intro κ A g h fr news b l o G k Q E hR C U B I ret
  refine' enterG (binds := [("box", .ref b)]) C hR.lt ?k1 ?k2 ?k3 ?k4 fun L h₁ k₁ C₁ => ?_
  walk_at "M enter"
  refine gRet (gBin (gBin (drawX next_d hR.in C₁ U B I (by k_is) (by k_is) rfl fun g₂ h₂ k₂ o₂ v₂ hg₂ C₂ B₂ hv₂ => drawX next_d hR.in C₂ (updNext U) B₂ (I.keeps hg₂) (by k_is) (by k_is) rfl fun g₃ h₃ k₃ o₃ v₃ hg₃ C₃ B₃ hv₃ => ?_)))
  obtain ⟨x2, t2, rfl, x20, x21⟩ := hv₂
  obtain ⟨x3, t3, rfl, x30, x31⟩ := hv₃
  have m0 : 0 ≤ x2 * x3 := Int.mul_nonneg x20 x30
  refine gOf (PyProof.Rows.mul_int (s := St s h₃ k₃) ?_ (mulOk (by omega)))
  refine gSub (gLst (gP cI fun t4 k4 => gP (pPow cI cI (by decide)) fun t5 k5 => gP (pPow cI cI (by decide)) fun t6 k6 => gP (pPow cI cI (by decide)) fun t7 k7 => newL (hz := (by decide : 4 ≤ 1000)) fun h₈ l₈ o₈ hn₈ ho₈ hl₈ q₈ => ?_) (by rfl))
  have C₈ := C₃.add q₈ ho₈ hn₈
  have hne : l₈ ≠ b := C₃.nes hn₈ _ (updIn (updNext U)) |>.symm
  refine gBin (drawX next_d hR.in C₈ (UpdF.tail hne (updNext U)) B₃ (I.keeps fun _ _ z => hg₃ _ _ (hg₂ _ _ z)) (by k_is) (by k_is) rfl fun g₉ h₉ k₉ o₉ v₉ hg₉ C₉ B₉ hv₉ => gP cI fun t10 k10 => ?_)
  obtain ⟨x9, t9, rfl, x90, x91⟩ := hv₉
  refine gOf (mod_int (s := St s h₉ k10) (by decide) ?_)
  rw [Int.fmod_eq_emod_of_nonneg x9 (by decide)]
  have q0 := Int.emod_nonneg x9 (by decide : (4 : Int) ≠ 0)
  have q1 := Int.emod_lt_of_pos x9 (by decide : (0 : Int) < 4)
  obtain ⟨n, tn, hn, n0, n1⟩ := nats4 (a := t4) (b := t5) (c := t6) (d := t7) (i := (x9 % 4).toNat) (by omega)
  refine tail_any (hl₈.1.is (C₉.N _ (.head _)).1).typeIs slot_list_getitem.lookup (wpAny_getItem_list (hl₈.1.is (C₉.N _ (.head _)).1) q0 (by omega) hn ?_) (by rfl)
  refine gOf (mod_int (by omega) ?_)
  rw [Int.fmod_eq_emod_of_nonneg _ (by omega)]
  have y0 := Int.emod_nonneg (x2 * x3) (by omega : (n : Int) ≠ 0)
  have y1 := Int.emod_lt_of_pos (x2 * x3) (by omega : (0 : Int) < n)
  obtain ⟨y, hy⟩ := Int.eq_ofNat_of_zero_le y0
  rw [hy] at y1 ⊢
  exact ret g₉ h₉ _ o₉ _ (fun _ _ z => hg₉ _ _ (hg₃ _ _ (hg₂ _ _ z))) (C₉.drop fun p hp => .tail _ hp).pop B₉ ⟨y, _, rfl, by omega⟩
end
end Mine

open PySem PySem.W PySem.Calls PyProof.Rows
set_option Elab.async false
set_option maxRecDepth 100000
set_option maxHeartbeats 2000000
set_option linter.unusedVariables false
namespace Mine
local macro_rules | `(tactic| walk_at "M enter") => `(tactic| ((case k1 => k_is); (case k2 => k_is); (case k3 => exact fun _ => .of_eq rfl); (case k4 => rfl)))
theorem IntsAre.takeN : ∀ {vs : List Value} {ns : List Int} (i : Nat), IntsAre vs ns → IntsAre (vs.take i) (ns.take i)
  | _, _, 0, _ => .nil
  | _, _, _ + 1, .nil => .nil
  | _, _, i + 1, .cons n t h => .cons n t (IntsAre.takeN i h)
theorem IntsAre.at' : ∀ {vs : List Value} {ns : List Int} {i : Nat} {v : Value}, IntsAre vs ns → vs[i]? = some v → ∃ n t, v = .int n t ∧ ns[i]? = some n
  | _, _, 0, _, .cons n t h, e => by cases e; exact ⟨n, t, rfl, rfl⟩
  | _, _, i + 1, _, .cons n t h, e => IntsAre.at' (i := i) h e
section
variable {κ : Bool} {w : World} {A : Around} {E E₁ : Value → Shared → Prop} {s : Shared} {g h : Heap} {fr : Fs} {L e a : Addr} {m : NsM} {news news' : List (Addr × Obj)} {k n nt : Nat} {env : Env} {pos px py pt tp p : Pos} {l r value lo : Expr}
theorem slLu {l : Addr} {its : Array Value} {i : Nat} {iI : Int} {σ : Tok → Tok} {Q : Value → Shared → Prop} (hv : PEv w A env s h value fun _ => .ref l) (hl : PEv w A env s h lo fun t => .int iI (σ t)) (ei : iI = i) (hL : h.IsList l its) (hz : its.size ≤ 100000)
    (hQ : ∀ h' t o k', h.get? t = none → h'.get? t = some o → LsD o (its.toList.take i).toArray → h.StaysIn h' → Q (.ref t) (St s h' k'))
    (hs : ∀ a, subscripted (.Slice none (some lo) none p) false (.ref l) (.ref a) = operate [.ref a, .ref l] (getItem (.ref l) (.ref a)) := by intro _; with_unfolding_all rfl) (ht : ∀ r, letTemporaryGo value (.ref l) r = pure () := by intro _; with_unfolding_all rfl) :
    wpG κ (model prg w) A (eval (.Subscript value (.Slice none (some lo) none p) pos) env) Q E (St s h k) := by
  subst ei
  refine gSub (gP hv fun t k₁ => gOf (wpAny_Slice (wpAny_pure (hl k₁ _ E fun t₁ k₂ => wpAny_pure ?_))))
  exact slTail .none (.int _ _) hL hz (fun h' t o hn ho hD q => by rw [slicePick_upto'] at hD; exact hQ h' t o k₂ hn ho hD q) hs ht
theorem box_l {sl : Addr} {vs : List Value} {ns : List Int} {Q : Value → Shared → Prop} (hR : Rm A 1) (C : Cx w g fr h news) (hl : g.IsList sl vs.toArray) (hi : IntsAre vs ns) (hz : vs.length ≤ 63)
    (ret : ∀ g' h' k' b o l', g.StaysIn g' → Cx w g' fr h' ((b, o) :: news) → BoxO l' o → Inner g' l' → (∀ q ∈ news, q.1 ≠ b) → Q (.ref b) (St s h' k')) : wpG κ (model prg w) A (call (.ref 217) [.ref sl]) Q E (St s h k) := by
  refine' enterG (binds := [("script", .ref sl)]) C hR.lt ?k1 ?k2 ?k3 ?k4 fun L h₁ k₁ C₁ => ?_
  walk_at "M enter"
  have hsz : vs.toArray.size ≤ 1000000 := by rw [List.size_toArray]; omega
  have hl₁ := hl.at fun o z => C₁.keep _ _ z
  refine gRet (gLst (gP (pAdd (pMul (pLenL C₁ hl₁ (nmL C₁) hsz (hv := by k_is)) cI ?_) cI) fun t₁ k₁ => gBin (gComp ?_ (by rfl))) (by rfl))
  · rw [List.size_toArray]; omega
  refine slLu (i := 20) (nmL C₁) cI rfl hl₁ (by rw [List.size_toArray]; omega) fun h₂ t₂ o₂ k₂ hn₂ ho₂ hl₂ q₂ => ?_
  obtain ⟨y1, C₂, y3⟩ := C₁.toG hn₂ ho₂ q₂
  refine compLs (fun i g' ys nx => nx = news ∧ ∃ ms, IntsAre ys ms ∧ ms.length = i ∧ ∀ m ∈ ms, 0 ≤ m ∧ m < 99991) hR.hh C₂ (hl₂.1.is y3) ⟨rfl, [], .nil, rfl, fun _ z => nomatch z⟩ (fun i v g' h' mc nx k oI oD ys I D Cc hv J hg C₃ hne hID => ?_) (fun g' h₃ D oD nx k₃ ys hg C₃ hD hneD J => ?_) (fun Cc => ⟨rfl, rfl, rfl, rfl⟩) (hn := ?_)
  · obtain ⟨rfl, ms, hms, hlen, hm⟩ := J
    rw [List.getElem?_toArray] at hv
    obtain ⟨x, tx, rfl, _⟩ := IntsAre.at' (IntsAre.takeN 20 hi) hv
    refine wpAny_tests_nil (gAny (gBin (callB (nmBe (v := .builtin "abs") C₃ ⟨rfl, rfl, rfl, rfl⟩ (by k_is) (by rfl) (by decide)) (fun _ => kpB) fun k₄ => gP (nmLe C₃ ⟨rfl, rfl, rfl, rfl⟩) fun _ k₅ => gOf (call_abs_int (s := St s h' k₅) fun u k₆ => gP cI fun t₇ k₇ => gOf (mod_int (s := St s h' k₇) (by decide) ?_)))))
    rw [Int.fmod_eq_emod_of_nonneg _ (by decide)]
    refine ⟨g', h', nx, _, _, rfl, fun _ _ z => z, C₃, hne, rfl, ms ++ [_], IntsAre.append hms (.cons _ _ .nil), by rw [List.length_append, hlen]; rfl, fun y hy => ?_⟩
    rcases List.mem_append.mp hy with hy | hy
    · exact hm y hy
    · rw [List.mem_singleton.mp hy]
      exact ⟨Int.emod_nonneg _ (by decide), Int.emod_lt_of_pos _ (by decide)⟩
  · obtain ⟨rfl, ms, hms, hlen, hm⟩ := J
    have hlen2 : ms.length ≤ 20 := by
      rw [hlen, List.size_toArray]
      exact List.length_take_le _ _
    have hls : h₃.IsList sl vs.toArray := hl.at fun o z => C₃.keep _ _ (hg _ _ (y1 _ _ z))
    refine gLst (gP (pAdd (pLenL C₃ hls (nmL C₃) hsz (hv := by k_is)) cI) fun t₄ k₄ => newL (hz := (by decide : 1 ≤ 1000)) fun h₄ l₄ o₄ hn₄ ho₄ hl₄ q₄ => ?_) (by rfl)
    refine addL (hD.is (q₄ _ _ (C₃.N _ (.head _)).1)) (hl₄.1.is ho₄) (by rw [hms.length]; show ms.length + 1 ≤ _; omega) fun h₅ l₅ o₅ hn₅ ho₅ hl₅ q₅ => ?_
    obtain ⟨x1, C₅, x3⟩ := (((C₃.drop (news' := nx) fun p hp => .tail _ hp).on q₄)).toG hn₅ ho₅ q₅
    refine gP cI fun t₆ k₆ => newL (hz := (by decide : 3 ≤ 1000)) fun h₇ b o hn₇ ho₇ hl₇ q₇ => ?_
    refine ret _ h₇ k₆ b o l₅ (fun _ _ z => x1 _ _ (hg _ _ (y1 _ _ z))) (C₅.add q₇ ho₇ hn₇).pop ⟨_, _, _, _, hl₇.1, ?_, ?_, by decide⟩ ⟨_, hl₅.1.is x3, ?_, ?_, ?_⟩ (C₅.nes hn₇)
    · rw [List.size_toArray]; omega
    · rw [List.size_toArray]; omega
    · rw [List.size_toArray, List.length_append]; exact Nat.lt_of_lt_of_le (Nat.lt_succ_self _) (Nat.le_add_left _ _)
    · rw [List.size_toArray, List.length_append, hms.length]; show ms.length + 1 < _; omega
    · intro i v e
      rw [List.getElem?_toArray] at e
      obtain ⟨x, t, rfl, e'⟩ := IntsAre.at' (IntsAre.append hms (.cons _ t₄ .nil)) e
      refine ⟨x, t, rfl, ?_⟩
      rcases List.mem_append.mp (List.mem_of_getElem? e') with hy | hy
      · exact hm x hy
      · rw [List.mem_singleton.mp hy, List.size_toArray]
        omega
  · rw [List.size_toArray]; exact Nat.le_trans (List.length_take_le _ _) (by decide)
end
end Mine

open PySem PySem.W PySem.Calls PyProof.Rows
set_option Elab.async false
set_option maxRecDepth 100000
set_option maxHeartbeats 2000000
set_option linter.unusedVariables false
namespace Mine
def okDefK (scope : Scope) (binds : List (Str × Value)) : Bool :=
  !scope.isCoroutine && (!scope.isGenerator && (scope.kind == .function && binds.all fun y => scope.names.lookup y.1 == some .local || (scope.names.lookup y.1 == some .cell && ((cellsFrom 0 scope.names []).map (·.1)).contains y.1)))
theorem lookupSome : ∀ {cs : List (Str × Addr)} {x : Str}, (cs.map (·.1)).contains x = true → (cs.lookup x).isSome = true
  | [], _, h => nomatch h
  | (k, v) :: r, x, h => by
    rw [List.lookup_cons]
    cases hb : x == k with
    | true => rfl
    | false =>
      rw [List.map_cons, List.contains_cons, hb, Bool.false_or] at h
      exact lookupSome h
section
variable {κ : Bool} {w : World} {A : Around} {E : Value → Shared → Prop} {s : Shared} {g h : Heap} {fr : Fs} {L fa : Addr} {m : NsM} {news : List (Addr × Obj)} {k : Nat} {body : List Stmt}
theorem enterK {name qual : Str} {params : Arguments} {scope : Scope} {dV kV doc pm cdv ct oc : Value} {an od : Option Addr} {osl : Array (Option Value)} {args : List Value} {binds : List (Str × Value)} {Q : Value → Shared → Prop}
    (C : Cx w g fr h news) (hroom : A.depth < recursionLimit) (ho : (KK w.params).lookup fa = some ⟨oc, od, .func (fnOf name qual params body scope dV kV doc pm an cdv ct), osl⟩) (hcd : codeIn (KK w.params) cdv qual = true)
    (hbind : ∀ s, BindsTo s (fnOf name qual params body scope dV kV doc pm an cdv ct) ⟨args, []⟩ binds) (hok : okDefK scope binds = true) (hnd : ((cellsFrom 0 scope.names []).map (·.1)).Nodup)
    (hQ : ∀ L' h₁ k' cells, Cx w g ((L', bindL (fun x => scope.names.lookup x) binds fun _ => none) :: fr) h₁ (cells ++ news) → CellsAre (bindC (fun x => scope.names.lookup x) binds fun _ => none) (cellsFrom (L' + 1) scope.names []) cells → (∀ q ∈ news, ∀ c ∈ cells, q.1 ≠ c.1) →
      (FrA A fr → FrE (A.deeper (envX qual scope L' fa cdv (cellsFrom (L' + 1) scope.names []))) (envX qual scope L' fa cdv (cellsFrom (L' + 1) scope.names [])) ((L', bindL (fun x => scope.names.lookup x) binds fun _ => none) :: fr)) →
      wpG κ (model prg w) (A.deeper (envX qual scope L' fa cdv (cellsFrom (L' + 1) scope.names []))) (execs body (envX qual scope L' fa cdv (cellsFrom (L' + 1) scope.names []))) (Rt Q) No (St s h₁ k')) : wpG κ (model prg w) A (call (.ref fa) args) Q E (St s h k) := by
  simp only [okDefK, Bool.and_eq_true, Bool.not_eq_true', List.all_eq_true, beq_iff_eq, Bool.or_eq_true] at hok
  obtain ⟨hco, hgen, hk, hloc⟩ := hok
  refine gCallC (cgTree ?_)
  show wpG _ _ A.in1 (callAny (.ref fa) ⟨args, []⟩) _ _ _
  simp only [callAny]
  refine gBind (gOf (wpAny_load (s := St s h k) (C.keep _ _ (C.G.X _ _ ho)) ?_))
  obtain ⟨c, occ, vs, tq, hc, hoc, hdc, hq⟩ := codeRec_of (C.G.X.keeps C.keep) hcd
  subst hc
  simp only [callFunction, hco, hgen]
  refine gBind (m := field (.ref c) 1) (gOf (wpAny_field (s := St s h k) hoc hdc hq ?_))
  refine gBind (gOf (wpAny_pure ?_))
  refine gBind (gOf (hbind (St s h k) _ _ _ _ ?_))
  refine gBind (gOf (wpAny_newFunctionEnv_cells hk (fun x hx => ?_) fun env he s' x => ?_))
  · rcases hloc x hx with q | ⟨q1, q2⟩
    · exact .inl q
    · refine .inr ⟨q1, lookupSome ?_⟩
      rw [cellsFrom_names scope.names _ 0 [] [] rfl]
      exact q2
  subst he
  obtain ⟨h₁, tk, rfl⟩ := x.toInCall.same
  have hk₁ := x.toInCall.keep
  refine gBind (gOf (wpAny_enterFrame ((C.G.lim.keeps C.keep).keeps hk₁) hroom ?_))
  refine gPure ⟨rfl, fun _ _ _ _ => rfl, ?_⟩
  refine cgFunc (R := fun r s' => match r with | .ok (.ret v) => Q v s' | .ok _ => False | .error e => E e s') (A := A) ?_
  obtain ⟨cells, NC, Y⟩ := Cl.news (h₀ := h) (L := h.objs.size) (h := h₁) (Nat.le_refl _) fun n c hm => ⟨x.cell n c (lookup_of_mem_nodup (cellsFrom_names scope.names 0 (h.objs.size + 1) [] [] rfl ▸ hnd) hm), x.above n c hm⟩
  have C₁ := C.into hk₁ (get_size h) x.toInCall.ns
  have hnc : ∀ q ∈ news, ∀ c ∈ cells, q.1 ≠ c.1 := fun q hq c hc z => by
    have e1 := (C.N q hq).1
    rw [z, (NC c hc).2.2] at e1; cases e1
  refine gMono (hQ _ h₁ tk cells (⟨C₁.G, C₁.keep, C₁.P, C₁.F, fun q hq => ?_⟩) Y hnc (fun F => F.in rfl hk)) (fun f s' y => ?_) fun _ _ z => z
  · rcases List.mem_append.mp hq with hq | hq
    · refine ⟨(NC q hq).1, C.no (NC q hq).2.2, fun p hp => ?_⟩
      rcases List.mem_cons.mp hp with rfl | hp
      · exact (NC q hq).2.1
      · exact C.noFr (NC q hq).2.2 p hp
    · exact C₁.N q hq
  · cases f <;> exact y
end
end Mine

open PySem PySem.W PySem.Calls PyProof.Rows
set_option Elab.async false
set_option maxRecDepth 100000
set_option maxHeartbeats 2000000
set_option linter.unusedVariables false
namespace Mine
namespace BJ
theorem lookBuf : typeLookup (.type "bytes") "__buffer__" = pure (some (.builtin "bytes.__buffer__")) := by rw [typeLookup_type, builtinLookup_eq_fast]; kernel_rfl
theorem lookRel : typeLookup (.type "bytes") "__release_buffer__" = pure none := by rw [typeLookup_type, builtinLookup_eq_fast]; kernel_rfl
theorem sub : isSubtype (.type "bytes") (.type "bytes") = pure true := by rw [isSubtype_type]; kernel_rfl
theorem slotJoin : Slot "bytes" "join" "bytes.join" :=
  .of (owner := "bytes") (n := "join") (by rw [typeLookup_type, builtinLookup_eq_fast]; kernel_rfl) (by decide +kernel) (by decide +kernel) (by decide +kernel)
    (by first | exact .inl (by decide +kernel) | exact .inr (by decide +kernel)) sub
theorem typeJoin : typeOf (.builtin "bytes.join") = pure (.type "method_descriptor") := by show builtinType _ = _; rw [builtinType_eq_fast]; kernel_rfl
theorem entryJoin : entryFor table "bytes.join" = some Builtin.«bytes.join» := entryFor_of_tree (by kernel_rfl)
theorem argsJoin (a b : Value) : argsOk "bytes.join" ⟨[a, b], []⟩ := by
  unfold argsOk
  kernel_rfl
section
variable {prog : Program} {w : World} {A : Around} {E : Value → Shared → Prop} {s : Shared}
theorem ownBuf {b : Array UInt8} {t : Tok} {Q : Bool → Shared → Prop} (h : Q true s) : wpAny (model prog w) A (Builtin.Bytes.slotIsOwn (.bytes b t) "__buffer__") Q E s := by
  unfold Builtin.Bytes.slotIsOwn
  refine wpAny_bind (wpAny_specialOf (PySem.W.typeIs_bytes _ _ _) lookBuf ?_)
  have e : ("bytes.__buffer__".endsWith ("." ++ "__buffer__")) = true := by decide +kernel
  set_option linter.deprecated false in
  have e2 : ("bytes.__buffer__".dropRight ("__buffer__".length + 1)) = "bytes" := by decide +kernel
  simp only [e, Bool.not_true, Bool.false_eq_true, if_false, e2]
  exact wpAny_isInstance (PySem.W.typeIs_bytes _ _ _) sub h
theorem take {id : String} {b : Array UInt8} {t : Tok} {Q : Option (Array UInt8 × Option Value) → Shared → Prop} (h : Q (some (b, none)) s) : wpAny (model prog w) A (Builtin.Bytes.takeBufferQuiet? id (.bytes b t) 0) Q E s := by
  have hT := PySem.W.typeIs_bytes s b t
  unfold Builtin.Bytes.takeBufferQuiet?
  refine wpAny_bind (wpAny_attempt ?_)
  unfold Builtin.Bytes.takeBuffer?
  refine wpAny_bind (wpAny_specialOf hT lookBuf ?_)
  refine wpAny_bind (ownBuf ?_)
  refine bm_if_false rfl ?_
  refine wpAny_bind (wpAny_specialOf hT lookBuf ?_)
  refine wpAny_bind ?_
  unfold Builtin.Bytes.buffer?
  refine wpAny_bind (wpAny_specialOf hT lookBuf ?_)
  refine wpAny_bind (ownBuf ?_)
  refine bm_if_false rfl ?_
  refine wpAny_bind (wpAny_specialOf hT lookBuf ?_)
  refine wpAny_bind ?_
  unfold Builtin.Bytes.ownRelease Builtin.Bytes.slotIsOwn
  refine wpAny_bind (wpAny_bind (wpAny_specialOf hT lookRel (wpAny_pure ?_)))
  refine wpAny_pure ?_
  refine bm_if_false rfl ?_
  refine wpAny_bind (wpAny_pure ?_)
  exact wpAny_pure (wpAny_pure (wpAny_pure h))
theorem joinIt {l : Addr} {its : Array Value} {self : Value} {Q : Value → Shared → Prop} (hl : s.heap.IsList l its) (h : Q (.ref l) s) : wpAny (model prog w) A (Builtin.Bytes.joinItems (.ref l)) Q E s := by
  obtain ⟨o, ho, hc, n, hd⟩ := hl
  unfold Builtin.Bytes.joinItems
  refine wpAny_bind (wpAny_typeOf ⟨o, ho, hc⟩ ?_)
  exact bm_if_true (by decide +kernel) (wpAny_pure h)
theorem letGo0 {keep : List Value} {Q : Unit → Shared → Prop} (h : Q () s) : ∀ {taken : List (Value × Option Value)}, (∀ p ∈ taken, p.2 = none) → wpAny (model prog w) A (Builtin.Bytes.joinLetGo taken keep) Q E s
  | [], _ => wpAny_pure h
  | (x, w) :: rest, hw => by
    have : w = none := hw (x, w) (.head _)
    subst this
    unfold Builtin.Bytes.joinLetGo
    exact wpAny_bind (wpAny_letGo (letGo0 h fun p hp => hw p (.tail _ hp)))
theorem joinY0 {l : Addr} {t : Tok} {Q : Value → Shared → Prop} (hl : s.heap.IsList l #[]) (hQ : ∀ t k', Q (.bytes #[] t) { s with toks := k' }) : wpAny (model prog w) A (call (.builtin "bytes.join") [.bytes #[] t, .ref l]) Q E s := by
  refine wpAny_call_entry slotJoin (PySem.W.typeIs_bytes _ _ _) entryJoin ?_ (argsJoin _ _)
  obtain ⟨o, ho, hc, n, hd⟩ := id hl
  unfold Builtin.«bytes.join» Builtin.Bytes.joinM
  refine wpAny_bind (wpAny_of_eq (a := (_, _)) rfl ?_)
  refine bm_if_true (by decide) ?_
  refine wpAny_bind (joinIt (self := .none) hl ?_)
  refine wpAny_bind (wpAny_seqItems ho hd ?_)
  refine bm_if_true (by decide) ?_
  refine wpAny_bind ?_
  rw [Std.Legacy.Range.forIn_eq_forIn_range']
  show wpAny _ _ (forIn ([] : List Nat) _ _) _ _ _
  rw [List.forIn_nil]
  refine wpAny_pure ?_
  refine wpAny_bind (wpAny_pure ?_)
  refine bm_if_false (by decide +kernel) ?_
  refine wpAny_bind (wpAny_mkBytes ?_ (Nat.zero_le _))
  refine wpAny_bind (wpAny_holding (wpAny_point ?_))
  refine wpAny_bind (wpAny_pure ?_)
  exact wpAny_pure ⟨_, rfl, hQ _ _⟩
theorem joinY1 {l : Addr} {t u : Tok} {b : Array UInt8} {Q : Value → Shared → Prop} (hl : s.heap.IsList l #[.bytes b u]) (hQ : ∀ t k', Q (.bytes b t) { s with toks := k' }) : wpAny (model prog w) A (call (.builtin "bytes.join") [.bytes #[] t, .ref l]) Q E s := by
  refine wpAny_call_entry slotJoin (PySem.W.typeIs_bytes _ _ _) entryJoin ?_ (argsJoin _ _)
  obtain ⟨o, ho, hc, n, hd⟩ := id hl
  unfold Builtin.«bytes.join» Builtin.Bytes.joinM
  refine wpAny_bind (wpAny_of_eq (a := (_, _)) rfl ?_)
  refine bm_if_true (by decide) ?_
  refine wpAny_bind (joinIt (self := .none) hl ?_)
  refine wpAny_bind (wpAny_seqItems ho hd ?_)
  refine bm_if_true (by decide) ?_
  refine wpAny_bind (wpAny_typeOf (PySem.W.typeIs_bytes _ _ _) ?_)
  refine bm_if_true (by decide +kernel) ?_
  refine wpAny_bind (wpAny_rule ?_)
  exact wpAny_pure ⟨_, rfl, hQ _ _⟩
theorem joinY2 {l : Addr} {t u u₂ : Tok} {b c : Array UInt8} {Q : Value → Shared → Prop} (hl : s.heap.IsList l #[.bytes b u, .bytes c u₂]) (hz : b.size + c.size ≤ 1000) (hQ : ∀ t k', Q (.bytes (b ++ c) t) { s with toks := k' }) : wpAny (model prog w) A (call (.builtin "bytes.join") [.bytes #[] t, .ref l]) Q E s := by
  refine wpAny_call_entry slotJoin (PySem.W.typeIs_bytes _ _ _) entryJoin ?_ (argsJoin _ _)
  obtain ⟨o, ho, hc, n, hd⟩ := id hl
  unfold Builtin.«bytes.join» Builtin.Bytes.joinM
  refine wpAny_bind (wpAny_of_eq (a := (_, _)) rfl ?_)
  refine bm_if_true (by decide) ?_
  refine wpAny_bind (joinIt (self := .none) hl ?_)
  refine wpAny_bind (wpAny_seqItems ho hd ?_)
  refine bm_if_true (by decide) ?_
  refine wpAny_bind ?_
  rw [Std.Legacy.Range.forIn_eq_forIn_range']
  have e : List.range' [:#[Value.bytes b u, Value.bytes c u₂].size].start [:#[Value.bytes b u, Value.bytes c u₂].size].size [:#[Value.bytes b u, Value.bytes c u₂].size].step = [0, 1] := by simp [Std.Legacy.Range.size, List.range']
  rw [e, List.forIn_cons]
  refine wpAny_bind (wpAny_bind (wpAny_seqItems ho hd ?_))
  refine bm_if_false rfl ?_
  refine wpAny_bind (wpAny_holding (take ?_))
  refine wpAny_bind (wpAny_seqItems ho hd ?_)
  refine bm_if_false rfl ?_
  refine wpAny_pure ?_
  show wpAny _ _ (forIn [1] _ _) _ _ _
  rw [List.forIn_cons]
  refine wpAny_bind (wpAny_bind (wpAny_seqItems ho hd ?_))
  refine bm_if_false rfl ?_
  refine wpAny_bind (wpAny_holding (take ?_))
  refine wpAny_bind (wpAny_seqItems ho hd ?_)
  refine bm_if_false rfl ?_
  refine wpAny_pure ?_
  show wpAny _ _ (forIn ([] : List Nat) _ _) _ _ _
  rw [List.forIn_nil]
  refine wpAny_pure ?_
  refine wpAny_bind (wpAny_pure ?_)
  have ej : Builtin.Bytes.joined #[] [b, c] = b ++ c := by
    show (#[] ++ b) ++ #[] ++ c = _
    simp
  refine bm_if_false ?_ ?_
  · show Builtin.Bytes.tooLong (0 * 1 + b.size + c.size) = false
    exact KBy.tooLong_not (by omega)
  refine wpAny_bind (wpAny_mkBytes ?_ ?_)
  · refine wpAny_bind (wpAny_holding (wpAny_point ?_))
    refine wpAny_bind (letGo0 ?_ ?_)
    · refine wpAny_pure ⟨_, rfl, ?_⟩
      show Q (.bytes (Builtin.Bytes.joined #[] [b, c]) _) _
      rw [ej]
      exact hQ _ _
    · intro p hp
      rcases List.mem_cons.mp hp with rfl | hp
      · rfl
      · rw [List.mem_singleton.mp hp]
  · show (Builtin.Bytes.joined #[] [b, c]).size ≤ _
    rw [ej, Array.size_append, sizeLine_eq]
    omega
end
end BJ
end Mine

open PySem PySem.W PySem.Calls PyProof.Rows
set_option Elab.async false
set_option maxRecDepth 100000
set_option maxHeartbeats 2000000
set_option linter.unusedVariables false
namespace Mine
local macro_rules | `(tactic| walk_at "M enter") => `(tactic| ((case k1 => k_is); (case k2 => k_is); (case k3 => exact fun _ => .of_eq rfl); (case k4 => rfl)))
def FOk : Frm → Prop
  | .pl _ p => p.length ≤ 8
  | .st ps => ps.length ≤ 2 ∧ ∀ (i : Nat) (p : Nat × Nat), ps[i]? = some p → p.1 = 33 + 40 * i ∧ p.2 < 2 ^ 62
  | .pp n p => n < 2 ^ 62 ∧ p.length ≤ 8
  | .id i n => i < 3 ∧ n < 2 ^ 62
  | .un kd p => 33 ≤ kd ∧ kd ≤ 2000 ∧ p.length ≤ 8
def FrPr (g : Heap) (v : Value) (f : Frm) : Prop := ∃ t fv tk, v = .ref t ∧ g.IsTuple t #[fv, .bytes (encF f).toArray tk] ∧ FrAt g fv f
theorem FrPr.keeps {g g' : Heap} {v : Value} {f : Frm} (h : FrPr g v f) (k : g.StaysIn g') : FrPr g' v f :=
  let ⟨t, fv, tk, e, h1, h2⟩ := h; ⟨t, fv, tk, e, h1.at fun _ z => k _ _ z, h2.keeps k⟩
theorem updAddr {b : Addr} {o o' : Obj} {news : List (Addr × Obj)} {G : Obj → List (Addr × Obj)} (U : UpdF b o news G) : ∀ q ∈ G o', ∃ q' ∈ news, q'.1 = q.1 := fun q hq => by
  obtain ⟨pre, post, rfl, hG, _, _⟩ := U.split
  rw [hG] at hq
  rcases List.mem_append.mp hq with hq | hq
  · exact ⟨q, List.mem_append_left _ hq, rfl⟩
  · rcases List.mem_cons.mp hq with rfl | hq
    · exact ⟨(b, o), List.mem_append_right _ (.head _), rfl⟩
    · exact ⟨q, List.mem_append_right _ (.tail _ hq), rfl⟩
section
variable {κ : Bool} {w : World} {A : Around} {E E₁ : Value → Shared → Prop} {s : Shared} {g h : Heap} {fr : Fs} {L e a : Addr} {m : NsM} {news news' : List (Addr × Obj)} {k n nt : Nat} {env : Env} {pos px py pt tp p : Pos} {l r value lo : Expr}
theorem drawE {b l' : Addr} {o : Obj} {G : Obj → List (Addr × Obj)} {fa : Addr} {x : Str} {N : Nat} {Rr : Heap → Value → Prop} {Q : Value → Shared → Prop} (D : Draws w s fa N Rr) (hR : Rm A N) (C : Cx w g fr h news) (U : UpdF b o news G) (B : BoxO l' o) (I : Inner g l') (e : EnvAt env L)
    (hv : nsIn (KK w.params) mainGlobals x = some (some (.ref fa))) (hkp : keepIn (KK w.params) (.ref fa) = true) (hb : PEv w A env s h (.Name "box" py) fun _ => .ref b)
    (ret : ∀ g' h' k' o' v, g.StaysIn g' → Cx w g' fr h' (G o') → BoxO l' o' → Rr g' v → Q v (St s h' k'))
    (hx : env.kindOf x = some .globalImplicit := by rfl) (hd : (x == ("__debug__" : Str)) = false := by decide +kernel)
    (hs : starEach [.Name "box" py] env = [.Name "box" py].map fun e => (false, eval e env) := by rfl) :
    wpG κ (model prg w) A (eval (.Call (.Name x px) [.Name "box" py] [] pos) env) Q E (St s h k) :=
  callFe C e hv hkp (fun k₁ => gP hb fun _ k₂ => ⟨C.keep, D hR C U B I ret⟩) hs hx hd
theorem modI {i j : Int} {t u : Tok} {Q : Value → Shared → Prop} (hj : 0 < j) (hQ : ∀ t k', Q (.int (i % j) t) (St s h k')) : wpG κ (model prg w) A (binaryOp .Mod (.int i t) (.int j u)) Q E (St s h k) :=
  gOf (mod_int (s := St s h k) (by omega) (by rw [Int.fmod_eq_emod_of_nonneg i (by omega)]; exact hQ _ _))
theorem natOf {i j : Int} (hi : 0 ≤ i) (hj : i < j) : ∃ n : Nat, i = n ∧ (n : Int) < j := by
  obtain ⟨n, rfl⟩ := Int.eq_ofNat_of_zero_le hi
  exact ⟨n, rfl, hj⟩
theorem updAll {b : Addr} {o o' : Obj} {news : List (Addr × Obj)} {G : Obj → List (Addr × Obj)} {P : Addr → Prop} (U : UpdF b o news G) (hP : ∀ q ∈ news, P q.1) : ∀ q ∈ G o', P q.1 := fun q hq => by
  obtain ⟨q', h1, h2⟩ := updAddr U q hq
  rw [← h2]; exact hP q' h1
theorem frT {f : Frm} {vs : List Value} {u : Tok} {Q : Value → Shared → Prop} {N : Str} (C : Cx w g fr h news) (hN : (f.its g).1 = N) (hi : (f.its g).2 vs) (hz : vs.length ≤ 5) (hQ : ∀ g' h' v, g.StaysIn g' → Cx w g' fr h' news → FrAt g' v f → Q v (St s h' k)) : wpG κ (model prg w) A (newTuple (.str N u :: vs)) Q E (St s h k) := by
  subst hN
  refine newT (by rw [List.length_cons]; omega) fun h' t hn ho q => ?_
  obtain ⟨y1, y2, y3⟩ := C.toG hn ho q
  refine hQ _ h' _ y1 y2 ?_
  have e : (f.its g).1 = (f.its (reb h' fr news)).1 := by cases f <;> rfl
  refine ⟨t, u, vs, rfl, e ▸ ⟨_, y3, rfl, 0, rfl⟩, ?_⟩
  cases f with
  | st ps => obtain ⟨v, rfl, hs⟩ := hi; exact ⟨v, rfl, hs.keeps y1⟩
  | _ => exact hi
theorem prT {f : Frm} {fv : Value} {tk : Tok} {bs : List UInt8} {Q : Value → Shared → Prop} (C : Cx w g fr h news) (hf : FrAt g fv f) (hb : bs = encF f) (hQ : ∀ g' h' v, g.StaysIn g' → Cx w g' fr h' news → FrPr g' v f → Q v (St s h' k)) : wpG κ (model prg w) A (newTuple [fv, .bytes bs.toArray tk]) Q E (St s h k) := by
  subst hb
  refine newT (by decide : 2 ≤ 1000) fun h' t hn ho q => ?_
  obtain ⟨y1, y2, y3⟩ := C.toG hn ho q
  exact hQ _ h' _ y1 y2 ⟨t, fv, tk, rfl, ⟨_, y3, rfl, 0, rfl⟩, hf.keeps y1⟩
abbrev BY (v : Value) (y : List UInt8) : Prop := ∃ t, v = .bytes y.toArray t
theorem joinY {l : Addr} {ys : List Value} {yl : List (List UInt8)} {t : Tok} {Q : Value → Shared → Prop} (hl : h.IsList l ys.toArray) (hp : Paired BY ys yl) (hn : yl.length ≤ 2) (hz : ∀ y ∈ yl, y.length ≤ 16) (hQ : ∀ t k', Q (.bytes yl.flatten.toArray t) (St s h k')) :
    wpAny (model prg w) A (call (.builtin "bytes.join") [.bytes ([] : List UInt8).toArray t, .ref l]) Q E (St s h k) := by
  cases hp with
  | nil => exact BJ.joinY0 (s := St s h k) hl hQ
  | cons h1 hp =>
    obtain ⟨t1, rfl⟩ := h1
    cases hp with
    | nil =>
      refine BJ.joinY1 (s := St s h k) hl fun t k' => ?_
      have := hQ t k'
      rw [List.flatten_cons, List.flatten_nil, List.append_nil] at this
      exact this
    | cons h2 hp =>
      obtain ⟨t2, rfl⟩ := h2
      cases hp with
      | nil =>
        have z1 := hz _ (.head _)
        have z2 := hz _ (.tail _ (.head _))
        refine BJ.joinY2 (s := St s h k) hl (by rw [List.size_toArray, List.size_toArray]; omega) fun t k' => ?_
        have := hQ t k'
        rw [List.flatten_cons, List.flatten_cons, List.flatten_nil, List.append_nil] at this
        rw [List.append_toArray]
        exact this
      | cons h3 hp =>
        rw [List.length_cons, List.length_cons, List.length_cons] at hn
        omega
theorem frame_d : Draws w s 243 4 fun g v => ∃ f, FrPr g v f ∧ FOk f := by
  intro κ A g h fr news b l o G k Q E hR C U B I ret
  refine' enterK (binds := [("box", .ref b)]) C hR.lt ?k1 ?k2 ?k3 ?k4 ?k5 fun L h₁ k₁ cells C₁ Y hnc _ => ?_
  walk_at "M enter"
  case k5 => decide +kernel
  obtain ⟨oc, rfl, hoc⟩ := CellsAre.one Y
  have hcb : L + 1 ≠ b := (hnc _ (updIn U) _ (.head _)).symm
  have U₁ : UpdF b o ((L + 1, oc) :: news) (fun o => (L + 1, oc) :: G o) := UpdF.tail hcb U
  refine gSwap (fr := fr) hR.hh ?_
  refine gBin (drawE next_d (hR.in.le (by decide)) C₁ U₁ B I ⟨rfl, rfl, rfl, rfl⟩ (by k_is) (by k_is) (nmCe C₁ rfl (.head _) hoc) fun g₂ h₂ k₂ o₂ v₂ hg₂ C₂ B₂ hv₂ => gP cI fun t₃ k₃ => ?_)
  obtain ⟨x, tx, rfl, x0, x1⟩ := hv₂
  refine modI (by decide) fun tf k₄ => ?_
  obtain ⟨fo, hfo, hlt⟩ := natOf (Int.emod_nonneg x (by decide : (8 : Int) ≠ 0)) (Int.emod_lt_of_pos x (by decide))
  rw [hfo]
  refine callB (nmB (v := .type "bytes") C₂ (by rfl) (by k_is) (by rfl) (by decide)) (fun _ => kpT) fun k₅ => gComp ?_ (by rfl)
  refine callB (nmB (v := .type "range") C₂ (by rfl) (by k_is) (by rfl) (by decide)) (fun _ => kpT) fun k₆ => gBin (drawE next_d (hR.in.le (by decide)) C₂ (updNext U₁) B₂ (I.keeps hg₂) ⟨rfl, rfl, rfl, rfl⟩ (by k_is) (by k_is) (nmCe C₂ rfl (.head _) hoc) fun g₃ h₃ k₃ o₃ v₃ hg₃ C₃ B₃ hv₃ => gP cI fun t₇ k₇ => ?_)
  obtain ⟨y, ty, rfl, y0, y1⟩ := hv₃
  refine modI (by decide) fun tr k₈ => ?_
  obtain ⟨z, hz, hzlt⟩ := natOf (Int.emod_nonneg y (by decide : (9 : Int) ≠ 0)) (Int.emod_lt_of_pos y (by decide))
  rw [hz]
  have z8 : z ≤ 8 := by omega
  have hgs : g.StaysIn g₃ := fun b o e => hg₃ _ _ (hg₂ _ _ e)
  refine gOf (call_range_1 (s := St s h₃ k₈) ?_)
  refine compRng (n := z) (i₀ := 0) (j := (z : Int)) (st := 1) (fun i g' ys nx => (∃ o', nx = (L + 1, oc) :: G o' ∧ BoxO l o') ∧ ∃ ms : List Int, IntsAre ys ms ∧ ms.length = i ∧ ∀ m ∈ ms, 0 ≤ m ∧ m < 256) hR.hh (C₃.on (stays_push _ _)) (Heap.get?_push_size _ rfl) (rngUp z z8).1 (rngUp z z8).2
    ⟨⟨o₃, rfl, B₃⟩, [], .nil, rfl, fun _ q => nomatch q⟩ (fun i t g' h' mc nx k oI oD ys I' D Cc hi J hg C₄ hne hID => ?_) (fun g₅ h₅ D oD nx k₅ ys hg₅ C₅ hD hneD J => ?_) (fun Cc => ⟨rfl, rfl, rfl, rfl⟩) (hnn := by omega)
  · obtain ⟨⟨o', rfl, B'⟩, ms, hms, hlen, hm⟩ := J
    have hb' := updIn (updNext (o' := o') U₁)
    refine gBin (drawE next_d (hR.in.le (by decide)) C₄ (UpdF.tail (hne _ hb').1.symm (UpdF.tail (hne _ hb').2.symm (updNext U₁))) B' (I.keeps fun _ _ e => hg _ _ (hgs _ _ e)) ⟨rfl, rfl, rfl, rfl⟩ (by k_is) (by k_is) (nmCe C₄ rfl (.tail _ (.tail _ (.head _))) hoc) fun g₉ h₉ k₉ o₉ v₉ hg₉ C₉ B₉ hv₉ => gP cI fun t₁₀ k₁₀ => ?_)
    obtain ⟨q, tq, rfl, q0, q1⟩ := hv₉
    refine modI (by decide) fun tm km => ⟨g₉, h₉, (L + 1, oc) :: G o₉, _, _, rfl, hg₉, C₉, updAll (P := fun a => a ≠ I' ∧ a ≠ D) (updNext U₁) hne, ⟨o₉, rfl, B₉⟩, ms ++ [_], IntsAre.append hms (.cons _ _ .nil), by rw [List.length_append, hlen]; rfl, fun y hy => ?_⟩
    rcases List.mem_append.mp hy with hy | hy
    · exact hm y hy
    · rw [List.mem_singleton.mp hy]
      exact ⟨Int.emod_nonneg _ (by decide), Int.emod_lt_of_pos _ (by decide)⟩
  obtain ⟨⟨o₅, rfl, B₅⟩, ms, hms, hlen, hm⟩ := J
  refine gOf (call_bytes_ints (s := St s h₅ k₅) (hD.is (C₅.N _ (.head _)).1) hms hm (by rw [hms.length, hlen, sizeLine_eq]; omega) hR.hh fun h₆ t₆ k₆ hk₆ => ?_)
  obtain ⟨p, hp, hpl⟩ : ∃ p : List UInt8, byteArr ms = p.toArray ∧ p.length ≤ 8 := ⟨(byteArr ms).toList, (Array.toArray_toList ..).symm, by rw [Array.length_toList, byteArr_size, hlen]; exact z8⟩
  rw [hp]
  have hg₆ : g.StaysIn g₅ := fun b o e => hg₅ _ _ (hgs _ _ e)
  refine ⟨_, _, h₆, k₆, _, _, g₅, rfl, rfl, (C₅.drop (fun p hp => .tail _ hp)).on hk₆, fun h₇ k₇ C₇ => ?_⟩
  have pop : ∀ {g' : Heap} {h' : Heap} {m' : NsM} {o' : Obj}, Cx w g' ((L, m') :: fr) h' ((L + 1, oc) :: G o') → Cx w g' fr h' (G o') := fun C => (C.drop fun p hp => .tail _ hp).pop
  refine ifP (tLt (nmL C₇) cI) (fun bq k₈ => ?_) fun bq k₈ => ?_
  · have hfo2 : fo < 2 := by have := of_decide_eq_true bq; omega
    refine gRet (gSub (gLst (gTup (gTup (gP cS fun tu k₉ => gP (nmL C₇) fun _ k₁ => frT (f := .pl false p) C₇ rfl ⟨_, rfl⟩ (Nat.le_of_ble_eq_true rfl) fun ga ha va hga Ca hfa => callF Ca (by rfl) (by k_is) (by k_is) fun k₂ => gP cI fun tk k₃ => gP (nmL Ca) fun _ k₄ => ⟨Ca.keep, plain_l (kd := 0) (p := p) (hR.in.le (by decide)) Ca (by decide) (by omega) fun hb tb kb Cb => prT (f := .pl false p) Cb hfa rfl fun gc hc vc hgc Cc hpc => ?_⟩) (by rfl)) (by rfl)) (by rfl)))
    refine gTup (gTup (gP cS fun tu k₉ => gP (nmL Cc) fun _ k₁ => frT (f := .pl true p) Cc rfl ⟨_, rfl⟩ (Nat.le_of_ble_eq_true rfl) fun gd hd vd hgd Cd hfd => callF Cd (by rfl) (by k_is) (by k_is) fun k₂ => gP cI fun tk k₃ => gP (nmL Cd) fun _ k₄ => ⟨Cd.keep, plain_l (kd := 1) (p := p) (hR.in.le (by decide)) Cd (by decide) (by omega) fun he te ke Ce => prT (f := .pl true p) Ce hfd rfl fun gf hf vf hgf Cf hpf => newL (hz := (by decide : 2 ≤ 1000)) fun hh lh oh hnh hoh hlh qh => ?_⟩) (by rfl)) (by rfl)
    refine gP (nmL (Cf.add qh hoh hnh)) fun _ ki => ?_
    obtain ⟨v, f, hv, hpr, hok⟩ : ∃ v f, ([vc, vf] : List Value).toArray[(fo : Int).toNat]? = some v ∧ FrPr gf v f ∧ FOk f := by
      rcases fo with _ | _ | fo
      · exact ⟨vc, _, rfl, (hpc.keeps hgd).keeps hgf, hpl⟩
      · exact ⟨vf, _, rfl, hpf, hpl⟩
      · omega
    refine tail_any (hlh.1.is hoh).typeIs slot_list_getitem.lookup (wpAny_getItem_list (hlh.1.is hoh) (Int.natCast_nonneg _) (by omega) hv ?_) (by rfl)
    exact ret gf hh _ o₅ v (fun b o e => hgf _ _ (hgd _ _ (hgc _ _ (hga _ _ (hg₆ _ _ e))))) (pop ((Cf.add qh hoh hnh).drop fun p hp => .tail _ hp)) B₅ ⟨f, hpr, hok⟩
  refine ifP (tEq (nmL C₇) cI) (fun bq2 k₉ => ?_) fun bq2 k₉ => ?_
  · refine gAsgComp ?_ (by rfl)
    refine callB (nmB (v := .type "range") C₇ (by rfl) (by k_is) (by rfl) (by decide)) (fun _ => kpT) fun k₆ => gBin (drawE next_d (hR.in.le (by decide)) C₇ (updNext U₁) B₅ (I.keeps hg₆) ⟨rfl, rfl, rfl, rfl⟩ (by k_is) (by k_is) (nmCe C₇ rfl (.head _) hoc) fun ga ha ka oa va hga Ca Ba hva => gP cI fun t₇ k₇ => ?_)
    obtain ⟨y, ty, rfl, y0, y1⟩ := hva
    refine modI (by decide) fun tr kr => ?_
    obtain ⟨z2, hz2, hzlt2⟩ := natOf (Int.emod_nonneg y (by decide : (3 : Int) ≠ 0)) (Int.emod_lt_of_pos y (by decide))
    rw [hz2]
    have hga' : g.StaysIn ga := fun b o e => hga _ _ (hg₆ _ _ e)
    refine gOf (call_range_1 (s := St s ha kr) ?_)
    refine compRng0 (n := z2) (i₀ := 0) (j := (z2 : Int)) (st := 1) (fun i g' ys nx => (∃ o', nx = (L + 1, oc) :: G o' ∧ BoxO l o') ∧ ∃ (qs : Prs) (ps : List (Nat × Nat)), ys = qs.map (fun q => Value.ref q.1) ∧ PrOk g' qs ∧ IntP qs ps ∧ ps.length = i ∧ ∀ (j : Nat) (p : Nat × Nat), ps[j]? = some p → p.1 = 33 + 40 * j ∧ p.2 < 2 ^ 62)
      hR.hh (Ca.on (stays_push _ _)) (Heap.get?_push_size _ rfl) (rngUp z2 (by omega)).1 (rngUp z2 (by omega)).2 ⟨⟨oa, rfl, Ba⟩, [], [], rfl, (fun i q e => by cases e), ⟨rfl, fun i q e => by cases e⟩, rfl, fun j p e => by cases e⟩
      (fun i t g' h' mc nx k oI oD ys I' D Cc hi J hg C₄ hne hID => ?_) (fun gb hb D oD nx kb ys mc Cc hgb Cb hD hneD J => ?_) (fun Cc => ⟨rfl, rfl, rfl, rfl⟩) (hnn := by omega)
    · obtain ⟨⟨o', rfl, B'⟩, qs, ps, rfl, hqs, hip, hlen, hps⟩ := J
      have hb' := updIn (updNext (o' := o') U₁)
      refine gTup (gP (pAdd cI (pMul cI (nmLe C₄ ⟨rfl, rfl, rfl, rfl⟩) (by decide))) fun tt kt => drawE number_d (hR.in.le (by decide)) C₄ (UpdF.tail (hne _ hb').1.symm (UpdF.tail (hne _ hb').2.symm (updNext U₁))) B' (I.keeps fun _ _ e => hg _ _ (hga' _ _ e)) ⟨rfl, rfl, rfl, rfl⟩ (by k_is) (by k_is) (nmCe C₄ rfl (.tail _ (.tail _ (.head _))) hoc) fun g₉ h₉ k₉ o₉ v₉ hg₉ C₉ B₉ hv₉ => ?_) (by rfl)
      obtain ⟨n, tn, rfl, hn⟩ := hv₉
      have e1 : (33 : Int) + 40 * (0 + (i : Int) * 1) = ((33 + 40 * i : Nat) : Int) := by omega
      rw [e1]
      refine newT (by decide : 2 ≤ 1000) fun h₃ T hnT hoT hsT => ?_
      obtain ⟨y1, y2, y3⟩ := C₉.toG hnT hoT hsT
      refine ⟨_, h₃, (L + 1, oc) :: G o₉, _, _, rfl, fun b o e => y1 _ _ (hg₉ _ _ e), y2, updAll (P := fun a => a ≠ I' ∧ a ≠ D) (updNext U₁) hne, ⟨o₉, rfl, B₉⟩, qs ++ [(T, .int ((33 + 40 * i : Nat) : Int) tt, .int (n : Int) tn)], ps ++ [(33 + 40 * i, n)], by rw [List.map_append]; rfl, (hqs.keeps fun b o e => y1 _ _ (hg₉ _ _ e)).snoc ⟨_, y3, rfl, 0, rfl⟩, hip.snoc, by rw [List.length_append, hlen]; rfl, fun j p e => ?_⟩
      by_cases hj : j < ps.length
      · rw [List.getElem?_append_left hj] at e; exact hps j p e
      · rw [List.getElem?_append_right (Nat.le_of_not_lt hj)] at e
        have hj0 : j - ps.length = 0 := by have := (List.getElem?_eq_some_iff.mp e).1; rw [List.length_singleton] at this; omega
        rw [hj0] at e
        cases e
        have : j = i := by omega
        exact ⟨by rw [this], hn⟩
    obtain ⟨⟨ob, rfl, Bb⟩, qs, ps, rfl, hqs, hip, hlen, hps⟩ := J
    refine compUse Cb fun hb' kb' Cb' => ?_
    obtain ⟨y1, y2, y3⟩ := Cb'.inG hneD
    have hS : Sett _ (.ref D) ps := ⟨D, qs, rfl, hD.is y3, hqs.keeps y1, hip⟩
    have hl2 : ps.length ≤ 2 := by omega
    refine gRet (gTup (gTup (gP cS fun tu k₁ => gP (nmL y2) fun _ k₂ => frT (f := .st ps) y2 rfl ⟨_, rfl, hS⟩ (Nat.le_of_ble_eq_true rfl) fun gd hd vd hgd Cd hfd => ?_) (by rfl)) (by rfl))
    have hS' := hS.keeps hgd
    refine callF Cd (by rfl) (by k_is) (by k_is) fun k₃ => gP cI fun tk k₄ => ?_
    refine gMeth (gP cY fun tj kj => getMethod_builtin (s := St s hd kj) (PySem.W.typeIs_bytes _ _ _) FB.plainAttrs_bytes BJ.slotJoin BJ.typeJoin (fun _ e => nomatch e) ?_) (by rfl)
    refine gCall (gComp ?_ (by rfl)) (by rfl)
    refine gP (nmL Cd) fun _ k₅ => compPr (fun i g' ys nx => nx = (L + 1, oc) :: G ob ∧ Paired BY ys ((ps.take i).map fun p => enc p.1 ++ enc p.2)) hR.hh Cd (hD.is (hgd _ _ y3)) (hqs.keeps fun b o e => hgd _ _ (y1 _ _ e)) ⟨rfl, .nil⟩
      (fun i q g' h' mc nx k oI oD ys I' D' Cc' e J hg C₄ hne hID => ?_) (fun ge he D' oD' nx ke ys hge Ce hD' hneD' J => ?_) (fun Cc => ⟨rfl, rfl, rfl, rfl⟩) (hn := by rw [hip.1]; omega)
    · obtain ⟨rfl, hys⟩ := J
      obtain ⟨p', pa, pb, ep, eq⟩ := hip.2 i q e
      obtain ⟨c, q1, q2⟩ := q
      cases eq
      have hp2 := hps i p' ep
      have hi2 : i < 2 := Nat.lt_of_lt_of_le (List.getElem?_eq_some_iff.mp ep).1 hl2
      refine gBin (callFe C₄ ⟨rfl, rfl, rfl, rfl⟩ (by k_is) (by k_is) fun k₆ => gP (nmLe C₄ ⟨rfl, rfl, rfl, rfl⟩) fun _ k₇ => ⟨C₄.keep, varint_l (hR.in.le (by decide)) C₄ (by omega) fun h₈ t₈ k₈ C₈ => callFe C₈ ⟨rfl, rfl, rfl, rfl⟩ (by k_is) (by k_is) fun k₉ => gP (nmLe C₈ ⟨rfl, rfl, rfl, rfl⟩) fun _ k₁ => ⟨C₈.keep, varint_l (hR.in.le (by decide)) C₈ hp2.2 fun h₉ t₉ k₉ C₉ =>
        addYg (Nat.le_trans (Nat.add_le_add (enc_le _) (enc_le _)) (by decide)) fun t₀ k₀ => ⟨g', h₉, _, _, _, rfl, fun _ _ e => e, C₉, hne, rfl, ?_⟩⟩⟩)
      rw [List.take_add_one, ep, List.map_append]
      exact hys.snoc ⟨_, rfl⟩
    obtain ⟨rfl, hys⟩ := J
    rw [hip.1, List.take_length] at hys
    refine ⟨kpB, gOf (joinY (hD'.is (Ce.N _ (.head _)).1) hys (by rw [List.length_map]; exact hl2) (fun y hy => ?_) fun tz kz => ?_)⟩
    · obtain ⟨p', _, rfl⟩ := List.mem_map.mp hy
      rw [List.length_append]
      exact Nat.add_le_add (enc_le _) (enc_le _)
    have Cf := Ce.drop (news' := (L + 1, oc) :: G ob) fun p hp => .tail _ hp
    have el : (encS ps).length ≤ 32 := Nat.le_trans (encS_le ps) (by omega)
    refine ⟨fun b o e => Cf.keep _ _ (hge _ _ e), plain_l (kd := 4) (p := encS ps) (hR.in.le (by decide)) Cf (by decide) (by omega) fun hg tg kg Cg => prT (f := .st ps) Cg (hfd.keeps hge) rfl fun gi hi vi hgi Ci hpi => ?_⟩
    exact ret gi hi _ ob vi (fun b o e => hgi _ _ (hge _ _ (hgd _ _ (y1 _ _ (hgb _ _ (hga' _ _ e)))))) (pop Ci) Bb ⟨_, hpi, hl2, hps⟩
  refine ifP (tEq (nmL C₇) cI) (fun bq3 k₁ => ?_) fun bq3 k₁ => ?_
  · refine gAsg (drawE number_d (hR.in.le (by decide)) C₇ (updNext U₁) B₅ (I.keeps hg₆) ⟨rfl, rfl, rfl, rfl⟩ (by k_is) (by k_is) (nmCe C₇ rfl (.head _) hoc) fun ga ha ka oa va hga Ca Ba hva => ?_)
    obtain ⟨n, tn, rfl, hn⟩ := hva
    refine stoX Ca fun hb kb Cb => gRet (gTup (gTup (gP cS fun tu k₁ => gP (nmL Cb) fun _ k₂ => gP (nmL Cb) fun _ k₃ => frT (f := .pp n p) Cb rfl ⟨_, _, rfl⟩ (Nat.le_of_ble_eq_true rfl) fun gc hc vc hgc Cc hfc => ?_) (by rfl)) (by rfl))
    refine callF Cc (by rfl) (by k_is) (by k_is) fun k₂ => gP cI fun tk k₃ => gBin (callF Cc (by rfl) (by k_is) (by k_is) fun k₄ => gP (nmL Cc) fun _ k₅ => ⟨Cc.keep, varint_l (hR.in.le (by decide)) Cc hn fun hd td kd Cd => gP (nmL Cd) fun _ ke => addYg (by have := enc_le n; omega) fun te kf => ⟨Cd.keep, plain_l (kd := 5) (p := enc n ++ p) (hR.in.le (by decide)) Cd (by decide) (by have := enc_le n; rw [List.length_append]; omega) fun hg tg kg Cg => prT (f := .pp n p) Cg hfc rfl fun gi hi vi hgi Ci hpi => ?_⟩⟩)
    exact ret gi hi _ oa vi (fun b o e => hgi _ _ (hgc _ _ (hga _ _ (hg₆ _ _ e)))) (pop Ci) Ba ⟨_, hpi, hn, hpl⟩
  have n3 : ¬ fo < 2 := fun q => of_decide_eq_false bq (by omega)
  have n4 : fo ≠ 2 := fun q => by rw [q] at bq2; cases bq2
  have n5 : fo ≠ 3 := fun q => by rw [q] at bq3; cases bq3
  refine ifP (tLt (nmL C₇) cI) (fun bq4 k₂ => ?_) fun bq4 k₂ => ?_
  · have n6 : fo < 7 := by have := of_decide_eq_true bq4; omega
    obtain ⟨i, rfl⟩ : ∃ i, fo = i + 4 := ⟨fo - 4, by omega⟩
    have hi3 : i < 3 := by omega
    refine gAsgTup (gSub (gLst (gTup (gP cI fun ta ka => gP cS fun tb kb => newT (by decide : 2 ≤ 1000) fun ha a1 hna hoa hsa => ?_) (by rfl)) (by rfl)))
    obtain ⟨a2, a3, a4⟩ := C₇.toG hna hoa hsa
    refine gTup (gP cI fun tc kc => gP cS fun td kd => newT (by decide : 2 ≤ 1000) fun hb b1 hnb hob hsb => ?_) (by rfl)
    obtain ⟨b2, b3, b4⟩ := a3.toG hnb hob hsb
    refine gTup (gP cI fun te ke => gP cS fun tf kf => newT (by decide : 2 ≤ 1000) fun hc c1 hnc' hoc' hsc => ?_) (by rfl)
    obtain ⟨c2, c3, c4⟩ := b3.toG hnc' hoc' hsc
    refine newL (hz := (by decide : 3 ≤ 1000)) fun hh lh oh hnh hoh hlh qh => ?_
    have Ch := (c3.add qh hoh hnh).drop (news' := (L + 1, oc) :: G o₅) fun p hp => .tail _ hp
    refine gP (pSub (nmL Ch) cI) fun tg kg => ?_
    have e4 : ((i + 4 : Nat) : Int) - 4 = (i : Nat) := by omega
    rw [e4]
    obtain ⟨t₁, u₁, u₂, hv, ht⟩ : ∃ t u₁ u₂, ([.ref a1, .ref b1, .ref c1] : List Value).toArray[((i : Nat) : Int).toNat]? = some (.ref t) ∧ hh.IsTuple t #[.int (idT i : Nat) u₁, .str (idN i) u₂] := by
      rcases i with _ | _ | _ | i
      · exact ⟨a1, ta, tb, rfl, _, qh _ _ (hsc _ _ (hsb _ _ hoa)), rfl, 0, rfl⟩
      · exact ⟨b1, tc, td, rfl, _, qh _ _ (hsc _ _ hob), rfl, 0, rfl⟩
      · exact ⟨c1, te, tf, rfl, _, qh _ _ hoc', rfl, 0, rfl⟩
      · omega
    refine tail_any (hlh.1.is hoh).typeIs slot_list_getitem.lookup (wpAny_getItem_list (hlh.1.is hoh) (Int.natCast_nonneg _) (by omega) hv ?_) (by rfl)
    refine asgT (by exact hR.hh) Ch ht fun hi ki Ci => ?_
    refine gAsg (drawE number_d (hR.in.le (by decide)) Ci (updNext U₁) B₅ (I.keeps fun _ _ e => c2 _ _ (b2 _ _ (a2 _ _ (hg₆ _ _ e)))) ⟨rfl, rfl, rfl, rfl⟩ (by k_is) (by k_is) (nmCe Ci rfl (.head _) hoc) fun ga ha ka oa va hga Ca Ba hva => ?_)
    obtain ⟨n, tn, rfl, hn⟩ := hva
    refine stoX Ca fun hb kb Cb => gRet (gTup (gTup (gP (nmL Cb) fun tu k₁ => gP (nmL Cb) fun _ k₃ => frT (f := .id i n) Cb rfl ⟨_, rfl⟩ (Nat.le_of_ble_eq_true rfl) fun gc hc vc hgc Cc hfc => ?_) (by rfl)) (by rfl))
    refine callF Cc (by rfl) (by k_is) (by k_is) fun k₂ => gP (nmL Cc) fun tk k₃ => callF Cc (by rfl) (by k_is) (by k_is) fun k₄ => gP (nmL Cc) fun _ k₅ => ⟨Cc.keep, varint_l (hR.in.le (by decide)) Cc hn fun hd td kd Cd => ⟨Cd.keep, plain_l (kd := idT i) (p := enc n) (hR.in.le (by decide)) Cd ((by decide : ∀ i < 3, idT i < 2 ^ 62) i hi3) (Nat.le_trans (enc_le n) (by decide)) fun hg tg kg Cg => prT (f := .id i n) Cg hfc rfl fun gi hi vi hgi Ci hpi => ?_⟩⟩
    exact ret gi hi _ oa vi (fun b o e => hgi _ _ (hgc _ _ (hga _ _ (c2 _ _ (b2 _ _ (a2 _ _ (hg₆ _ _ e))))))) (pop Ci) Ba ⟨_, hpi, hi3, hn⟩
  refine gAsg (gBin (gP cI fun ta ka => gBin (gP cI fun tb kb => gBin (drawE next_d (hR.in.le (by decide)) C₇ (updNext U₁) B₅ (I.keeps hg₆) ⟨rfl, rfl, rfl, rfl⟩ (by k_is) (by k_is) (nmCe C₇ rfl (.head _) hoc) fun ga ha ka oa va hga Ca Ba hva => gP cI fun tc kc => ?_))))
  obtain ⟨y, ty, rfl, y0, y1⟩ := hva
  refine modI (by decide) fun tr kr => ?_
  obtain ⟨q, hq, hqlt⟩ := natOf (Int.emod_nonneg y (by decide : (50 : Int) ≠ 0)) (Int.emod_lt_of_pos y (by decide))
  rw [hq]
  refine gOf (PyProof.Rows.mul_int (s := St s ha kr) ?_ (mulOk (by decide)))
  refine gOf (add_int (s := St s ha _) ?_)
  have e5 : (33 : Int) + 31 * (q : Int) = ((33 + 31 * q : Nat) : Int) := by omega
  rw [e5]
  refine stoX Ca fun hb kb Cb => gRet (gTup (gTup (gP cS fun tu k₁ => gP (nmL Cb) fun _ k₂ => gP (nmL Cb) fun _ k₃ => frT (f := .un (33 + 31 * q) p) Cb rfl ⟨_, _, rfl⟩ (Nat.le_of_ble_eq_true rfl) fun gc hc vc hgc Cc hfc => ?_) (by rfl)) (by rfl))
  refine callF Cc (by rfl) (by k_is) (by k_is) fun k₂ => gP (nmL Cc) fun tk k₃ => gP (nmL Cc) fun _ k₅ => ⟨Cc.keep, plain_l (kd := 33 + 31 * q) (p := p) (hR.in.le (by decide)) Cc (by omega) (by omega) fun hg tg kg Cg => prT (f := .un (33 + 31 * q) p) Cg hfc rfl fun gi hi vi hgi Ci hpi => ?_⟩
  exact ret gi hi _ oa vi (fun b o e => hgi _ _ (hgc _ _ (hga _ _ (hg₆ _ _ e)))) (pop Ci) Ba ⟨_, hpi, by omega, by omega, hpl⟩
end
end Mine

open PySem PySem.W PySem.Calls PyProof.Rows
set_option Elab.async false
set_option maxRecDepth 100000
set_option maxHeartbeats 4000000
set_option linter.unusedVariables false
namespace Mine
section
open Builtin Builtin.ObjectAttr
variable {prog : Program} {w : World} {A : Around} {E : Value → Shared → Prop} {h : Heap} {g : Array GenState} {d : Drawn} {t : Nat} {os : OsState} {a : Addr} {o : Obj} {vs : Array Value} {t0 : Addr}
  {nm q : Str} {C N : Addr} {bs bm : List Value} {sn : List Str} {sub : List Value} {ab : Bool} {col : Option Bool} {dd : Option Addr} {k0 k1 k2 k3 k5 : Option Value} {B newId : String} {mN mA : Str → Option Value} {dx : Addr} {v : Value} {name : Str}
theorem xa_entry {tk : Tok} {Q : Fin → Shared → Prop} (hC : h.get? C = some (excClassObj nm q C N bs bm true sn sub ab col dd k0 k1 k2 k3 k5 newId)) (hN : h.Ns N mN) (hna : mN name = none) (hbm : mroOf (.type B) = pure bm)
    (hB : typeLookup (.type B) name = pure none) (hx : h.get? a = some o) (hc : o.cls = .ref C) (hnc : ∀ c, o.data ≠ .cls c) (hdx : o.dict = some dx) (hns : h.Ns dx mA) (hv : mA name = some v) (hq : Q (.done (.ret v)) ⟨h, g, d, t, os⟩) :
    wpAny (model prog w) A (Builtin.«object.__getattribute__» ⟨[.ref a, .str name tk], []⟩) Q E ⟨h, g, d, t, os⟩ := by
  unfold Builtin.«object.__getattribute__»
  repeat (first | (with_reducible refine wpAny_loadPart_at hx ?_; rw [hc]) | (with_reducible refine wpAny_typeLookup_exc hC hN hbm hB ?_; rw [hna]) | wp_step)
  split
  · rename_i c hcd
    exact absurd hcd (hnc c)
  unfold instanceDict
  repeat (first | (with_reducible refine wpAny_loadPart_at hx ?_; rw [hc]) | with_reducible refine wpAny_loadPart_at hC ?_ | wp_step)
  rw [hdx]
  repeat (first | (with_reducible refine wpAny_nsGet hns ?_; rw [hv]) | wp_step)
  exact hq
theorem xa_attr {expr : Bool} {Q : Value → Shared → Prop} (FB : ExcAttrBase B bm) (hC : h.get? C = some (excClassObj nm q C N bs bm true sn sub ab col dd k0 k1 k2 k3 k5 newId)) (hN : h.Ns N mN) (hna : mN name = none) (hng : mN "__getattribute__" = none) (hnh : mN "__getattr__" = none)
    (hB : typeLookup (.type B) name = pure none) (hx : h.get? a = some o) (hc : o.cls = .ref C) (hnc : ∀ c, o.data ≠ .cls c) (hdx : o.dict = some dx) (hns : h.Ns dx mA) (hv : mA name = some v) (hh : handedOut v = pure v) (hq : Q v ⟨h, g, d, t + 1, os⟩) :
    wpAny (model prog w) A (getAttr (.ref a) name expr) Q E ⟨h, g, d, t, os⟩ := by
  have f3 := FB.ga.bind (.ref a)
  have hx0 : (expr && onTheHeap (Value.builtin "BaseException.__getattribute__")) = false := by cases expr <;> rfl
  have hx2 : (Value.builtin "BaseException.__getattribute__" == Value.builtin "object.__getattribute__") = false := by decide +kernel
  have hx1 : (onTheHeap (Value.ref C) && Value.builtin "BaseException.__getattribute__" == Value.builtin "object.__getattribute__") = false := by rw [hx2]; rfl
  unfold getAttr
  repeat (any_goals (first | assumption | (with_reducible refine wpAny_loadPart_at hx ?_; rw [hc]) | (with_reducible refine wpAny_typeLookup_exc hC hN FB.mro FB.ga.lookup ?_; rw [hng]) | (with_reducible refine wpAny_typeLookup_exc hC hN FB.mro FB.noGetattr ?_; rw [hnh]) | wp_step))
  refine codeAny_call_builtin FB.ga.plain PySem.F.entry_bexc_ga (wpAny_check_ga_own FB hC .base hx hc (xa_entry hC hN hna FB.mro hB hx hc hnc hdx hns hv ?_))
  show wpAny _ _ (handedOut v) _ _ _
  rw [hh]
  exact wpAny_pure hq
end
end Mine

open PySem PySem.W PySem.Calls PyProof.Rows
set_option Elab.async false
set_option maxRecDepth 100000
set_option maxHeartbeats 2000000
set_option linter.unusedVariables false
namespace Mine
local macro_rules | `(tactic| walk_at "M enter") => `(tactic| ((case k1 => k_is); (case k2 => k_is); (case k3 => exact fun _ => .of_eq rfl); (case k4 => rfl)))
section
variable {κ : Bool} {w : World} {A : Around} {E : Value → Shared → Prop} {s : Shared} {g h : Heap} {fr : Fs} {L e C fa Cl : Addr} {m : NsM} {news news' : List (Addr × Obj)} {k : Nat} {env : Env} {c : Int} {rest : List Stmt} {P P₂ : Addr → Int → Prop} {px pos apos : Pos} {y : Str}
theorem Fly.sto {n : Str} {fl : Value} {Q : Unit → Shared → Prop} {v : Value} (X : Fly w g ((L, m) :: fr) h news e C c fl) (he : EnvAt env L) (hn : env.kindOf n = some .local) (hQ : ∀ h' k', Fly w g ((L, up m n v) :: fr) h' news e C c fl → Q () (St s h' k')) : wpAny (model prg w) A (storeName env n v) Q E (St s h k) := by
  obtain ⟨d, oe, od, T, oT, vs, ts, C', q1, q2, q3, q4, q5, q6⟩ := X
  exact stoXe C' he (fun h' k' C'' => hQ h' k' ⟨d, oe, od, T, oT, vs, ts, C'', q1, q2, q3, q4, q5, q6⟩) hn
theorem codeX {fl : Value} {Q : Value → Shared → Prop} {expr : Bool} (X : Fly w g fr h news e 51 c fl) (hQ : ∀ t k', Q (.int c t) (St s h k')) : wpAny (model prg w) A (getAttr (.ref e) "code" expr) Q E (St s h k) := by
  obtain ⟨d, oe, od, T, oT, vs, ts, C', q1, q2, q3, q4, q5, q6⟩ := X
  obtain ⟨mA, ⟨es, ep, z1, z2, z3, z4⟩, hm⟩ := q3.code
  obtain ⟨t, ht⟩ := hm rfl
  exact xa_attr PySem.F.attrBase_Exception (C'.gd.X 51 _ (by k_is)) (nsH3_is C'.gd.X) (by kernel_rfl) (by kernel_rfl) (by kernel_rfl) missE_code (C'.N _ (.head _)).1 q3.cls (by rw [q3.data]; intro c q; cases q) q3.dict
    ⟨od, es, ep, (C'.N _ (.tail _ (.tail _ (.head _)))).1, z1, z2, z4⟩ ht rfl (hQ t _)
theorem gTryAs {body suite : List Stmt} {b₀ : Stmt} {x n : Str} {np hpos pos : Pos} {Q : Flow → Shared → Prop} (F : FrE A env ((L, m) :: fr)) (hf : env.frame = some L) (he : EnvAt env L) (hn : env.kindOf n = some .local) (hC : XC Cl)
    (hx : ∀ A' h' m', Cx w g ((L, m') :: fr) h' news → PEv w A' env s h' (.Name x np) fun _ => .ref Cl)
    (hb : wpG false (model prg w) A (execs body env) (Sq κ (model prg w) A env rest Q E) (Bx w s g L fr news P) (St s h k)) (hP : ∀ C c, P C c → C = Cl)
    (hh : ∀ h' k' e c m', Fly w g ((L, up m' n (.ref e)) :: fr) h' news e Cl c .none → P Cl c → wpG false (model prg w) (A.mark (some (.ref e))) (execs (b₀ :: suite) env) (fun f s₃ => ∃ h₃ k₃ m₃, s₃ = St s h₃ k₃ ∧ Cx w g ((L, m₃) :: fr) h₃ news ∧ ∀ h₄ k₄ m₄, Cx w g ((L, m₄) :: fr) h₄ news → Sq κ (model prg w) A env rest Q E f (St s h₄ k₄)) No (St s h' k'))
    : wpG κ (model prg w) A (execs (.Try body [.ExceptHandler (some (.Name x np)) (some n) (b₀ :: suite) hpos] [] [] pos :: rest) env) Q E (St s h k) := by
  refine gSt (gOf ?_)
  show wpAny _ _ (do standAt pos; tryStmt false (execs body env) [.ExceptHandler (some (.Name x np)) (some n) (b₀ :: suite) hpos] (execs [] env) [] env) _ _ _
  refine wpAny_bind (wpAny_standAt (wpAny_tryStmt_except (wpAny_mono (gAny hb) (fun f s₁ y => ?_) fun v s₁ y => ?_)))
  · cases f with
    | next => exact wpAny_execs_nil y
    | _ => exact y
  · obtain ⟨h₁, k₁, e, m₁, C, c, rfl, rfl, X, p⟩ := y
    have hCl := hP C c p
    subst hCl
    refine noteL F.up hf X fun h₂ X₂ => flight none X₂ fun h₃ X₃ => ?_
    refine wpAny_handleBy_cons ?_ (by intro z; cases z)
    refine codeAny_handlers_test (hx _ _ _ X₃.cx _ _ _ fun _ k₃ => excHit X₃ hC ?_)
    refine codeAny_handlers_suite_as (flight none X₃ fun h₄ X₄ => X₄.sto he hn fun h₅ k₅ X₅ => ?_)
    refine wpAny_mono (gAny (hh h₅ k₅ e c _ X₅ p)) (fun f s₂ y => ?_) fun v s₂ y => y.elim
    obtain ⟨h₆, k₆, m₆, rfl, C₆, y⟩ := y
    refine wpAny_nameGoes (s := St s h₆ k₆) hn (by rw [he.loc]; exact C₆.ns) (by rw [he.kind]; rfl) fun h₇ m₇ hn₇ hs₇ => ?_
    rw [he.loc] at hn₇ hs₇
    exact y h₇ _ m₇ (C₆.set hn₇ hs₇)
end
def Work (w : World) (s : Shared) (n : Nat) (news : List (Addr × Obj)) (f : Addr) (Rr : Option Nat) (g : Heap) : Prop :=
  ∀ {κ : Bool} {A : Around} {fr : Fs} {h : Heap} {k : Nat} {Q E : Value → Shared → Prop}, Rm A n → FrA A fr → Cx w g fr h news → (Rr = none → ∀ g' h' k' v, g.StaysIn g' → Cx w g' fr h' news → Q v (St s h' k')) → (∀ e : Nat, Rr = some e → ∀ v s', Fx w s g fr news (H3 e) v s' → E v s') →
    wpG κ (model prg w) A (call (.ref f) []) Q E (St s h k)
section
variable {κ : Bool} {w : World} {A : Around} {E : Value → Shared → Prop} {s : Shared} {g h : Heap} {fr : Fs} {L e C fa Cl : Addr} {m : NsM} {news news' : List (Addr × Obj)} {k : Nat} {env : Env} {c : Int} {rest : List Stmt} {P P₂ : Addr → Int → Prop} {px pos apos : Pos} {y : Str}
theorem kpFn {f : Addr} {o : Obj} {fd : FuncData} (ho : h.get? f = some o) (hd : o.data = .func fd) : Kp (model prg w) (.ref f) (St s h k) :=
  ⟨.frame, .inl rfl, (Looks.ld (part := none) ho).andThen (by rw [hd]; exact .now)⟩
theorem code_l {f n : Nat} {of : Obj} {fd : FuncData} {Rr : Option Nat} {Q : Value → Shared → Prop} (hR : Rm A (n + 1)) (F : FrA A fr) (C : Cx w g fr h news) (hfo : g.get? f = some of) (hfd : of.data = .func fd) (W : Work w s n news f Rr g)
    (ret : ∀ g' h' k' t, g.StaysIn g' → Cx w g' fr h' news → Q (.int (Rr.getD 0 : Nat) t) (St s h' k')) : wpG κ (model prg w) A (call (.ref 250) [.ref f]) Q E (St s h k) := by
  refine' enterE (binds := [("work", .ref f)]) F C hR.lt ?k1 ?k2 ?k3 ?k4 (fun _ _ => False) (fun v s' X => ?_) fun L h₁ k₁ C₁ F₁ => ?_
  walk_at "M enter"
  · obtain ⟨_, _, _, _, _, _, _, _, q⟩ := X
    exact q.elim
  refine gTryAs (g := g) (news := news) (Cl := 51) (P := fun C c => C = 51 ∧ ∃ e : Nat, Rr = some e ∧ c = e) F₁ rfl ⟨rfl, rfl, rfl, rfl⟩ rfl (.inl rfl) (fun A' h' m' C' => nmK C' (by rfl) (by k_is)) ?_ (fun C c q => q.1) fun h' k' e c m' X q => ?_
  · refine gExpr (gCallN (gP (nmL C₁) fun _ k₂ => gCall (es := []) ⟨kpFn (C₁.keep _ _ hfo) hfd, W (by exact hR.in) F₁.aa C₁ (fun hno g' h' k' v hg C' => gNil ?_) fun e he v s' X => X.bx.mono fun C c q => ⟨q.1, e, he, q.2⟩⟩ (by rfl)))
    show wpG _ _ _ (execs _ _) _ _ _
    refine retP cI fun t k' => ?_
    have := ret g' h' k' t hg C'.pop
    rw [hno] at this
    exact this
  · obtain ⟨_, e', he', rfl⟩ := q
    refine gRet (gOf (Attribute_Name_ ?_ (by with_unfolding_all rfl)))
    refine (nmL X.cx) k' _ _ fun _ k₁ => codeX X fun t k₂ => ⟨h', k₂, _, rfl, X.cx, fun h₄ k₄ m₄ C₄ => ?_⟩
    have := ret g h₄ k₄ t (fun _ _ z => z) C₄.pop
    rw [he'] at this
    exact this
end
end Mine

open PySem PySem.W PySem.Calls PyProof.Rows
set_option Elab.async false
set_option maxRecDepth 100000
set_option maxHeartbeats 2000000
set_option linter.unusedVariables false
namespace Mine
def TabInv (g : Heap) (pos : Pos) (qual : Str) (ps : Array Value) : Prop := ps = #[] ∨ ∃ c' : Addr, ps = #[rawInt pos.line, rawInt pos.col, .ref c'] ∧ g.CodeRec (.ref c') qual
theorem codeRecK {g g' : Heap} {v : Value} {q : Str} (h : g.CodeRec v q) (k : g.StaysIn g') : g'.CodeRec v q :=
  let ⟨c, o, vs, t, e1, e2, e3⟩ := h; ⟨c, o, vs, t, e1, k _ _ e2, e3⟩
theorem TabInv.keeps {g g' : Heap} {pos : Pos} {qual : Str} {ps : Array Value} (h : TabInv g pos qual ps) (k : g.StaysIn g') : TabInv g' pos qual ps := by
  rcases h with h | ⟨c', h1, h2⟩
  · exact .inl h
  · exact .inr ⟨c', h1, codeRecK h2 k⟩
section
variable {κ : Bool} {w : World} {A : Around} {E : Value → Shared → Prop} {s : Shared} {g h : Heap} {fr : Fs} {L a c P : Addr} {m : NsM} {news newsE : List (Addr × Obj)} {k : Nat} {pos : Pos} {cn : Str} {cs : Scope} {cl clos : List (Str × Addr)} {params : Arguments} {body : Expr} {scope : Scope} {ps : Array Value} {Pp : Addr → Int → Prop}
theorem lamE {Q : Value → Shared → Prop} (C : Cx w g ((L, m) :: fr) h ((P, tabObj ps) :: news)) (hne : ∀ q ∈ news, q.1 ≠ P) (hc : CodeHd g c P) (ht : TabInv g pos ((envX cn cs L a (.ref c) cl).qual ++ "<lambda>") ps) (hcl : closureFor scope (envX cn cs L a (.ref c) cl) = pure clos)
    (hQ : ∀ g' h' k' f ps' c' ctv pm, g.StaysIn g' → Cx w g' ((L, m) :: fr) h' ((P, tabObj ps') :: news) → TabInv g' pos ((envX cn cs L a (.ref c) cl).qual ++ "<lambda>") ps' → g'.get? f = some (kla_obj "<lambda>" ((envX cn cs L a (.ref c) cl).qual ++ "<lambda>") params body scope clos pm c' ctv) →
      g'.CodeRec (.ref c') ((envX cn cs L a (.ref c) cl).qual ++ "<lambda>") → Q (.ref f) (St s h' k'))
    (hdef : defaultsOf params (envX cn cs L a (.ref c) cl) = ([], []) := by rfl) : wpG κ (model prg w) A (eval (.Lambda params body scope pos) (envX cn cs L a (.ref c) cl)) Q E (St s h k) := by
  refine gOf (kla_eval hdef ?_)
  obtain ⟨p, loose, mean, mg, mb, T⟩ := C.G.2
  have hP := (C.N _ (.head _)).1
  have hPg := (C.N _ (.head _)).2.1
  have hgs := T.g.keeps C.keep
  obtain ⟨bm, ob, b1, b2, b3, b4, b5, b6⟩ := T.bmain
  have hgP : mainGlobals ≠ P := fun q => by
    obtain ⟨o, es, ep, e, hd, _⟩ := hgs
    rw [q, hP] at e; cases e; cases hd
  have hbP : bm ≠ P := fun q => by
    rw [q, hPg] at b3; cases b3
  have hbG : bm ≠ mainGlobals := fun q => by
    obtain ⟨o, es, ep, e, hd, _⟩ := T.g
    rw [q, e] at b3; cases b3; rw [hd] at b6; cases b6
  rcases ht with rfl | ⟨c', rfl, hcd⟩
  · refine kla_makeFunction (s := St s h k) (mg := mg) hcl rfl hgs rfl (hc.keeps C.keep) hP trivial rfl hgP ⟨bm, ob, b1, b2, hbG, hbP, C.keep _ _ b3, b4, b5, b6⟩ fun c' ctv h' tk hx hge hlt hrec htb => ?_
    have hcn : h.get? c' = none := Heap.get?_none_of_le hge
    have C₁ := C.but (UpdF.head hne) (fun b o hb e => hx b o hb e) htb
    have hfn := get_size h'
    have C₂ := C₁.on (stays_push h' (kla_obj "<lambda>" ((envX cn cs L a (.ref c) cl).qual ++ "<lambda>") params body scope clos ((mg "__name__").getD .none) c' ctv))
    have hrec' : (reb (h'.push (kla_obj "<lambda>" ((envX cn cs L a (.ref c) cl).qual ++ "<lambda>") params body scope clos ((mg "__name__").getD .none) c' ctv)) ((L, m) :: fr) ((P, tabObj (#[] ++ #[rawInt pos.line, rawInt pos.col, .ref c'])) :: news)).CodeRec (.ref c') ((envX cn cs L a (.ref c) cl).qual ++ "<lambda>") := by
      obtain ⟨c2, oc, vs, t, e2, hoc, r⟩ := hrec
      cases e2
      refine ⟨c', oc, vs, t, rfl, reb_get (Heap.get?_push_of_some _ hoc) (fun p hp => C.noFr hcn p hp) (fun p hp => ?_), r⟩
      rcases List.mem_cons.mp hp with rfl | hp
      · exact C.nes hcn (P, tabObj #[]) (.head _)
      · exact C.nes hcn _ (.tail _ hp)
    refine hQ _ _ _ _ _ c' ctv ((mg "__name__").getD .none) C₂.grow C₂.rebase (.inr ⟨c', rfl, hrec'⟩) ?_ hrec'
    exact reb_get (Heap.get?_push_size _ rfl) (fun p hp => C₁.noFr hfn p hp) (fun p hp => C₁.nes hfn p hp)
  · refine kla_makeFunctionHit (s := St s h k) (mg := mg) (cv := .ref c') hcl rfl hgs rfl (hc.keeps C.keep) hP trivial ?_ ⟨bm, ob, b1, b2, hbG, hbP, C.keep _ _ b3, b4, b5, b6⟩ fun ctv h' tk hk hsz => ?_
    · show (if (pos.line : Int) == pos.line && (pos.col : Int) == pos.col then some (Value.ref c') else _) = _
      rw [beq_self_eq_true, beq_self_eq_true]; rfl
    have C₁ := C.on hk
    have hfn := get_size h'
    have C₂ := C₁.on (stays_push h' (kla_obj "<lambda>" ((envX cn cs L a (.ref c) cl).qual ++ "<lambda>") params body scope clos ((mg "__name__").getD .none) c' ctv))
    refine hQ _ _ _ _ _ c' ctv ((mg "__name__").getD .none) C₂.grow C₂.rebase (.inr ⟨c', rfl, codeRecK hcd C₂.grow⟩) ?_ (codeRecK hcd C₂.grow)
    exact reb_get (Heap.get?_push_size _ rfl) (fun p hp => C₁.noFr hfn p hp) (fun p hp => C₁.nes hfn p hp)
theorem lamCall {qual : Str} {pm ctv : Value} {c' f : Addr} {Q : Value → Shared → Prop} (F : FrA A fr) (C : Cx w g fr h news) (hroom : A.depth < recursionLimit) (ho : g.get? f = some (kla_obj "<lambda>" qual params body scope clos pm c' ctv)) (hcd : g.CodeRec (.ref c') qual)
    (hbind : ∀ s, BindsTo s (kla_fn "<lambda>" qual params body scope clos pm (.ref c') ctv) ⟨[], []⟩ []) (hok : okDef scope [] = true) (hE : ∀ v s', Fx w s g fr newsE Pp v s' → E v s')
    (hQ : ∀ L' h₁ k', Cx w g ((L', fun y => ([] : List (Str × Value)).reverse.lookup y) :: fr) h₁ news → FrE (A.deeper (envX qual scope L' f (.ref c') clos)) (envX qual scope L' f (.ref c') clos) ((L', fun y => ([] : List (Str × Value)).reverse.lookup y) :: fr) →
      wpG κ (model prg w) (A.deeper (envX qual scope L' f (.ref c') clos)) (eval body (envX qual scope L' f (.ref c') clos)) Q (Bx w s g L' fr newsE Pp) (St s h₁ k')) : wpG κ (model prg w) A (call (.ref f) []) Q E (St s h k) := by
  simp only [okDef, Bool.and_eq_true, Bool.not_eq_true', List.all_eq_true, beq_iff_eq, bne_iff_ne] at hok
  obtain ⟨hco, hgen, hk, hcell, hloc⟩ := hok
  refine gCallC (cgTree ?_)
  show wpG _ _ A.in1 (callAny (.ref f) ⟨[], []⟩) _ _ _
  simp only [callAny]
  refine gBind (gOf (wpAny_load (s := St s h k) (C.keep _ _ ho) ?_))
  obtain ⟨c2, oc, vs, tq, e2, hoc, hdc, hq⟩ := hcd
  cases e2
  simp only [callFunction, hco, hgen]
  refine gBind (m := field (.ref c') 1) (gOf (wpAny_field (s := St s h k) (C.keep _ _ hoc) hdc hq ?_))
  refine gBind (gOf (wpAny_pure ?_))
  refine gBind (gOf (hbind (St s h k) _ _ _ _ ?_))
  refine gBind (gOf (wpAny_newFunctionEnv hcell hloc (fun h₁ hns hsb => ?_) hk))
  refine gBind (gOf (wpAny_enterFrame ((C.G.lim.keeps C.keep).fresh _ hsb) hroom ?_))
  refine gPure ⟨rfl, fun _ _ _ _ => rfl, ?_⟩
  have hk₁ : ∀ b o, h.get? b = some o → h₁.get? b = some o := fun b o e => hsb.extBut b o (Nat.ne_of_lt (Heap.lt_size e)) (Heap.get?_push_of_some _ e)
  refine cgTree ?_
  show wpG _ _ (A.deeper (envX qual scope h.objs.size f (.ref c') clos)) (do point; ret (← (eval body (envX qual scope h.objs.size f (.ref c') clos)).onRaise (leaving (envX qual scope h.objs.size f (.ref c') clos)))) _ _ _
  refine gBind (gOf (wpAny_point (gBind (gOnR (gMono (hQ h.objs.size h₁ _ (C.into hk₁ (get_size h) hns) (F.in rfl hk)) (fun v s' x => gPure x) fun v s' x => ?_)))))
  obtain ⟨h', k', e, m', C, c, rfl, rfl, X, p⟩ := x
  exact gOf (leaveL (F.in rfl hk) rfl X fun h'' X' => hE _ _ ⟨h'', k', e, C, c, rfl, rfl, X'.pop, p⟩)
end
end Mine

open PySem PySem.W PySem.Calls PyProof.Rows
set_option Elab.async false
set_option maxRecDepth 100000
set_option maxHeartbeats 2000000
set_option linter.unusedVariables false
namespace Mine
def RowAt (g : Heap) (v : Value) (r : List UInt8 × Nat) : Prop := ∃ t tb tc, v = .ref t ∧ g.IsTuple t #[.bytes r.1.toArray tb, .int (r.2 : Nat) tc]
theorem RowAt.keeps {g g' : Heap} {v : Value} {r : List UInt8 × Nat} (h : RowAt g v r) (k : g.StaysIn g') : RowAt g' v r := let ⟨t, tb, tc, e, h1⟩ := h; ⟨t, tb, tc, e, h1.at fun _ z => k _ _ z⟩
inductive CInts : List Expr → List Int → Prop
  | nil : CInts [] []
  | cons {i : Int} {n : Nat} {p : Pos} {es is} : CInts es is → CInts (.Constant (.int i) n p :: es) (i :: is)
section
variable {κ : Bool} {w : World} {A : Around} {E : Value → Shared → Prop} {s : Shared} {g h : Heap} {fr : Fs} {L a c P : Addr} {m : NsM} {news newsE : List (Addr × Obj)} {k nt nt' ni : Nat} {pos px py pt p1 p2 p3 p4 p5 : Pos} {cn : Str} {cs : Scope} {ccd : Value} {cl clos : List (Str × Addr)} {env : Env} {l r : Expr} {x y : Str} {rest : List Stmt}
theorem gCmpV {op : CmpOp} {Q : Value → Shared → Prop} (h : wpG κ (model prg w) A (eval l env) (fun a s₁ => wpG κ (model prg w) A (eval r env) (fun b s₂ => wpG κ (model prg w) A (compareOp op a b) Q E s₂) E s₁) E s)
    (hm : behindInMarks op r = false := by rfl) : wpG κ (model prg w) A (eval (.Compare l [op] [r] pos) env) Q E s := by
  rw [eval_Compare1, markedBehindIn_of_false hm]
  exact gBind (gMono h (fun a s₁ y => gBind (gHolding (gMono y (fun b s₂ z => gBind (gStand (gOperate z))) fun _ _ z => z))) fun _ _ z => z)
theorem asgTC {t : Addr} {u v : Value} {oc : Obj} {v₀ : Option Value} {G : Obj → List (Addr × Obj)} {Q : Unit → Shared → Prop} (hh : A.handled = none) (C : Cx w g ((L, m) :: fr) h news) (he : EnvAt env L) (U : UpdF c oc news G) (hd : oc.data = .cell v₀) (ht : h.IsTuple t #[u, v])
    (hQ : ∀ h' k' oc', oc'.data = .cell (some u) → Cx w g ((L, up m y v) :: fr) h' (G oc') → Q () (St s h' k')) (hc : env.cells.lookup x = some c := by rfl) (hx : env.kindOf x = some .cell := by rfl) (hy : env.kindOf y = some .local := by rfl) :
    wpAny (model prg w) A (assign (.Tuple [.Name x px, .Name y py] nt pt) env (.ref t)) Q E (St s h k) :=
  wpAny_assign_Tuple (s := St s h k) hh ht rfl rfl fun h₁ hx₁ => by
    have C₁ : Cx w g ((L, m) :: fr) h₁ news := C.on fun b o e => hx₁ b o (Nat.ne_of_lt (Heap.lt_size e)) e
    show wpAny _ _ (do holding [v] (assign (.Name x px) env u); do holding [] (assign (.Name y py) env v); pure ()) _ _ _
    refine wpAny_bind (wpAny_holding (wpAny_assign_Name (wpAny_storeName_cell (s := St s h₁ k) he.kind hx hc ⟨oc, (C₁.N _ (updIn U)).1, hd⟩ fun h₂ hv₂ hs₂ => ?_)))
    obtain ⟨oc', ho', hd'⟩ := hv₂
    have C₂ := C₁.but U (fun b o hb e => (hs₂.2 b hb).trans e) ho'
    exact wpAny_bind (wpAny_holding (wpAny_assign_Name (stoXe C₂ he (fun h₃ k₃ C₃ => wpAny_pure (hQ h₃ k₃ oc' hd' C₃)) hy)))
theorem cIntsE : ∀ {es : List Expr} {is : List Int}, CInts es is → ∀ {Q : List Value → Shared → Prop} {k : Nat}, (∀ vs k', IntsAre vs is → Q vs (St s h k')) → Evs κ (model prg w) A env es Q E (St s h k)
  | _, _, .nil, _, _, hQ => hQ [] _ .nil
  | _, _, .cons hc, _, _, hQ => gP cI fun t k₁ => cIntsE hc fun vs k' hv => hQ _ k' (.cons _ t hv)
theorem bytesL {es : List Expr} {bs : List UInt8} {Q : Value → Shared → Prop} (hc : CInts es (bI bs)) (hh : A.handled = none) (C : Cx w g ((L, m) :: fr) h news) (hb : nsIn (KK w.params) mainGlobals "bytes" = some none) (hz : bs.length ≤ 100) (hQ : ∀ h' t k', h.StaysIn h' → Q (.bytes bs.toArray t) (St s h' k'))
    (hx : cs.names.lookup ("bytes" : Str) = some .globalImplicit := by rfl) (hk : cs.kind = .function := by rfl) (hs : starEach es (envX cn cs L a ccd cl) = es.map fun e => (false, eval e (envX cn cs L a ccd cl)) := by rfl)
    (hs2 : starEach [Expr.List es p1] (envX cn cs L a ccd cl) = [Expr.List es p1].map fun e => (false, eval e (envX cn cs L a ccd cl)) := by rfl) :
    wpG κ (model prg w) A (eval (.Call (.Name "bytes" px) [.List es p1] [] pos) (envX cn cs L a ccd cl)) Q E (St s h k) := by
  refine callB (nmB (v := .type "bytes") C hx hb (by rfl) (by decide) hk) (fun _ => kpT) (fun k₁ => gLst (cIntsE hc fun vs k₂ hv => ?_) hs) hs2
  refine newL (hz := by rw [hv.length, List.length_map]; omega) fun h' t o hn ho hl q => ?_
  refine gOf (call_bytes_ints (s := St s h' k₂) (hl.1.is ho) hv (bI_rng bs) (by rw [hv.length, List.length_map, sizeLine_eq]; omega) hh fun h₃ t₃ k₃ hk₃ => ?_)
  rw [bI_arr]
  exact hQ h₃ t₃ k₃ fun b o e => hk₃ b o (q b o e)
def RowE (w : World) (A : Around) (s : Shared) (L : Addr) (m : NsM) (fr : Fs) (env : Env) (e : Expr) (r : List UInt8 × Nat) : Prop :=
  ∀ {κ : Bool} {g h : Heap} {news : List (Addr × Obj)} {k : Nat} {Q E : Value → Shared → Prop}, Cx w g ((L, m) :: fr) h news → (∀ g' h' k' v, g.StaysIn g' → Cx w g' ((L, m) :: fr) h' news → RowAt g' v r → Q v (St s h' k')) → wpG κ (model prg w) A (eval e env) Q E (St s h k)
theorem rowsE : ∀ {es : List Expr} {rs : List (List UInt8 × Nat)}, Paired (RowE w A s L m fr env) es rs → ∀ {Q : List Value → Shared → Prop} {g h : Heap} {news : List (Addr × Obj)} {k : Nat}, Cx w g ((L, m) :: fr) h news → (∀ g' h' k' vs, g.StaysIn g' → Cx w g' ((L, m) :: fr) h' news → Paired (RowAt g') vs rs → Q vs (St s h' k')) →
    Evs κ (model prg w) A env es Q E (St s h k)
  | _, _, .nil, _, _, _, _, _, C, hQ => hQ _ _ _ [] (fun _ _ z => z) C .nil
  | _, _, .cons h1 hp, _, _, _, _, _, C, hQ => h1 C fun g₁ h₁ k₁ v hg₁ C₁ hv => rowsE hp C₁ fun g₂ h₂ k₂ vs hg₂ C₂ hvs => hQ g₂ h₂ k₂ (v :: vs) (fun _ _ z => hg₂ _ _ (hg₁ _ _ z)) C₂ (.cons (hv.keeps hg₂) hvs)
theorem rowT {r : List UInt8 × Nat} {tb tc : Tok} {Q : Value → Shared → Prop} (C : Cx w g fr h news) (hQ : ∀ g' h' v, g.StaysIn g' → Cx w g' fr h' news → RowAt g' v r → Q v (St s h' k)) : wpG κ (model prg w) A (newTuple [.bytes r.1.toArray tb, .int (r.2 : Nat) tc]) Q E (St s h k) := by
  refine newT (by decide : 2 ≤ 1000) fun h' t hn ho q => ?_
  obtain ⟨y1, y2, y3⟩ := C.toG hn ho q
  exact hQ _ h' _ y1 y2 ⟨t, tb, tc, rfl, ⟨_, y3, rfl, 0, rfl⟩⟩
theorem rowB {es : List Expr} {bs : List UInt8} {code : Nat} (hc : CInts es (bI bs)) (hh : A.handled = none) (hb : nsIn (KK w.params) mainGlobals "bytes" = some none) (hz : bs.length ≤ 100) 
    (hx : cs.names.lookup ("bytes" : Str) = some .globalImplicit := by rfl) (hk : cs.kind = .function := by rfl) (hs : starEach es (envX cn cs L a ccd cl) = es.map fun e => (false, eval e (envX cn cs L a ccd cl)) := by rfl) :
    RowE w A s L m fr (envX cn cs L a ccd cl) (.Tuple [.Call (.Name "bytes" px) [.List es p1] [] p2, .Constant (.int code) ni p3] nt pos) (bs, code) := fun C hQ =>
  gTup (bytesL hc hh C hb hz (fun h' t k' q => gP cI fun tc k₂ => rowT (r := (bs, code)) (C.on q) fun g₃ h₃ v hg₃ C₃ hv => hQ g₃ h₃ _ v hg₃ C₃ hv) hx hk hs (by rfl)) (by rfl)
section
variable {pf : List UInt8} {kd code : Nat}
theorem rowP0 {e : Expr} {bs : List UInt8} (hR : Rm A 2) (hk0 : kd < 2 ^ 62) (hz : bs.length ≤ 1000) (hv : nsIn (KK w.params) mainGlobals "_law_plain" = some (some (.ref 231))) (hkp : keepIn (KK w.params) (.ref 231) = true)
    (he : ∀ {κ : Bool} {g h : Heap} {news : List (Addr × Obj)} {k : Nat} {Q E : Value → Shared → Prop}, Cx w g ((L, m) :: fr) h news → (∀ h' t k', h.StaysIn h' → Q (.bytes bs.toArray t) (St s h' k')) → wpG κ (model prg w) A (eval e (envX cn cs L a ccd cl)) Q E (St s h k))
    (hx : cs.names.lookup ("_law_plain" : Str) = some .globalImplicit := by rfl) (hk : cs.kind = .function := by rfl) (hs : starEach [.Constant (.int kd) ni p4, e] (envX cn cs L a ccd cl) = [.Constant (.int kd) ni p4, e].map fun e => (false, eval e (envX cn cs L a ccd cl)) := by rfl)
    (hs2 : starEach [.Call (.Name "_law_plain" px) [.Constant (.int kd) ni p4, e] [] p2, .Constant (.int code) nt' p3] (envX cn cs L a ccd cl) = [.Call (.Name "_law_plain" px) [.Constant (.int kd) ni p4, e] [] p2, .Constant (.int code) nt' p3].map fun e => (false, eval e (envX cn cs L a ccd cl)) := by rfl) :
    RowE w A s L m fr (envX cn cs L a ccd cl) (.Tuple [.Call (.Name "_law_plain" px) [.Constant (.int kd) ni p4, e] [] p2, .Constant (.int code) nt' p3] nt pos) (plainB kd bs, code) := fun C hQ =>
  gTup (callF C hx hv hkp (fun k₁ => gP cI fun tk k₂ => he C fun h' t k' q => ⟨(C.on q).keep, plain_l hR (C.on q) hk0 hz fun h₃ t₃ k₃ C₃ => gP cI fun tc k₄ => rowT (r := (plainB kd bs, code)) C₃ fun g₅ h₅ v hg₅ C₅ hv => hQ g₅ h₅ _ v hg₅ C₅ hv⟩) hs hk) hs2
end
end
end Mine

open PySem PySem.W PySem.Calls PyProof.Rows
set_option Elab.async false
set_option maxRecDepth 100000
set_option maxHeartbeats 2000000
set_option linter.unusedVariables false
namespace Mine
local macro_rules | `(tactic| walk_at "M enter") => `(tactic| ((case k1 => k_is); (case k2 => k_is); (case k3 => exact fun _ => .of_eq rfl); (case k4 => rfl)))
noncomputable def wrRows : List (List UInt8 × Nat) := [(plainB 4 [6, 1, 6, 2], 265), (plainB 4 [3, 1], 265)] ++ [(plainB 4 [6], 262), (plainB 7 [1, 1], 262)] ++ [(plainB 13 [], 262), (plainB 3 [64], 262)] ++ [(plainB 2 [], 261), ([9, 40], 261), (plainB 0 (List.replicate 101 0), 263)] ++
  [([1, 64, 101], 263), (plainB 5 [], 262)] ++ [(plainB 6 [120], 261), (plainB 8 [], 261)]
theorem wrOk : ∀ i, i < 13 → ∃ r, wrRows[i]? = some r ∧ takeF 100 r.1 = .error r.2 ∧ r.1.length ≤ 200
  | 0, _ => ⟨_, rfl, by kernel_rfl, by decide +kernel⟩
  | 1, _ => ⟨_, rfl, by kernel_rfl, by decide +kernel⟩
  | 2, _ => ⟨_, rfl, by kernel_rfl, by decide +kernel⟩
  | 3, _ => ⟨_, rfl, by kernel_rfl, by decide +kernel⟩
  | 4, _ => ⟨_, rfl, by kernel_rfl, by decide +kernel⟩
  | 5, _ => ⟨_, rfl, by kernel_rfl, by decide +kernel⟩
  | 6, _ => ⟨_, rfl, by kernel_rfl, by decide +kernel⟩
  | 7, _ => ⟨_, rfl, by kernel_rfl, by decide +kernel⟩
  | 8, _ => ⟨_, rfl, by kernel_rfl, by decide +kernel⟩
  | 9, _ => ⟨_, rfl, by kernel_rfl, by decide +kernel⟩
  | 10, _ => ⟨_, rfl, by kernel_rfl, by decide +kernel⟩
  | 11, _ => ⟨_, rfl, by kernel_rfl, by decide +kernel⟩
  | 12, _ => ⟨_, rfl, by kernel_rfl, by decide +kernel⟩
  | _ + 13, h => absurd h (by omega)
section
variable {κ : Bool} {w : World} {A : Around} {E : Value → Shared → Prop} {s : Shared} {g h : Heap} {fr : Fs} {L a c P : Addr} {m : NsM} {news newsE : List (Addr × Obj)} {k nt nt' ni : Nat} {pos px py pt p1 p2 p3 p4 p5 : Pos} {cn : Str} {cs : Scope} {ccd : Value} {cl clos : List (Str × Addr)} {env : Env} {l r : Expr} {x y : Str} {rest : List Stmt}
theorem pairApp {α β : Type} {F : α → β → Prop} : ∀ {l₁ : List α} {m₁ : List β} {l₂ : List α} {m₂ : List β}, Paired F l₁ m₁ → Paired F l₂ m₂ → Paired F (l₁ ++ l₂) (m₁ ++ m₂)
  | _, _, _, _, .nil, h => h
  | _, _, _, _, .cons a t, h => .cons a (pairApp t h)
theorem pairAt {α β : Type} {F : α → β → Prop} : ∀ {l : List α} {m : List β} {i : Nat} {b : β}, Paired F l m → m[i]? = some b → ∃ a, l[i]? = some a ∧ F a b
  | _, _, _, _, .nil, h => nomatch h
  | _, _, 0, _, .cons a t, h => by cases h; exact ⟨_, rfl, a⟩
  | _, _, i + 1, _, .cons a t, h => pairAt (i := i) t h
theorem swap2 {α : Type} {a b : α} {l : List α} : ∀ p ∈ b :: a :: l, p ∈ a :: b :: l := fun p hp => by
  rcases List.mem_cons.mp hp with rfl | hp
  · exact .tail _ (.head _)
  · rcases List.mem_cons.mp hp with rfl | hp
    · exact .head _
    · exact .tail _ (.tail _ hp)
theorem bytesN {n : Nat} {Q : Value → Shared → Prop} (hz : n ≤ 1000) (C : Cx w g ((L, m) :: fr) h news) (hb : nsIn (KK w.params) mainGlobals "bytes" = some none) (hQ : ∀ h' t k', h.StaysIn h' → Q (.bytes (List.replicate n (0 : UInt8)).toArray t) (St s h' k'))
    (hx : cs.names.lookup ("bytes" : Str) = some .globalImplicit := by rfl) (hk : cs.kind = .function := by rfl)
    (hs2 : starEach [.Constant (.int n) ni p1] (envX cn cs L a ccd cl) = [.Constant (.int n) ni p1].map fun e => (false, eval e (envX cn cs L a ccd cl)) := by rfl) :
    wpG κ (model prg w) A (eval (.Call (.Name "bytes" px) [.Constant (.int n) ni p1] [] pos) (envX cn cs L a ccd cl)) Q E (St s h k) := by
  refine callB (nmB (v := .type "bytes") C hx hb (by rfl) (by decide) hk) (fun _ => kpT) (fun k₁ => gP cI fun t₁ k₂ => gOf (BA.bytesNum (s := St s h k₂) ⟨Int.natCast_nonneg _, by omega⟩ fun t₂ k₃ => ?_)) hs2
  have := hQ h t₂ k₃ fun _ _ z => z
  rw [List.toArray_replicate] at this
  rw [Int.toNat_natCast]
  exact this
theorem rowsAdd {es : List Expr} {rs rs0 : List (List UInt8 × Nat)} {l : Addr} {vs : List Value} {Q : Flow → Shared → Prop} (hp : Paired (RowE w A s L m fr (envX cn cs L a ccd cl)) es rs) (C : Cx w g ((L, m) :: fr) h news) (hm : m "rows" = some (.ref l)) (hl : g.IsList l vs.toArray) (hvs : Paired (RowAt g) vs rs0) (hz : rs0.length ≤ 100 ∧ rs.length ≤ 100)
    (hQ : ∀ g' h' k' l' vs', g.StaysIn g' → Cx w g' ((L, up m "rows" (.ref l')) :: fr) h' news → g'.IsList l' (List.toArray vs') → Paired (RowAt g') vs' (rs0 ++ rs) → wpG κ (model prg w) A (execs rest (envX cn cs L a ccd cl)) Q E (St s h' k'))
    (hx : cs.names.lookup ("rows" : Str) = some .local := by rfl) (hk : cs.kind = .function := by rfl) (hs : starEach es (envX cn cs L a ccd cl) = es.map fun e => (false, eval e (envX cn cs L a ccd cl)) := by rfl)
    (hsw : swapsWith (.BinOp (.Name "rows" p1) .Add (.List es p2) p3) (some (.Name "rows" px)) pos.line (envX cn cs L a ccd cl) = pure false := by rfl) :
    wpG κ (model prg w) A (execs (.Assign [.Name "rows" px] (.BinOp (.Name "rows" p1) .Add (.List es p2) p3) pos :: rest) (envX cn cs L a ccd cl)) Q E (St s h k) := by
  refine gAsg (gBin (gP (nmL C (hx := hx) (hv := by exact hm) (hk := hk)) fun _ k₁ => gLst (rowsE hp C fun g₂ h₂ k₂ ws hg₂ C₂ hws => newL (hz := by rw [hws.length]; omega) fun h₃ l₃ o₃ hn₃ ho₃ hl₃ q₃ => ?_) hs)) hsw
  have C₃ := C₂.on q₃
  refine addL (hl.at fun o e => C₃.keep _ _ (hg₂ _ _ e)) (hl₃.1.is ho₃) (by rw [hws.length, hvs.length]; omega) fun h₄ l₄ o₄ hn₄ ho₄ hl₄ q₄ => ?_
  obtain ⟨y1, y2, y3⟩ := C₃.toG hn₄ ho₄ q₄
  refine stoX y2 (fun h₅ k₅ C₅ => hQ _ h₅ k₅ l₄ (vs ++ ws) (fun b o e => y1 _ _ (hg₂ _ _ e)) C₅ (hl₄.1.is y3) (pairApp (Paired.mono (fun _ _ z => (z.keeps hg₂).keeps y1) hvs) (Paired.mono (fun _ _ z => z.keeps y1) hws))) hk hx
theorem wr_l {b l' : Addr} {o : Obj} {G : Obj → List (Addr × Obj)} {Q : Value → Shared → Prop} (hR : Rm A 14) (F : FrA A fr) (C : Cx w g fr h ((252, tabObj #[]) :: news)) (hne : ∀ q ∈ news, q.1 ≠ 252) (U : UpdF b o news G) (B : BoxO l' o) (I : Inner g l')
    (ret : ∀ g' h' k' o' ps, g.StaysIn g' → Cx w g' fr h' ((252, tabObj ps) :: G o') → BoxO l' o' → Q (.bool true) (St s h' k')) : wpG κ (model prg w) A (call (.ref 257) [.ref b]) Q E (St s h k) := by
  refine' enterK (binds := [("box", .ref b)]) C hR.lt ?k1 ?k2 ?k3 ?k4 ?k5 fun L h₁ k₁ cells C₁ Y hnc F₁ => ?_
  walk_at "M enter"
  case k5 => decide +kernel
  obtain ⟨oc, rfl, hoc⟩ := CellsAre.one Y
  replace F₁ := F₁ F
  have hcb : L + 1 ≠ b := (hnc _ (.tail _ (updIn U)) _ (.head _)).symm
  have hct : L + 1 ≠ 252 := (hnc _ (.head _) _ (.head _)).symm
  have hbt : 252 ≠ b := (hne _ (updIn U)).symm
  have U₁ : UpdF b o ((L + 1, oc) :: (252, tabObj #[]) :: news) (fun o => (L + 1, oc) :: (252, tabObj #[]) :: G o) := UpdF.tail hcb (UpdF.tail hbt U)
  have hR₂ := hR.in (env := envX "_law_wrong_right" default L 257 (.ref 256) [("octets", L + 1)])
  refine gAsg (gLst (rowsE (rs := [(plainB 4 [6, 1, 6, 2], 265), (plainB 4 [3, 1], 265)]) (.cons (rowP0 (hR.in.le (by decide)) (by decide) (by decide) (by k_is) (by k_is) fun C hQ => bytesL (bs := [6, 1, 6, 2]) (.cons (.cons (.cons (.cons .nil)))) hR.hh C (by k_is) (by decide) hQ) (.cons (rowP0 (hR.in.le (by decide)) (by decide) (by decide) (by k_is) (by k_is) fun C hQ => bytesL (bs := [3, 1]) (.cons (.cons .nil)) hR.hh C (by k_is) (by decide) hQ) .nil)) C₁ fun g₂ h₂ k₂ vs hg₂ C₂ hvs => newL (hz := by rw [hvs.length]; decide) fun h₃ l₃ o₃ hn₃ ho₃ hl₃ q₃ => ?_) (by rfl))
  obtain ⟨y1, y2, y3⟩ := C₂.toG hn₃ ho₃ q₃
  refine stoX y2 fun h₄ k₄ C₄ => ?_
  refine rowsAdd (rs := [(plainB 4 [6], 262), (plainB 7 [1, 1], 262)]) (.cons (rowP0 (hR.in.le (by decide)) (by decide) (by decide) (by k_is) (by k_is) fun C hQ => bytesL (bs := [6]) (.cons .nil) hR.hh C (by k_is) (by decide) hQ) (.cons (rowP0 (hR.in.le (by decide)) (by decide) (by decide) (by k_is) (by k_is) fun C hQ => bytesL (bs := [1, 1]) (.cons (.cons .nil)) hR.hh C (by k_is) (by decide) hQ) .nil)) C₄ rfl (hl₃.1.is y3) (Paired.mono (fun _ _ z => z.keeps y1) hvs) ⟨by decide, by decide⟩ fun g0 h0 k0 l0 v0 hg0 C0 hl0 hv0 => ?_
  refine rowsAdd (rs := [(plainB 13 [], 262), (plainB 3 [64], 262)]) (.cons (rowP0 (hR.in.le (by decide)) (by decide) (by decide) (by k_is) (by k_is) fun C hQ => gP (cY (b := [])) fun t k => hQ _ t k fun _ _ z => z) (.cons (rowP0 (hR.in.le (by decide)) (by decide) (by decide) (by k_is) (by k_is) fun C hQ => bytesL (bs := [64]) (.cons .nil) hR.hh C (by k_is) (by decide) hQ) .nil)) C0 rfl hl0 hv0 ⟨by decide, by decide⟩ fun g1 h1 k1 l1 v1 hg1 C1 hl1 hv1 => ?_
  refine rowsAdd (rs := [(plainB 2 [], 261), ([9, 40], 261), (plainB 0 (List.replicate 101 0), 263)]) (.cons (rowP0 (hR.in.le (by decide)) (by decide) (by decide) (by k_is) (by k_is) fun C hQ => gP (cY (b := [])) fun t k => hQ _ t k fun _ _ z => z) (.cons ?_ (.cons (rowP0 (bs := List.replicate 101 0) (hR.in.le (by decide)) (by decide) (by decide) (by k_is) (by k_is) fun C hQ => bytesN (n := 101) (by decide) C (by k_is) hQ) .nil))) C1 rfl hl1 hv1 ⟨by decide, by decide⟩ fun g2 h2 k2 l2 v2 hg2 C2 hl2 hv2 => ?_
  · intro κ' g' h' news' k' Q' E' C' hQ'
    exact rowB (code := 261) (bs := [9, 40]) (.cons (.cons .nil)) (by exact hR.hh) (by k_is) (by decide) (by rfl) (by rfl) (by rfl) C' hQ'
  refine rowsAdd (rs := [([1, 64, 101], 263), (plainB 5 [], 262)]) (.cons ?_ (.cons (rowP0 (hR.in.le (by decide)) (by decide) (by decide) (by k_is) (by k_is) fun C hQ => gP (cY (b := [])) fun t k => hQ _ t k fun _ _ z => z) .nil)) C2 rfl hl2 hv2 ⟨by decide, by decide⟩ fun g3 h3 k3 l3 v3 hg3 C3 hl3 hv3 => ?_
  · intro κ' g' h' news' k' Q' E' C' hQ'
    exact rowB (code := 263) (bs := [1, 64, 101]) (.cons (.cons (.cons .nil))) (by exact hR.hh) (by k_is) (by decide) (by rfl) (by rfl) (by rfl) C' hQ'
  refine rowsAdd (rs := [(plainB 6 [120], 261), (plainB 8 [], 261)]) (.cons (rowP0 (hR.in.le (by decide)) (by decide) (by decide) (by k_is) (by k_is) fun C hQ => gP (cY (b := [120])) fun t k => hQ _ t k fun _ _ z => z) (.cons (rowP0 (hR.in.le (by decide)) (by decide) (by decide) (by k_is) (by k_is) fun C hQ => gP (cY (b := [])) fun t k => hQ _ t k fun _ _ z => z) .nil)) C3 rfl hl3 hv3 ⟨by decide, by decide⟩ fun g4 h4 k4 l4 v4 hg4 C4 hl4 hv4 => ?_
  have hgg : g.StaysIn g4 := fun b o e => hg4 _ _ (hg3 _ _ (hg2 _ _ (hg1 _ _ (hg0 _ _ (y1 _ _ (hg₂ _ _ e))))))
  have hsz : v4.toArray.size = 13 := by rw [List.size_toArray, hv4.length]; rfl
  refine gAsgTup (gSub (gP (nmL C4) fun _ kA => gBin (drawE next_d (hR.in.le (by decide)) C4 U₁ B (I.keeps hgg) ⟨rfl, rfl, rfl, rfl⟩ (by k_is) (by k_is) (nmL C4) fun gb hb kb ob vb hgb Cb Bb hvb => gP (pLenL Cb (hl4.at fun o z => Cb.keep _ _ (hgb _ _ z)) (nmL Cb) (by rw [hsz]; decide) (hv := by k_is)) fun tl kl => ?_)))
  obtain ⟨x, tx, rfl, x0, x1⟩ := hvb
  rw [hsz]
  refine modI (by decide) fun tm km => ?_
  obtain ⟨i, hi, hilt⟩ := natOf (Int.emod_nonneg x (by decide : ((13 : Nat) : Int) ≠ 0)) (Int.emod_lt_of_pos x (by decide : (0 : Int) < (13 : Nat)))
  rw [hi]
  obtain ⟨r, hr, hrk, hrl⟩ := wrOk i (by omega)
  obtain ⟨v, hv, hrow⟩ := pairAt (b := r) hv4 hr
  obtain ⟨t, tb, tc, rfl, ht⟩ := hrow
  have hlb : hb.IsList l4 v4.toArray := hl4.at fun o z => Cb.keep _ _ (hgb _ _ z)
  refine tail_any (hlb.typeIs (s := St s hb km)) slot_list_getitem.lookup (wpAny_getItem_list (s := St s hb km) hlb (Int.natCast_nonneg _) (by omega) (x := .ref t) (by rw [Int.toNat_natCast, List.getElem?_toArray]; exact hv) ?_) (by rfl)
  refine asgTC (by exact hR.hh) Cb ⟨rfl, rfl, rfl, rfl⟩ (UpdF.head fun q hq => ?_) hoc (ht.at fun o z => Cb.keep _ _ (hgb _ _ z)) fun hc kc oc' hoc' Cc => ?_
  · rcases List.mem_cons.mp hq with rfl | hq
    · exact hct.symm
    · exact updAll (P := fun a => a ≠ L + 1) U (fun q hq => hnc q (.tail _ hq) _ (.head _)) q hq
  have Cc' := Cc.drop (news' := (252, tabObj #[]) :: (L + 1, oc') :: G ob) swap2
  have hne' : ∀ q ∈ (L + 1, oc') :: G ob, q.1 ≠ 252 := fun q hq => by
    rcases List.mem_cons.mp hq with rfl | hq
    · exact hct
    · exact updAll (P := fun a => a ≠ 252) U hne q hq
  refine gRet (gCmpV (callF Cc (by rfl) (by k_is) (by k_is) fun kd => lamE Cc' hne' (codeHd_of_K Cc.G.X (by kernel_rfl)) (.inl rfl) (by rfl) fun gd hd kd f ps' c' ctv pm hgd Cd htab hfo hcd => ⟨fun b o e => Cd.keep _ _ (hgd _ _ e), code_l (n := 12) (Rr := some r.2) hR.in F₁.aa Cd hfo rfl (fun {κ A fr h k Q E} hRw Fw Cw ok err => ?_) fun ge he ke te hge Ce => gP (nmL Ce) fun _ kf => ?_⟩))
  · refine lamCall (newsE := (252, tabObj ps') :: (L + 1, oc') :: G ob) (Pp := H3 r.2) Fw Cw hRw.lt hfo hcd (fun _ => .of_eq rfl) rfl (fun v s' X => err r.2 rfl v s' X) fun L' h₁ k₁ C₁ F₁ => ?_
    refine gMeth (callF C₁ (by rfl) (by k_is) (by k_is) fun k₂ => gP cI fun t₂ k₃ => ⟨C₁.keep, stream_n (most := 100) ?_ C₁ fun h₂ k₄ x d ox od tr C₂ S₂ hne₂ => methS S₂ C₂ (.head _) (.tail _ (.head _)) (nsFS_at _).2.2.2.2.2.1 (by k_is) missO_take (by rfl) ?_⟩) (by rfl)
    · have := hRw.room; show A.depth + 1 + 3 < _; omega
    refine gCall (gP (nmFe C₂ rfl (.tail _ (.tail _ (.tail _ (.head _)))) hoc') fun _ k₅ => ⟨keeps_K (by k_is) _ C₂.gd.X, ?_⟩) (by rfl)
    refine take_r hRw.in F₁.aa C₂ S₂ hne₂ (by decide) (by rw [List.length_nil]; omega) (fun fs r' htk => ?_) fun e he v s' X => ?_
    · rw [List.nil_append, hrk] at htk; cases htk
    · rw [List.nil_append, hrk] at he
      cases he
      exact X.bx
  · refine gOf (eq_int (s := St s he kf) ?_)
    rw [Option.getD_some, beq_self_eq_true]
    exact ret ge he kf ob ps' (fun b o e => hge _ _ (hgd _ _ (hgb _ _ (hgg _ _ e)))) ((Ce.drop (subCons fun p hp => .tail _ hp)).pop) Bb
end
end Mine

open PySem PySem.W PySem.Calls PyProof.Rows
set_option Elab.async false
set_option maxRecDepth 100000
set_option maxHeartbeats 2000000
set_option linter.unusedVariables false
namespace Mine
theorem dn_cons (b : UInt8) (l : List UInt8) (a : Nat) : (b :: l).foldl (fun a b => a * 256 + b.toNat) a = l.foldl (fun a b => a * 256 + b.toNat) (a * 256 + b.toNat) := rfl
theorem toU8n (x : Nat) : (x % 256).toUInt8.toNat = x % 256 := by
  have := toU8 x
  omega
theorem dn_be : ∀ (k n a : Nat), (be k n).foldl (fun a b => a * 256 + b.toNat) a = a * 256 ^ k + n % 256 ^ k
  | 0, n, a => by simp [be, Nat.mod_one]
  | k + 1, n, a => by
    show (be k n).foldl _ (a * 256 + ((n / 256 ^ k % 256).toUInt8.toNat)) = _
    rw [dn_be k n, toU8n, Nat.pow_succ, Nat.mod_mul, Nat.add_mul, Nat.mul_assoc, Nat.mul_comm 256, Nat.mul_comm (n / 256 ^ k % 256), Nat.add_assoc, Nat.add_comm (256 ^ k * _)]
theorem dn_be' {k n : Nat} (h : n < 256 ^ k) : dn (be k n) = n := by
  show (be k n).foldl _ 0 = n
  rw [dn_be, Nat.zero_mul, Nat.zero_add, Nat.mod_eq_of_lt h]
theorem enc_len (n : Nat) : (enc n).length = vsz n := be_len _ _
theorem vsz_pos (n : Nat) : 1 ≤ vsz n := Nat.one_le_two_pow
theorem enc_head {n : Nat} (hn : n < 2 ^ 62) : ∃ c r, enc n = c :: r ∧ 2 ^ (c.toNat / 64) = vsz n := by
  have v3 := vix3 n
  have b0 := vsz_pos n
  have hlt : n < 2 ^ (8 * vsz n - 2) := (vixLe hn _ v3).mpr (Nat.le_refl _)
  obtain ⟨z, hz⟩ : ∃ z, vsz n = z + 1 := ⟨vsz n - 1, by omega⟩
  have e1 : enc n = (n / 256 ^ z % 256 + 64 * vix n).toUInt8 :: be z n := by
    unfold enc
    rw [hz]
    exact encB v3 (by rw [← hz]; exact hlt)
  have q1 : n / 256 ^ z < 64 := by
    refine Nat.div_lt_of_lt_mul ?_
    have := encS_pow (z := z + 1) (by omega)
    rw [Nat.add_sub_cancel] at this
    rw [hz, this] at hlt
    rw [Nat.mul_comm]; exact hlt
  refine ⟨_, _, e1, ?_⟩
  have hb : (n / 256 ^ z % 256 + 64 * vix n).toUInt8.toNat / 64 = vix n := by
    generalize n / 256 ^ z = x at q1
    rw [Nat.toUInt8_eq, UInt8.toNat_ofNat']
    omega
  rw [hb]; rfl
theorem zAt_enc {n : Nat} (hn : n < 2 ^ 62) (pre suf : List UInt8) (b : Nat) (hb : 0 < b) : zAt (pre ++ (enc n ++ suf).take b) pre.length = vsz n := by
  obtain ⟨c, r, e, hc⟩ := enc_head hn
  obtain ⟨b, rfl⟩ : ∃ b', b = b' + 1 := ⟨b - 1, by omega⟩
  unfold zAt
  rw [List.getD_eq_getElem?_getD, List.getElem?_append_right (Nat.le_refl _), Nat.sub_self, e]
  exact hc
theorem getV_enc {n : Nat} (hn : n < 2 ^ 62) (pre suf : List UInt8) : getV (pre ++ (enc n ++ suf)) pre.length = some (n, pre.length + vsz n) := by
  have v3 := vix3 n
  have b0 := vsz_pos n
  have hlt : n < 2 ^ (8 * vsz n - 2) := (vixLe hn _ v3).mpr (Nat.le_refl _)
  have hX := encLt hlt b0 v3
  have hlen : (enc n ++ suf).length = vsz n + suf.length := by rw [List.length_append, enc_len]
  have hza : zAt (pre ++ (enc n ++ suf)) pre.length = vsz n := by
    have := zAt_enc hn pre suf (enc n ++ suf).length (by omega)
    rw [List.take_length] at this
    exact this
  have hw : getW (pre ++ (enc n ++ suf)) pre.length (vsz n) = some (vix n * 2 ^ (8 * vsz n - 2) + n) := by
    unfold getW
    rw [if_pos (by rw [List.length_append, hlen]; omega), List.drop_left, List.take_left' (enc_len n)]
    exact congrArg some (dn_be' hX)
  unfold getV
  rw [if_pos (by rw [List.length_append, hlen]; omega), hza, hw]
  show some (_ % _, _) = _
  rw [Nat.mul_comm, Nat.mul_add_mod, Nat.mod_eq_of_lt hlt]
theorem getV_cut {n b : Nat} (hn : n < 2 ^ 62) (pre suf : List UInt8) (hb : b < vsz n) : getV (pre ++ (enc n ++ suf).take b) pre.length = none := by
  have hl : ((enc n ++ suf).take b).length = b := by rw [List.length_take, List.length_append, enc_len]; omega
  unfold getV
  by_cases h0 : b = 0
  · rw [if_neg (by rw [List.length_append, hl, h0]; omega)]
  · rw [if_pos (by rw [List.length_append, hl]; omega), zAt_enc hn pre suf b (by omega)]
    unfold getW
    rw [if_neg (by rw [List.length_append, hl]; omega)]
    rfl
theorem readSf_enc {ps : List (Nat × Nat)} (hk : ∀ p ∈ ps, p.1 < 2 ^ 62 ∧ p.2 < 2 ^ 62) (hok : ∀ i p, ps[i]? = some p → ([2, 3, 4, 5].contains p.1 || ((ps.take i).map (·.1)).contains p.1) = false) :
    ∀ (d f i : Nat), i + d = ps.length → d ≤ f → readSf (encS ps) (f + 1) (encS (ps.take i)).length (ps.take i) = .ok ps
  | 0, f, i, hi, _ => by
    have hi : i = ps.length := by omega
    subst hi
    unfold readSf
    rw [List.take_length, if_neg (Nat.lt_irrefl _)]
  | d + 1, f, i, hi, hf => by
    obtain ⟨f, rfl⟩ : ∃ f', f = f' + 1 := ⟨f - 1, by omega⟩
    have hlt : i < ps.length := by omega
    obtain ⟨p, hp⟩ : ∃ p, ps[i]? = some p := ⟨_, List.getElem?_eq_getElem hlt⟩
    obtain ⟨k1, k2⟩ := hk p (List.mem_of_getElem? hp)
    have es : encS ps = encS (ps.take i) ++ (enc p.1 ++ (enc p.2 ++ encS (ps.drop (i + 1)))) := by
      have : ps = ps.take (i + 1) ++ ps.drop (i + 1) := (List.take_append_drop _ _).symm
      conv => lhs; rw [this]
      show List.flatMap _ _ = _
      rw [List.flatMap_append]
      show encS (ps.take (i + 1)) ++ encS _ = _
      rw [encS_take hp]
      simp only [List.append_assoc]
    have b1 := vsz_pos p.1
    have b2 := vsz_pos p.2
    unfold readSf
    rw [if_pos (by rw [es, List.length_append, List.length_append, enc_len]; omega)]
    have g1 : getV (encS ps) (encS (ps.take i)).length = some (p.1, (encS (ps.take i)).length + vsz p.1) := by rw [es]; exact getV_enc k1 _ _
    have g2 : getV (encS ps) ((encS (ps.take i)).length + vsz p.1) = some (p.2, (encS (ps.take i)).length + vsz p.1 + vsz p.2) := by
      have := getV_enc k2 (encS (ps.take i) ++ enc p.1) (encS (ps.drop (i + 1)))
      rw [List.length_append, enc_len, List.append_assoc] at this
      rw [es]; exact this
    rw [g1]
    dsimp only
    rw [g2]
    dsimp only
    rw [if_neg (by rw [hok i p hp]; decide)]
    have e1 : ps.take i ++ [(p.1, p.2)] = ps.take (i + 1) := by rw [List.take_add_one, hp]; rfl
    have e2 : (encS (ps.take i)).length + vsz p.1 + vsz p.2 = (encS (ps.take (i + 1))).length := by rw [encS_take hp, List.length_append, List.length_append, enc_len, enc_len]
    rw [e1, e2]
    exact readSf_enc hk hok d f (i + 1) (by omega) (by omega)
end Mine

open PySem PySem.W PySem.Calls PyProof.Rows
set_option Elab.async false
set_option maxRecDepth 100000
set_option maxHeartbeats 2000000
set_option linter.unusedVariables false
namespace Mine
theorem encS_ge : ∀ ps : List (Nat × Nat), ps.length ≤ (encS ps).length
  | [] => Nat.le_refl _
  | p :: ps => by
    show ps.length + 1 ≤ ((enc p.1 ++ enc p.2) ++ encS ps).length
    have := encS_ge ps
    have := vsz_pos p.1
    rw [List.length_append, List.length_append, enc_len]
    omega
theorem FOk.keys {ps : List (Nat × Nat)} (h : FOk (.st ps)) : (∀ p ∈ ps, p.1 < 2 ^ 62 ∧ p.2 < 2 ^ 62) ∧ ∀ i p, ps[i]? = some p → ([2, 3, 4, 5].contains p.1 || ((ps.take i).map (·.1)).contains p.1) = false := by
  obtain ⟨h1, h2⟩ := h
  refine ⟨fun p hp => ?_, fun i p hp => ?_⟩
  · obtain ⟨i, hi⟩ := List.getElem?_of_mem hp
    have := (List.getElem?_eq_some_iff.mp hi).1
    obtain ⟨a, b⟩ := h2 i p hi
    exact ⟨by omega, b⟩
  · obtain ⟨a, _⟩ := h2 i p hp
    have e1 : [2, 3, 4, 5].contains p.1 = false := by
      rw [List.contains_eq_any_beq]
      simp only [List.any_cons, List.any_nil, Bool.or_false, Bool.or_eq_false_iff, beq_eq_false_iff_ne, ne_eq]
      omega
    have e2 : ((ps.take i).map (·.1)).contains p.1 = false := by
      cases q : ((ps.take i).map (·.1)).contains p.1 with
      | false => rfl
      | true =>
        obtain ⟨p', hp', e⟩ := List.mem_map.mp (List.contains_iff_mem.mp q)
        obtain ⟨j, hj⟩ := List.getElem?_of_mem hp'
        rw [List.getElem?_take] at hj
        split at hj
        · obtain ⟨a', _⟩ := h2 j p' hj
          omega
        · cases hj
    rw [e1, e2]; rfl
theorem FOk.ok {f : Frm} (h : FOk f) : f.ok := by
  cases f with
  | pl b p => exact h
  | st ps => exact ⟨Nat.le_trans h.1 (by decide), h.keys.1⟩
  | pp n p => exact h
  | id i n => exact h
  | un kd p => exact ⟨by have := h.1; omega, by have := h.2.1; omega, h.2.2⟩
theorem FOk.typ {f : Frm} (h : FOk f) : f.typ < 2 ^ 62 ∧ [2, 6, 8, 9].contains f.typ = false ∧ f.pay.length ≤ 100 := by
  cases f with
  | pl b p =>
    have : p.length ≤ 8 := h
    cases b
    · exact ⟨(by decide : 0 < 2 ^ 62), (by decide : [2, 6, 8, 9].contains 0 = false), by show p.length ≤ 100; omega⟩
    · exact ⟨(by decide : 1 < 2 ^ 62), (by decide : [2, 6, 8, 9].contains 1 = false), by show p.length ≤ 100; omega⟩
  | st ps =>
    refine ⟨by show 4 < _; decide, by show [2, 6, 8, 9].contains 4 = false; decide, ?_⟩
    have := encS_le ps
    have := h.1
    show (encS ps).length ≤ 100
    omega
  | pp n p =>
    refine ⟨by show 5 < _; decide, by show [2, 6, 8, 9].contains 5 = false; decide, ?_⟩
    have := enc_le n
    have := h.2
    show (enc n ++ p).length ≤ 100
    rw [List.length_append]; omega
  | id i n =>
    refine ⟨(by decide : ∀ i < 3, idT i < 2 ^ 62) i h.1, (by decide : ∀ i < 3, [2, 6, 8, 9].contains (idT i) = false) i h.1, ?_⟩
    have := enc_le n
    show (enc n).length ≤ 100
    omega
  | un kd p =>
    obtain ⟨h1, h2, h3⟩ := h
    refine ⟨by show kd < _; omega, ?_, by show p.length ≤ 100; omega⟩
    show [2, 6, 8, 9].contains kd = false
    rw [List.contains_eq_any_beq]
    simp only [List.any_cons, List.any_nil, Bool.or_false, Bool.or_eq_false_iff, beq_eq_false_iff_ne, ne_eq]
    omega
theorem getV_enc0 {n : Nat} (hn : n < 2 ^ 62) (suf : List UInt8) : getV (enc n ++ suf) 0 = some (n, vsz n) := by
  have := getV_enc hn [] suf
  rw [List.nil_append, List.length_nil, Nat.zero_add] at this
  exact this
theorem readI_enc {i n : Nat} (hn : n < 2 ^ 62) : readI i (enc n) = .ok (.id i n) := by
  have := getV_enc0 hn []
  rw [List.append_nil] at this
  unfold readI
  rw [this]
  exact if_pos (enc_len n).symm
theorem readP_enc {f : Frm} (h : FOk f) : readP f.typ f.pay = .ok f := by
  have ho := h.typ.2.1
  unfold readP
  rw [if_neg (by rw [ho]; decide)]
  cases f with
  | pl b p => cases b <;> rfl
  | st ps =>
    show (readS (encS ps)).map Frm.st = _
    have : readS (encS ps) = .ok ps := by
      have := readSf_enc h.keys.1 h.keys.2 ps.length (encS ps).length 0 (by omega) (encS_ge ps)
      exact this
    rw [this]; rfl
  | pp n p =>
    show (match getV (enc n ++ p) 0 with | none => _ | some (n, j) => _) = _
    rw [getV_enc0 h.1]
    show Except.ok (Frm.pp n ((enc n ++ p).drop (vsz n))) = _
    rw [← enc_len n, List.drop_left]
  | id i n =>
    obtain ⟨hi, hn⟩ := h
    rcases i with _ | _ | _ | i
    · exact readI_enc hn
    · exact readI_enc hn
    · exact readI_enc hn
    · omega
  | un kd p =>
    obtain ⟨h1, h2, h3⟩ := h
    show (if kd = 0 then _ else if kd = 1 then _ else if kd = 4 then _ else if kd = 5 then _ else if kd = 3 then _ else if kd = 7 then _ else if kd = 13 then _ else _) = _
    rw [if_neg (by omega), if_neg (by omega), if_neg (by omega), if_neg (by omega), if_neg (by omega), if_neg (by omega), if_neg (by omega)]
    rfl
theorem encF_eq (f : Frm) : encF f = enc f.typ ++ (enc f.pay.length ++ f.pay) := by
  unfold encF plainB
  rw [List.append_assoc]
theorem encF_pos (f : Frm) : 2 ≤ (encF f).length := by
  rw [encF_eq, List.length_append, List.length_append, enc_len, enc_len]
  have := vsz_pos f.typ
  have := vsz_pos f.pay.length
  omega
theorem encF_le {f : Frm} (h : FOk f) : (encF f).length ≤ 116 := by
  rw [encF_eq, List.length_append, List.length_append]
  have := enc_le f.typ
  have := enc_le f.pay.length
  have := h.typ.2.2
  omega
theorem nextF_enc {f : Frm} (h : FOk f) (rest : List UInt8) : nextF 100 (encF f ++ rest) = .ok (some (f, rest)) := by
  obtain ⟨h1, h2, h3⟩ := h.typ
  have e : encF f ++ rest = enc f.typ ++ (enc f.pay.length ++ (f.pay ++ rest)) := by rw [encF_eq]; simp only [List.append_assoc]
  have g1 : getV (encF f ++ rest) 0 = some (f.typ, vsz f.typ) := by rw [e]; exact getV_enc0 h1 _
  have g2 : getV (encF f ++ rest) (vsz f.typ) = some (f.pay.length, vsz f.typ + vsz f.pay.length) := by
    have := getV_enc (n := f.pay.length) (by omega) (enc f.typ) (f.pay ++ rest)
    rw [enc_len] at this
    rw [e]; exact this
  have hd : (encF f ++ rest).drop (vsz f.typ + vsz f.pay.length) = f.pay ++ rest := by
    rw [e, ← List.append_assoc]
    refine List.drop_left' ?_
    rw [List.length_append, enc_len, enc_len]
  have hl : (encF f ++ rest).length = vsz f.typ + vsz f.pay.length + f.pay.length + rest.length := by
    rw [e, List.length_append, List.length_append, List.length_append, enc_len, enc_len]; omega
  unfold nextF
  rw [g1]
  dsimp only
  rw [g2]
  dsimp only
  rw [if_neg (by rw [h2]; decide), if_neg (by omega), if_neg (by omega), hd, List.take_left, readP_enc h]
  show Except.ok (some (f, _)) = _
  rw [← List.drop_drop, hd, List.drop_left]
theorem nextF_cut {f : Frm} (h : FOk f) {b : Nat} (hb : b < (encF f).length) : nextF 100 ((encF f).take b) = .ok none := by
  obtain ⟨h1, h2, h3⟩ := h.typ
  have hl : (encF f).length = vsz f.typ + vsz f.pay.length + f.pay.length := by rw [encF_eq, List.length_append, List.length_append, enc_len, enc_len]; omega
  rw [encF_eq]
  rw [encF_eq] at hb
  by_cases c1 : b < vsz f.typ
  · have g1 := getV_cut h1 [] (enc f.pay.length ++ f.pay) c1
    rw [List.nil_append, List.length_nil] at g1
    unfold nextF
    rw [g1]
  have t1 : (enc f.typ ++ (enc f.pay.length ++ f.pay)).take b = enc f.typ ++ (enc f.pay.length ++ f.pay).take (b - vsz f.typ) := by
    rw [List.take_append, List.take_of_length_le (by rw [enc_len]; omega), enc_len]
  have g1 : getV ((enc f.typ ++ (enc f.pay.length ++ f.pay)).take b) 0 = some (f.typ, vsz f.typ) := by rw [t1]; exact getV_enc0 h1 _
  unfold nextF
  rw [g1]
  dsimp only
  by_cases c2 : b - vsz f.typ < vsz f.pay.length
  · have g2 := getV_cut (n := f.pay.length) (by omega) (enc f.typ) f.pay c2
    rw [enc_len] at g2
    rw [t1, g2]
  have t2 : (enc f.pay.length ++ f.pay).take (b - vsz f.typ) = enc f.pay.length ++ f.pay.take (b - vsz f.typ - vsz f.pay.length) := by
    rw [List.take_append, List.take_of_length_le (by rw [enc_len]; omega), enc_len]
  have g2 : getV ((enc f.typ ++ (enc f.pay.length ++ f.pay)).take b) (vsz f.typ) = some (f.pay.length, vsz f.typ + vsz f.pay.length) := by
    have := getV_enc (n := f.pay.length) (by omega) (enc f.typ) (f.pay.take (b - vsz f.typ - vsz f.pay.length))
    rw [enc_len] at this
    rw [t1, t2]; exact this
  rw [g2]
  dsimp only
  rw [if_neg (by rw [h2]; decide), if_neg (by omega), if_pos (by
    rw [List.length_take]
    rw [List.length_append, List.length_append, enc_len, enc_len] at hb ⊢
    omega)]
def flatF (fs : List Frm) : List UInt8 := fs.flatMap encF
def cntF : List Frm → Nat → Nat
  | [], _ => 0
  | f :: fs, b => if (encF f).length ≤ b then cntF fs (b - (encF f).length) + 1 else 0
def remF : List Frm → Nat → List UInt8
  | [], _ => []
  | f :: fs, b => if (encF f).length ≤ b then remF fs (b - (encF f).length) else (encF f).take b
def endsF : Nat → List Frm → List Nat
  | _, [] => []
  | o, f :: fs => (o + (encF f).length) :: endsF (o + (encF f).length) fs
theorem flat_cons (f : Frm) (fs : List Frm) : flatF (f :: fs) = encF f ++ flatF fs := rfl
theorem flat_take {f : Frm} {fs : List Frm} {b : Nat} (h : (encF f).length ≤ b) : (flatF (f :: fs)).take b = encF f ++ (flatF fs).take (b - (encF f).length) := by
  rw [flat_cons, List.take_append, List.take_of_length_le h]
theorem flat_take' {f : Frm} {fs : List Frm} {b : Nat} (h : ¬ (encF f).length ≤ b) : (flatF (f :: fs)).take b = (encF f).take b := by
  rw [flat_cons, List.take_append, show b - (encF f).length = 0 by omega, List.take_zero, List.append_nil]
theorem takeN_flat : ∀ (fs : List Frm), (∀ f ∈ fs, FOk f) → ∀ (b n : Nat) (acc : List Frm), ((flatF fs).take b).length + 1 ≤ n → takeN 100 n ((flatF fs).take b) acc = .ok (acc ++ fs.take (cntF fs b), remF fs b)
  | [], _, b, n, acc, hn => by
    obtain ⟨n, rfl⟩ : ∃ n', n = n' + 1 := ⟨n - 1, by omega⟩
    have : (flatF []).take b = [] := by show List.take b [] = []; exact List.take_nil
    rw [this]
    show Except.ok (acc, []) = .ok (acc ++ [].take _, [])
    rw [List.take_nil, List.append_nil]
  | f :: fs, hf, b, n, acc, hn => by
    obtain ⟨n, rfl⟩ : ∃ n', n = n' + 1 := ⟨n - 1, by omega⟩
    have h1 := hf f (.head _)
    have p := encF_pos f
    unfold takeN cntF remF
    by_cases hb : (encF f).length ≤ b
    · rw [if_pos hb, if_pos hb]
      rw [flat_take hb] at hn ⊢
      rw [nextF_enc h1]
      rw [List.length_append] at hn
      have := takeN_flat fs (fun f hf' => hf f (.tail _ hf')) (b - (encF f).length) n (acc ++ [f]) (by omega)
      rw [List.append_assoc] at this
      exact this
    · rw [if_neg hb, if_neg hb, flat_take' hb, nextF_cut h1 (by omega)]
      show Except.ok (acc, _) = .ok (acc ++ _, _)
      rw [List.take_zero, List.append_nil]
theorem takeF_step : ∀ (fs : List Frm), (∀ f ∈ fs, FOk f) → ∀ (a b : Nat), a ≤ b → ∃ gs, takeF 100 (remF fs a ++ ((flatF fs).drop a).take (b - a)) = .ok (gs, remF fs b) ∧ fs.take (cntF fs a) ++ gs = fs.take (cntF fs b)
  | [], _, a, b, _ => ⟨[], by
      have : (flatF []).drop a = [] := List.drop_nil
      rw [this, List.take_nil]
      rfl, by rw [List.take_nil, List.take_nil]; rfl⟩
  | f :: fs, hf, a, b, hab => by
    by_cases ha : (encF f).length ≤ a
    · have hb : (encF f).length ≤ b := Nat.le_trans ha hab
      obtain ⟨gs, e1, e2⟩ := takeF_step fs (fun f hf' => hf f (.tail _ hf')) (a - (encF f).length) (b - (encF f).length) (by omega)
      refine ⟨gs, ?_, ?_⟩
      · unfold remF
        rw [if_pos ha, if_pos hb, flat_cons, List.drop_append, List.drop_of_length_le ha, List.nil_append, show b - a = b - (encF f).length - (a - (encF f).length) by omega]
        exact e1
      · unfold cntF
        rw [if_pos ha, if_pos hb, List.take_succ_cons, List.take_succ_cons, List.cons_append, e2]
    · refine ⟨(f :: fs).take (cntF (f :: fs) b), ?_, ?_⟩
      · have er : remF (f :: fs) a = (flatF (f :: fs)).take a := by unfold remF; rw [if_neg ha, flat_take' ha]
        have ec : (flatF (f :: fs)).take a ++ ((flatF (f :: fs)).drop a).take (b - a) = (flatF (f :: fs)).take b := by
          have : b = a + (b - a) := by omega
          conv => rhs; rw [this]
          rw [List.take_add]
        rw [er, ec]
        have := takeN_flat (f :: fs) hf b (((flatF (f :: fs)).take b).length + 1) [] (Nat.le_refl _)
        rw [List.nil_append] at this
        exact this
      · have : cntF (f :: fs) a = 0 := by unfold cntF; rw [if_neg ha]
        rw [this]; rfl
theorem endsF_gt : ∀ (fs : List Frm) (o : Nat), ∀ e ∈ endsF o fs, o < e
  | [], _, _, h => nomatch h
  | f :: fs, o, e, h => by
    have p := encF_pos f
    rcases List.mem_cons.mp h with rfl | h
    · omega
    · have := endsF_gt fs _ e h
      omega
theorem ends_cnt : ∀ (fs : List Frm) (o b : Nat), ((endsF o fs).filter (fun e => decide (e ≤ o + b))).length = cntF fs b
  | [], _, _ => rfl
  | f :: fs, o, b => by
    unfold cntF endsF
    rw [List.filter_cons]
    by_cases hb : (encF f).length ≤ b
    · rw [if_pos hb, if_pos (by rw [decide_eq_true_eq]; omega), List.length_cons]
      have := ends_cnt fs (o + (encF f).length) (b - (encF f).length)
      rw [show o + (encF f).length + (b - (encF f).length) = o + b by omega] at this
      rw [this]
    · rw [if_neg hb, if_neg (by rw [decide_eq_true_eq]; omega)]
      rw [List.filter_eq_nil_iff.mpr]
      · rfl
      · intro e he
        have := endsF_gt fs _ e he
        rw [decide_eq_true_eq]; omega
theorem rem_nil : ∀ (fs : List Frm) (o b : Nat), 0 < b → b ≤ (flatF fs).length → (remF fs b = [] ↔ o + b ∈ endsF o fs)
  | [], o, b, h0, h1 => by
    have : (flatF []).length = 0 := rfl
    omega
  | f :: fs, o, b, h0, h1 => by
    have p := encF_pos f
    unfold remF endsF
    by_cases hb : (encF f).length ≤ b
    · rw [if_pos hb]
      by_cases he : b = (encF f).length
      · subst he
        rw [Nat.sub_self]
        refine ⟨fun _ => .head _, fun _ => ?_⟩
        cases fs with
        | nil => rfl
        | cons f2 fs =>
          have p2 := encF_pos f2
          unfold remF
          rw [if_neg (by omega), List.take_zero]
      · rw [flat_cons, List.length_append] at h1
        have := rem_nil fs (o + (encF f).length) (b - (encF f).length) (by omega) (by omega)
        rw [show o + (encF f).length + (b - (encF f).length) = o + b by omega] at this
        rw [this]
        refine ⟨fun h => .tail _ h, fun h => ?_⟩
        rcases List.mem_cons.mp h with h | h
        · omega
        · exact h
    · rw [if_neg hb]
      refine ⟨fun h => ?_, fun h => ?_⟩
      · have := congrArg List.length h
        rw [List.length_take, List.length_nil] at this
        omega
      · rcases List.mem_cons.mp h with h | h
        · omega
        · have := endsF_gt fs _ _ h
          omega
theorem flat_len {fs : List Frm} (h : ∀ f ∈ fs, FOk f) : (flatF fs).length ≤ 116 * fs.length := by
  induction fs with
  | nil => exact Nat.le_refl _
  | cons f fs ih =>
    rw [flat_cons, List.length_append, List.length_cons]
    have := encF_le (h f (.head _))
    have := ih fun f hf => h f (.tail _ hf)
    omega
end Mine

open PySem PySem.W PySem.Calls PyProof.Rows
set_option Elab.async false
set_option maxRecDepth 100000
set_option maxHeartbeats 4000000
set_option linter.unusedVariables false
namespace Mine
section
open PySem.SeqAt
variable {w : World} {A : Around} {E : Value → Shared → Prop} {s : Shared}
theorem eqY {b : Array UInt8} {t u : Tok} : EqAt A s (.bytes b t) (.bytes b u) true := fun prog w E Q hq => by
  unfold eqBool
  refine wpAny_holding ?_
  refine wpAny_ite_split (fun _ => wpAny_bind (wpAny_rule (wpAny_pure hq))) fun _ => ?_
  refine wpAny_bind ?_
  show wpAny _ _ (compareOp .Eq _ _) _ _ _
  refine eq_bytes ?_
  rw [beq_self_eq_true]
  exact wpAny_truthy_bool hq
theorem eqI {i : Int} {t u : Tok} : EqAt A s (.int i t) (.int i u) true := by
  have := EqAt.int_int (A := A) (s := s) i t i u
  rw [beq_self_eq_true] at this
  exact this
theorem eqS {x : Str} {t u : Tok} : EqAt A s (.str x t) (.str x u) true := by
  have := EqAt.str_str (A := A) (s := s) x t x u
  rw [beq_self_eq_true] at this
  exact this
theorem eqTup {a b : Addr} {vs ws : List Value} (h1 : s.heap.IsTuple a vs.toArray) (h2 : s.heap.IsTuple b ws.toArray) (hl : vs.length = ws.length) (hu : A.units < cLine) (he : ∀ (j : Nat) x y, vs[j]? = some x → ws[j]? = some y → EqAt A.in1 s x y true) : EqAt A s (.ref a) (.ref b) true := by
  by_cases q : a = b
  · subst q; exact EqAt.same _
  · have := RcAt.tuples (e := fun _ => true) h1 h2 hu fun j j1 j2 => he j _ _ (by rw [← List.getElem?_toArray]; exact Array.getElem?_eq_getElem j1) (by rw [← List.getElem?_toArray]; exact Array.getElem?_eq_getElem j2)
    rw [List.size_toArray, List.size_toArray, hl, beq_self_eq_true, Bool.and_true, show ((List.range (min ws.length ws.length)).all fun _ => true) = true from List.all_eq_true.mpr fun _ _ => rfl] at this
    exact EqAt.of_refs q this
theorem eqLst {a b : Addr} {vs ws : List Value} (h1 : s.heap.IsList a vs.toArray) (h2 : s.heap.IsList b ws.toArray) (hl : vs.length = ws.length) (hu : A.units < cLine) (he : ∀ (j : Nat) x y, vs[j]? = some x → ws[j]? = some y → EqAt A.in1 s x y true) : EqAt A s (.ref a) (.ref b) true := by
  by_cases q : a = b
  · subst q; exact EqAt.same _
  · have := RcAt.lists (e := fun _ => true) h1 h2 (by rw [List.size_toArray, List.size_toArray, hl]) hu fun j j1 j2 => he j _ _ (by rw [← List.getElem?_toArray]; exact Array.getElem?_eq_getElem j1) (by rw [← List.getElem?_toArray]; exact Array.getElem?_eq_getElem j2)
    rw [show ((List.range vs.toArray.size).all fun _ => true) = true from List.all_eq_true.mpr fun _ _ => rfl] at this
    exact EqAt.of_refs q this
theorem eqSett {v v' : Value} {ps : List (Nat × Nat)} (h : Sett s.heap v ps) (h' : Sett s.heap v' ps) (hu : A.units + 10 < cLine) : EqAt A s v v' true := by
  obtain ⟨l, qs, rfl, h1, h2, h3, h4⟩ := h
  obtain ⟨l', qs', rfl, h1', h2', h3', h4'⟩ := h'
  refine eqLst h1 h1' (by rw [List.length_map, List.length_map, h3, h3']) (by omega) fun j x y e1 e2 => ?_
  rw [List.getElem?_map] at e1 e2
  obtain ⟨q, hq, rfl⟩ := Option.map_eq_some_iff.mp e1
  obtain ⟨q', hq', rfl⟩ := Option.map_eq_some_iff.mp e2
  obtain ⟨p, a, b, e3, e4⟩ := h4 j q hq
  obtain ⟨p', a', b', e3', e4'⟩ := h4' j q' hq'
  rw [e3] at e3'
  cases e3'
  have t1 := h2 j q hq
  have t2 := h2' j q' hq'
  rw [e4] at t1
  rw [e4'] at t2
  refine eqTup (vs := [_, _]) (ws := [_, _]) t1 t2 rfl (by show A.units + 1 < cLine; omega) fun i x y f1 f2 => ?_
  rcases i with _ | _ | i
  · cases f1; cases f2; exact eqI
  · cases f1; cases f2; exact eqI
  · cases f1
theorem eqFr {v v' : Value} {f : Frm} (h : FrAt s.heap v f) (h' : FrAt s.heap v' f) (hu : A.units + 20 < cLine) : EqAt A s v v' true := by
  obtain ⟨t, u, vs, rfl, h1, h2⟩ := h
  obtain ⟨t', u', vs', rfl, h1', h2'⟩ := h'
  have main : vs.length = vs'.length ∧ ∀ (j : Nat) x y, vs[j]? = some x → vs'[j]? = some y → EqAt A.in1 s x y true := by
    cases f with
    | pl b p =>
      obtain ⟨t1, rfl⟩ := h2
      obtain ⟨t2, rfl⟩ := h2'
      refine ⟨rfl, fun j x y f1 f2 => ?_⟩
      rcases j with _ | j
      · cases f1; cases f2; exact eqY
      · cases f1
    | st ps =>
      obtain ⟨v, rfl, s1⟩ := h2
      obtain ⟨v', rfl, s2⟩ := h2'
      refine ⟨rfl, fun j x y f1 f2 => ?_⟩
      rcases j with _ | j
      · cases f1; cases f2; exact eqSett s1 s2 (by show A.units + 1 + 10 < cLine; omega)
      · cases f1
    | pp n p =>
      obtain ⟨t1, t2, rfl⟩ := h2
      obtain ⟨t3, t4, rfl⟩ := h2'
      refine ⟨rfl, fun j x y f1 f2 => ?_⟩
      rcases j with _ | _ | j
      · cases f1; cases f2; exact eqI
      · cases f1; cases f2; exact eqY
      · cases f1
    | id i n =>
      obtain ⟨t1, rfl⟩ := h2
      obtain ⟨t2, rfl⟩ := h2'
      refine ⟨rfl, fun j x y f1 f2 => ?_⟩
      rcases j with _ | j
      · cases f1; cases f2; exact eqI
      · cases f1
    | un kd p =>
      obtain ⟨t1, t2, rfl⟩ := h2
      obtain ⟨t3, t4, rfl⟩ := h2'
      refine ⟨rfl, fun j x y f1 f2 => ?_⟩
      rcases j with _ | _ | j
      · cases f1; cases f2; exact eqI
      · cases f1; cases f2; exact eqY
      · cases f1
  refine eqTup h1 h1' (by rw [List.length_cons, List.length_cons, main.1]) (by omega) fun j x y f1 f2 => ?_
  rcases j with _ | j
  · cases f1; cases f2; exact eqS
  · exact main.2 j x y f1 f2
theorem pairFr {P Q : Value → Frm → Prop} : ∀ {vs ws : List Value} {fs : List Frm}, Paired P vs fs → Paired Q ws fs → ∀ (j : Nat) x y, vs[j]? = some x → ws[j]? = some y → ∃ f, P x f ∧ Q y f
  | _, _, _, .nil, .nil, _, _, _, h, _ => nomatch h
  | _, _, _, .cons a t, .cons b u, 0, _, _, h, h' => by cases h; cases h'; exact ⟨_, a, b⟩
  | _, _, _, .cons a t, .cons b u, j + 1, x, y, h, h' => pairFr t u j x y h h'
theorem neFrs {a b : Addr} {vs ws : List Value} {fs : List Frm} {Q : Value → Shared → Prop} (h1 : s.heap.IsList a vs.toArray) (h2 : s.heap.IsList b ws.toArray) (p1 : Paired (FrAt s.heap) vs fs) (p2 : Paired (FrAt s.heap) ws fs) (hu : A.units + 30 < cLine) (hQ : Q (.bool false) s) :
    wpAny (model prg w) A (compareOp .NotEq (.ref a) (.ref b)) Q E s := by
  have := RcNeAt.lists (A := A) (e := fun _ => true) h1 h2 (by rw [List.size_toArray, List.size_toArray, p1.length, p2.length]) (by omega) fun j j1 j2 => by
    obtain ⟨f, f1, f2⟩ := pairFr p1 p2 j _ _ ((by rw [← List.getElem?_toArray]; exact Array.getElem?_eq_getElem j1)) ((by rw [← List.getElem?_toArray]; exact Array.getElem?_eq_getElem j2))
    exact eqFr f1 f2 (by show A.units + 1 + 20 < cLine; omega)
  rw [show ((List.range vs.toArray.size).all fun _ => true) = true from List.all_eq_true.mpr fun _ _ => rfl] at this
  exact EqBoolInt.of_rcne this hQ
end
end Mine

open PySem PySem.W PySem.Calls PyProof.Rows
set_option Elab.async false
set_option maxRecDepth 100000
set_option maxHeartbeats 4000000
set_option linter.unusedVariables false
namespace Mine
section
variable {κ : Bool} {w : World} {A : Around} {E : Value → Shared → Prop} {s : Shared} {g h : Heap} {fr : Fs} {L a c P : Addr} {m : NsM} {news newsE : List (Addr × Obj)} {k nt nt' ni : Nat} {pos px py pz pt p p1 p2 p3 p4 p5 : Pos} {cn : Str} {cs : Scope} {ccd : Value} {cl clos : List (Str × Addr)} {env : Env} {l r value : Expr} {x y z : Str} {rest : List Stmt}
theorem stoC {oc : Obj} {v₀ : Option Value} {v : Value} {G : Obj → List (Addr × Obj)} {Q : Unit → Shared → Prop} (C : Cx w g fr h news) (hk : env.scope.kind = .function) (U : UpdF c oc news G) (hd : oc.data = .cell v₀)
    (hQ : ∀ h' oc', oc'.data = .cell (some v) → Cx w g fr h' (G oc') → Q () (St s h' k)) (hc : env.cells.lookup x = some c := by rfl) (hx : env.kindOf x = some .cell := by rfl) : wpAny (model prg w) A (storeName env x v) Q E (St s h k) :=
  wpAny_storeName_cell (s := St s h k) hk hx hc ⟨oc, (C.N _ (updIn U)).1, hd⟩ fun h₂ hv₂ hs₂ => by
    obtain ⟨oc', ho', hd'⟩ := hv₂
    exact hQ h₂ oc' hd' (C.but U (fun b o hb e => (hs₂.2 b hb).trans e) ho')
theorem asg3 {t : Addr} {u v q : Value} {Q : Unit → Shared → Prop} (hh : A.handled = none) (C : Cx w g fr h news) (ht : h.IsTuple t #[u, v, q])
    (hQ : ∀ h₁, (∀ b o, h.get? b = some o → h₁.get? b = some o) → wpAny (model prg w) A (storeName env x u) (fun _ s₁ => wpAny (model prg w) A (storeName env y v) (fun _ s₂ => wpAny (model prg w) A (storeName env z q) Q E s₂) E s₁) E (St s h₁ k)) :
    wpAny (model prg w) A (assign (.Tuple [.Name x px, .Name y py, .Name z pz] nt pt) env (.ref t)) Q E (St s h k) :=
  wpAny_assign_Tuple (s := St s h k) hh ht rfl rfl fun h₁ hx₁ => by
    have hx₂ : ∀ b o, h.get? b = some o → h₁.get? b = some o := fun b o e => hx₁ b o (Nat.ne_of_lt (Heap.lt_size e)) e
    show wpAny _ _ (do holding [v, q] (assign (.Name x px) env u); do holding [q] (assign (.Name y py) env v); do holding [] (assign (.Name z pz) env q); pure ()) _ _ _
    refine wpAny_bind (wpAny_holding (wpAny_assign_Name (wpAny_mono (hQ h₁ hx₂) (fun _ s₁ q₁ => ?_) fun _ _ z => z)))
    refine wpAny_bind (wpAny_holding (wpAny_assign_Name (wpAny_mono q₁ (fun _ s₂ q₂ => ?_) fun _ _ z => z)))
    exact wpAny_bind (wpAny_holding (wpAny_assign_Name (wpAny_mono q₂ (fun _ s₃ q₃ => wpAny_pure q₃) fun _ _ z => z)))
theorem gAnd {Q : Value → Shared → Prop} (h : wpG κ (model prg w) A (eval l env) (fun v s₁ => wpG κ (model prg w) A (truthy v) (fun b s₂ => match b with
      | false => Q v s₂
      | true => wpG κ (model prg w) A (eval r env) Q E s₂) E s₁) E s) : wpG κ (model prg w) A (eval (.BoolOp .And [l, r] pos) env) Q E s := by
  show wpG _ _ _ (boolOp pos .And [eval l env, eval r env]) _ _ _
  unfold boolOp
  refine gBind (gMono h (fun v s₁ h₁ => gBind (gStand (gBind (gHolding (gMono h₁ (fun b s₂ h₂ => ?_) fun _ _ z => z))))) fun _ _ z => z)
  cases b with
  | false => exact gPure h₂
  | true =>
    show wpG _ _ _ (boolOp pos .And [eval r env]) _ _ _
    unfold boolOp
    exact h₂
theorem gTruB {b : Bool} {Q : Bool → Shared → Prop} (h : Q b s) : wpG κ (model prg w) A (truthy (.bool b)) Q E s := gOf (wpAny_truthy_bool h)
theorem slTail2 {l : Addr} {its : Array Value} {vl vu : Value} {lo hi : Option Int} {slice : Expr} {Q : Value → Shared → Prop} (pl : IsPart vl lo) (pu : IsPart vu hi) (hL : h.IsList l its) (hz : its.size ≤ 100000)
    (hQ : ∀ h' t o, h.get? t = none → h'.get? t = some o → LsD o (slicePick its lo hi none) → h.StaysIn h' → Q (.ref t) (St s h' k))
    (hs : ∀ a, subscripted slice false (.ref l) (.ref a) = operate [.ref a, .ref l] (getItem (.ref l) (.ref a))) :
    wpAny (model prg w) A (subscriptTail value slice (.ref l) (.ref h.objs.size)) Q E (St s (h.push { cls := .type "slice", data := .fields #[vl, vu, .none] }) k) := by
  refine tail_any (Heap.IsList.typeIs (s := St s (h.push { cls := .type "slice", data := .fields #[vl, vu, .none] }) k) (hL.push _)) list_getitem_lookup
    (wpAny_getItem_list_slice (s := St s (h.push { cls := .type "slice", data := .fields #[vl, vu, .none] }) k) (hL.push _) (Heap.IsSliceOf.new ..) pl pu .none (by intro z; cases z) ?_ (by rw [sizeLine_eq]; omega)) (hs _)
  have n2 := get_size (h.push { cls := .type "slice", data := .fields #[vl, vu, .none] })
  refine hQ _ _ _ ?_ (Heap.get?_push_size _ rfl) ⟨⟨rfl, 0, rfl⟩, rfl⟩ fun b o e => stays_push _ _ _ _ (stays_push _ _ _ _ e)
  cases q : h.get? (h.push { cls := .type "slice", data := .fields #[vl, vu, .none] }).objs.size with
  | none => rfl
  | some o => have := stays_push h { cls := .type "slice", data := .fields #[vl, vu, .none] } _ _ q; rw [n2] at this; cases this
theorem toPrs : ∀ {vs : List Value} {fs : List Frm}, Paired (FrPr g) vs fs → ∃ qs : Prs, vs = qs.map (fun q => Value.ref q.1) ∧ PrOk g qs ∧ qs.length = fs.length ∧ ∀ (i : Nat) (q : Addr × Value × Value), qs[i]? = some q → ∃ f tk, fs[i]? = some f ∧ FrAt g q.2.1 f ∧ q.2.2 = .bytes (encF f).toArray tk
  | _, _, .nil => ⟨[], rfl, (fun i q e => by cases e), rfl, fun i q e => by cases e⟩
  | _, _, .cons (b := f₀) h1 hp => by
    obtain ⟨t, fv, tk, rfl, h2, h3⟩ := h1
    obtain ⟨qs, e1, e2, e3, e4⟩ := toPrs hp
    refine ⟨(t, fv, .bytes (encF f₀).toArray tk) :: qs, by rw [e1]; rfl, fun i q e => ?_, by rw [List.length_cons, List.length_cons, e3], fun i q e => ?_⟩
    · rcases i with _ | i
      · cases e; exact h2
      · exact e2 i q e
    · rcases i with _ | i
      · cases e; exact ⟨_, tk, rfl, h3, rfl⟩
      · exact e4 i q e
theorem Paired.keepsPr {g g' : Heap} {vs : List Value} {fs : List Frm} (h : Paired (FrPr g) vs fs) (k : g.StaysIn g') : Paired (FrPr g') vs fs := Paired.mono (fun _ _ z => z.keeps k) h
theorem ends_snoc : ∀ (fs : List Frm) (o : Nat) (f : Frm), endsF o (fs ++ [f]) = endsF o fs ++ [o + (flatF (fs ++ [f])).length]
  | [], o, f => by
    show [o + (encF f).length] = [o + (encF f ++ []).length]
    rw [List.append_nil]
  | f2 :: fs, o, f => by
    show (o + (encF f2).length) :: endsF (o + (encF f2).length) (fs ++ [f]) = (o + (encF f2).length) :: (endsF (o + (encF f2).length) fs ++ [o + (encF f2 ++ flatF (fs ++ [f])).length])
    rw [ends_snoc fs, List.length_append, Nat.add_assoc]
theorem flat_snoc (fs : List Frm) (f : Frm) : flatF (fs ++ [f]) = flatF fs ++ encF f := by
  show List.flatMap _ _ = _
  rw [List.flatMap_append]
  exact congrArg _ (List.append_nil _)
theorem any_natB (l : List Nat) (n : Nat) : (l.map fun (p : Nat) => (p : Int)).any (· == (n : Int)) = decide (n ∈ l) := by
  rw [any_nat l n]
  cases q : l.contains n with
  | true => exact (decide_eq_true (List.contains_iff_mem.mp q)).symm
  | false => exact (decide_eq_false fun z => by rw [List.contains_iff_mem.mpr z] at q; cases q).symm
end
end Mine

open PySem PySem.W PySem.Calls PyProof.Rows
set_option Elab.async false
set_option maxRecDepth 100000
set_option maxHeartbeats 4000000
set_option linter.unusedVariables false
namespace Mine
local macro_rules | `(tactic| walk_at "M enter") => `(tactic| ((case k1 => k_is); (case k2 => k_is); (case k3 => exact fun _ => .of_eq rfl); (case k4 => rfl)))
section
variable {w : World} {A : Around} {E : Value → Shared → Prop} {s : Shared} {g h : Heap} {fr : Fs} {L a c P : Addr} {m : NsM} {news newsE : List (Addr × Obj)} {k nt nt' ni : Nat} {pos px py pt p1 p2 p3 p4 p5 : Pos} {cn : Str} {cs : Scope} {ccd : Value} {cl clos : List (Str × Addr)} {env : Env} {l r : Expr} {x y : Str} {rest : List Stmt}
theorem remF_len : ∀ (fs : List Frm), (∀ f ∈ fs, FOk f) → ∀ b, (remF fs b).length ≤ 116
  | [], _, _ => Nat.zero_le _
  | f :: fs, h, b => by
    unfold remF
    by_cases hb : (encF f).length ≤ b
    · rw [if_pos hb]; exact remF_len fs (fun f hf => h f (.tail _ hf)) _
    · rw [if_neg hb, List.length_take]
      have := encF_le (h f (.head _))
      omega
theorem pairTake {α β : Type} {F : α → β → Prop} : ∀ {l : List α} {m : List β} (n : Nat), Paired F l m → Paired F (l.take n) (m.take n)
  | _, _, 0, _ => .nil
  | _, _, _ + 1, .nil => .nil
  | _, _, n + 1, .cons a t => .cons a (pairTake n t)
theorem Cx.toGe {h' : Heap} {t : Addr} {o : Obj} (C : Cx w g fr h news) (hn : h.get? t = none) (ho : h'.get? t = some o) (q : h.StaysIn h') : ∃ g', g.StaysIn g' ∧ Cx w g' fr h' news ∧ g'.get? t = some o := ⟨_, C.toG hn ho q⟩
theorem Cx.inGe {l : Addr} {o : Obj} (C : Cx w g fr h ((l, o) :: news)) (hne : ∀ q ∈ news, q.1 ≠ l) : ∃ g', g.StaysIn g' ∧ Cx w g' fr h news ∧ g'.get? l = some o := ⟨_, C.inG hne⟩
theorem rem0 : ∀ fs : List Frm, remF fs 0 = [] ∧ cntF fs 0 = 0
  | [] => ⟨rfl, rfl⟩
  | f :: fs => by
    have := encF_pos f
    unfold remF cntF
    rw [if_neg (by omega), if_neg (by omega), List.take_zero]
    exact ⟨rfl, rfl⟩
theorem tests1 {c : Expr} {Q : Bool → Shared → Prop} (h : wpAny (model prg w) A (isTrue c env (eval c env)) Q E s) : wpAny (model prg w) A (tests env [c]) Q E s := by
  unfold tests
  rw [List.forIn_cons, if_pos rfl]
  refine wpAny_bind (wpAny_bind (wpAny_mono h (fun b s' q => wpAny_pure ?_) fun _ _ z => z))
  show wpAny _ _ (forIn [] b _) _ _ _
  rw [List.forIn_nil]
  exact wpAny_pure q
abbrev lamPos : Pos := ⟨225, 22, 225, 42⟩
abbrev lamQ : Str := (("law" : Str) ++ ".<locals>.") ++ "<lambda>"
theorem law_l {sl : Addr} {vs : List Value} {ns : List Int} {Q : Value → Shared → Prop} (hR : Rm A 16) (hu : A.units ≤ 100) (F : FrA A fr) (C : Cx w g fr h ((252, tabObj #[]) :: (259, tabObj #[]) :: [])) (hl : g.IsList sl vs.toArray) (hi : IntsAre vs ns) (hz : vs.length ≤ 63)
    (ret : ∀ g' h' k' nx ps1 ps2, g.StaysIn g' → Cx w g' fr h' nx → h'.get? 252 = some (tabObj ps1) → h'.get? 259 = some (tabObj ps2) → Q (.bool true) (St s h' k')) : wpG true (model prg w) A (call (.ref 262) [.ref sl]) Q E (St s h k) := by
  refine' enterK (binds := [("script", .ref sl)]) C hR.lt ?k1 ?k2 ?k3 ?k4 ?k5 fun L h₁ k₁ cells C₁ Y hnc F₁ => ?_
  walk_at "M enter"
  case k5 => decide +kernel
  replace F₁ := F₁ F
  obtain ⟨oS, oA, oX, rfl, hoS, hoA, hoX⟩ := CellsAre.three Y
  have t1 : @Ne Addr 252 (L + 1) := hnc _ (.head _) _ (.tail _ (.tail _ (.head _)))
  have t2 : @Ne Addr 252 (L + 2) := hnc _ (.head _) _ (.tail _ (.head _))
  have t3 : @Ne Addr 252 (L + 3) := hnc _ (.head _) _ (.head _)
  have t4 : @Ne Addr 259 (L + 1) := hnc _ (.tail _ (.head _)) _ (.tail _ (.tail _ (.head _)))
  have t5 : @Ne Addr 259 (L + 2) := hnc _ (.tail _ (.head _)) _ (.tail _ (.head _))
  have t6 : @Ne Addr 259 (L + 3) := hnc _ (.tail _ (.head _)) _ (.head _)
  have a1 : @Ne Addr (L + 3) (L + 2) := fun q => by have : @Eq Nat (L + 3) (L + 2) := q; omega
  have a2 : @Ne Addr (L + 3) (L + 1) := fun q => by have : @Eq Nat (L + 3) (L + 1) := q; omega
  have a3 : @Ne Addr (L + 2) (L + 1) := fun q => by have : @Eq Nat (L + 2) (L + 1) := q; omega
  have a4 : @Ne Addr 252 259 := by decide
  clear hnc Y
  change Cx w g _ h₁ [(L + 3, oS), (L + 2, oA), (L + 1, oX), (252, tabObj #[]), (259, tabObj #[])] at C₁
  refine gAsg (callF C₁ (by rfl) (by k_is) (by k_is) fun k₂ => gP (nmL C₁) fun _ k₃ => ⟨C₁.keep, box_l (hR.in.le (by decide)) C₁ hl hi hz fun g₂ h₂ k₄ b o₂ lb hg₂ C₂ B₂ I₂ hnb => ?_⟩)
  have b1 : @Ne Addr (L + 3) b := hnb _ (.head _)
  have b2 : @Ne Addr (L + 2) b := hnb _ (.tail _ (.head _))
  have b3 : @Ne Addr (L + 1) b := hnb _ (.tail _ (.tail _ (.head _)))
  have b4 : @Ne Addr 252 b := hnb _ (.tail _ (.tail _ (.tail _ (.head _))))
  have b5 : @Ne Addr 259 b := hnb _ (.tail _ (.tail _ (.tail _ (.tail _ (.head _)))))
  clear hnb
  have U₂ : UpdF (L + 1) oX [(b, o₂), (L + 3, oS), (L + 2, oA), (L + 1, oX), (252, tabObj #[]), (259, tabObj #[])] (fun o' => [(b, o₂), (L + 3, oS), (L + 2, oA), (L + 1, o'), (252, tabObj #[]), (259, tabObj #[])]) := by (first | exact UpdF.head (by (repeat (first | exact List.forall_mem_nil _ | refine List.forall_mem_cons.mpr ⟨by (change @Ne Addr _ _; dsimp only; first | assumption | (symm; assumption)), ?_⟩))) | exact UpdF.tail (by (change @Ne Addr _ _; dsimp only; first | assumption | (symm; assumption))) (UpdF.head (by (repeat (first | exact List.forall_mem_nil _ | refine List.forall_mem_cons.mpr ⟨by (change @Ne Addr _ _; dsimp only; first | assumption | (symm; assumption)), ?_⟩)))) | exact UpdF.tail (by (change @Ne Addr _ _; dsimp only; first | assumption | (symm; assumption))) (UpdF.tail (by (change @Ne Addr _ _; dsimp only; first | assumption | (symm; assumption))) (UpdF.head (by (repeat (first | exact List.forall_mem_nil _ | refine List.forall_mem_cons.mpr ⟨by (change @Ne Addr _ _; dsimp only; first | assumption | (symm; assumption)), ?_⟩))))) | exact UpdF.tail (by (change @Ne Addr _ _; dsimp only; first | assumption | (symm; assumption))) (UpdF.tail (by (change @Ne Addr _ _; dsimp only; first | assumption | (symm; assumption))) (UpdF.tail (by (change @Ne Addr _ _; dsimp only; first | assumption | (symm; assumption))) (UpdF.head (by (repeat (first | exact List.forall_mem_nil _ | refine List.forall_mem_cons.mpr ⟨by (change @Ne Addr _ _; dsimp only; first | assumption | (symm; assumption)), ?_⟩)))))) | exact UpdF.tail (by (change @Ne Addr _ _; dsimp only; first | assumption | (symm; assumption))) (UpdF.tail (by (change @Ne Addr _ _; dsimp only; first | assumption | (symm; assumption))) (UpdF.tail (by (change @Ne Addr _ _; dsimp only; first | assumption | (symm; assumption))) (UpdF.tail (by (change @Ne Addr _ _; dsimp only; first | assumption | (symm; assumption))) (UpdF.head (by (repeat (first | exact List.forall_mem_nil _ | refine List.forall_mem_cons.mpr ⟨by (change @Ne Addr _ _; dsimp only; first | assumption | (symm; assumption)), ?_⟩))))))) | exact UpdF.tail (by (change @Ne Addr _ _; dsimp only; first | assumption | (symm; assumption))) (UpdF.tail (by (change @Ne Addr _ _; dsimp only; first | assumption | (symm; assumption))) (UpdF.tail (by (change @Ne Addr _ _; dsimp only; first | assumption | (symm; assumption))) (UpdF.tail (by (change @Ne Addr _ _; dsimp only; first | assumption | (symm; assumption))) (UpdF.tail (by (change @Ne Addr _ _; dsimp only; first | assumption | (symm; assumption))) (UpdF.head (by (repeat (first | exact List.forall_mem_nil _ | refine List.forall_mem_cons.mpr ⟨by (change @Ne Addr _ _; dsimp only; first | assumption | (symm; assumption)), ?_⟩)))))))) | exact UpdF.tail (by (change @Ne Addr _ _; dsimp only; first | assumption | (symm; assumption))) (UpdF.tail (by (change @Ne Addr _ _; dsimp only; first | assumption | (symm; assumption))) (UpdF.tail (by (change @Ne Addr _ _; dsimp only; first | assumption | (symm; assumption))) (UpdF.tail (by (change @Ne Addr _ _; dsimp only; first | assumption | (symm; assumption))) (UpdF.tail (by (change @Ne Addr _ _; dsimp only; first | assumption | (symm; assumption))) (UpdF.tail (by (change @Ne Addr _ _; dsimp only; first | assumption | (symm; assumption))) (UpdF.head (by (repeat (first | exact List.forall_mem_nil _ | refine List.forall_mem_cons.mpr ⟨by (change @Ne Addr _ _; dsimp only; first | assumption | (symm; assumption)), ?_⟩))))))))) | exact UpdF.tail (by (change @Ne Addr _ _; dsimp only; first | assumption | (symm; assumption))) (UpdF.tail (by (change @Ne Addr _ _; dsimp only; first | assumption | (symm; assumption))) (UpdF.tail (by (change @Ne Addr _ _; dsimp only; first | assumption | (symm; assumption))) (UpdF.tail (by (change @Ne Addr _ _; dsimp only; first | assumption | (symm; assumption))) (UpdF.tail (by (change @Ne Addr _ _; dsimp only; first | assumption | (symm; assumption))) (UpdF.tail (by (change @Ne Addr _ _; dsimp only; first | assumption | (symm; assumption))) (UpdF.tail (by (change @Ne Addr _ _; dsimp only; first | assumption | (symm; assumption))) (UpdF.head (by (repeat (first | exact List.forall_mem_nil _ | refine List.forall_mem_cons.mpr ⟨by (change @Ne Addr _ _; dsimp only; first | assumption | (symm; assumption)), ?_⟩)))))))))))
  refine stoC C₂ rfl U₂ hoX fun h₃ oX' hoX' C₃ => ?_
  clear C₁ C₂ hoX
  refine gAsgComp ?_ (by rfl)
  refine callB (nmB (v := .type "range") C₃ (by rfl) (by k_is) (by rfl) (by decide)) (fun _ => kpT) fun k₅ => gBin (gP cI fun t₅ k₆ => gBin (drawE next_d (hR.in.le (by decide)) C₃ (UpdF.head (by (repeat (first | exact List.forall_mem_nil _ | refine List.forall_mem_cons.mpr ⟨by (change @Ne Addr _ _; dsimp only; first | assumption | (symm; assumption)), ?_⟩)))) B₂ I₂ ⟨rfl, rfl, rfl, rfl⟩ (by k_is) (by k_is) (nmCe C₃ rfl (by (repeat (first | exact List.Mem.head _ | apply List.Mem.tail))) hoX') fun g₄ h₄ k₇ o₄ v₄ hg₄ C₄ B₄ hv₄ => gP cI fun t₆ k₈ => ?_))
  obtain ⟨x, tx, rfl, x0, x1⟩ := hv₄
  refine modI (by decide) fun tr kr => ?_
  obtain ⟨z, hz', hzlt⟩ := natOf (Int.emod_nonneg x (by decide : (6 : Int) ≠ 0)) (Int.emod_lt_of_pos x (by decide))
  rw [hz']
  refine gOf (add_int (s := St s h₄ kr) ?_)
  have e1 : (1 : Int) + (z : Int) = ((1 + z : Nat) : Int) := by omega
  rw [e1]
  refine gOf (call_range_1 (s := St s h₄ _) ?_)
  have hgg : g.StaysIn g₄ := fun b o e => hg₄ _ _ (hg₂ _ _ e)
  refine compRng0 (n := 1 + z) (i₀ := 0) (j := ((1 + z : Nat) : Int)) (st := 1) (fun i g' ys nx => (∃ o', nx = [(b, o'), (L + 3, oS), (L + 2, oA), (L + 1, oX'), (252, tabObj #[]), (259, tabObj #[])] ∧ BoxO lb o') ∧ ∃ fs : List Frm, Paired (FrPr g') ys fs ∧ fs.length = i ∧ ∀ f ∈ fs, FOk f)
    hR.hh (C₄.on (stays_push _ _)) (Heap.get?_push_size _ rfl) (rngUp (1 + z) (by omega)).1 (rngUp (1 + z) (by omega)).2 ⟨⟨o₄, rfl, B₄⟩, [], .nil, rfl, fun _ q => nomatch q⟩ (fun i t g' h' mc nx k oI oD ys I' D Cc hi J hg C₅ hne hID => ?_) (fun g₆ h₆ D oD nx k₆ ys mc Cc hg₆ C₆ hD hneD J => ?_) (fun Cc => ⟨rfl, rfl, rfl, rfl⟩) (hnn := by omega)
  · obtain ⟨⟨o', rfl, B'⟩, fs, hfs, hlen, hok⟩ := J
    have i1 := (hne _ (.head _)).1
    have i2 := (hne _ (.head _)).2
    change @Ne Addr _ _ at i1
    change @Ne Addr _ _ at i2
    dsimp only at i1 i2
    refine drawE frame_d (hR.in.le (by decide)) C₅ (UpdF.tail (by (change @Ne Addr _ _; dsimp only; first | assumption | (symm; assumption))) (UpdF.tail (by (change @Ne Addr _ _; dsimp only; first | assumption | (symm; assumption))) (UpdF.head (by (repeat (first | exact List.forall_mem_nil _ | refine List.forall_mem_cons.mpr ⟨by (change @Ne Addr _ _; dsimp only; first | assumption | (symm; assumption)), ?_⟩)))))) B' (I₂.keeps fun _ _ e => hg _ _ (hg₄ _ _ e)) ⟨rfl, rfl, rfl, rfl⟩ (by k_is) (by k_is) (nmCe C₅ rfl (by (repeat (first | exact List.Mem.head _ | apply List.Mem.tail))) hoX') fun g₇ h₇ k₇ o₇ v₇ hg₇ C₇ B₇ hv₇ => ?_
    obtain ⟨f, hpr, hf⟩ := hv₇
    refine ⟨g₇, h₇, _, _, _, rfl, hg₇, C₇, ?_, ⟨o₇, rfl, B₇⟩, fs ++ [f], (Paired.mono (fun _ _ z => z.keeps hg₇) hfs).snoc hpr, by rw [List.length_append, hlen]; rfl, fun f' hf' => ?_⟩
    · exact List.forall_mem_cons.mpr ⟨hne (b, o') (.head _), fun q hq => hne q (.tail _ hq)⟩
    · rcases List.mem_append.mp hf' with q | q
      · exact hok f' q
      · rw [List.mem_singleton.mp q]; exact hf
  obtain ⟨⟨o₆, rfl, B₆⟩, fs, hfs, hlen, hok⟩ := J
  refine compUse C₆ fun h₇ k₇ C₇ => ?_
  obtain ⟨y1, C₈, y3⟩ := C₇.inG hneD
  have hfs8 : Paired (FrPr _) ys fs := Paired.mono (fun _ _ z => z.keeps y1) hfs
  obtain ⟨qs, rfl, hqs, hql, hqf⟩ := toPrs hfs8
  have hDl := hD.is y3
  have hg8 : g.StaysIn (reb h₇ _ _) := fun b o e => y1 _ _ (hg₆ _ _ (hgg _ _ e))
  have I₈ := I₂.keeps fun b o e => y1 _ _ (hg₆ _ _ (hg₄ _ _ e))
  clear C₃ C₄ C₆ C₇ hneD hfs
  refine gSwap (fr := fr) hR.hh ?_
  refine gP cY fun tw₀ k₉ => gLst (es := []) (newL fun h₉ e oe hen hoe hle qe => ⟨_, _, h₉, k₉, _, _, _, rfl, rfl, C₈.add qe hoe hen, fun h₁₀ k₁₀ C₉ => ?_⟩) (by rfl)
  have hnx := C₈.nes hen
  have n1 : @Ne Addr b e := hnx _ (.head _)
  have n2 : @Ne Addr (L + 3) e := hnx _ (.tail _ (.head _))
  have n3 : @Ne Addr (L + 2) e := hnx _ (.tail _ (.tail _ (.head _)))
  have n4 : @Ne Addr (L + 1) e := hnx _ (.tail _ (.tail _ (.tail _ (.head _))))
  have n5 : @Ne Addr 252 e := hnx _ (.tail _ (.tail _ (.tail _ (.tail _ (.head _)))))
  have n6 : @Ne Addr 259 e := hnx _ (.tail _ (.tail _ (.tail _ (.tail _ (.tail _ (.head _))))))
  clear hnx
  have hfl : fs.length ≤ 6 := by omega
  have hflat : (flatF fs).length ≤ 700 := by have := flat_len hok; omega
  refine gFor (gP (nmL C₉) fun _ k₁₁ => forPr (fun i m nx => ∃ oe evs tw, nx = [(e, oe), (b, o₆), (L + 3, oS), (L + 2, oA), (L + 1, oX'), (252, tabObj #[]), (259, tabObj #[])] ∧ LsD oe (List.toArray evs) ∧ IntsAre evs ((endsF 0 (fs.take i)).map fun (n : Nat) => (n : Int)) ∧ (m "whole" = some (.bytes (flatF (fs.take i)).toArray tw) ∧ m "ends" = some (.ref e)) ∧ m "pairs" = some (.ref D))
    hR.hh C₉ hDl hqs ⟨oe, [], tw₀, rfl, hle, .nil, ⟨rfl, rfl⟩, rfl⟩ (fun i q g' h m nx k hq J hg C => ?_) fun h₁₂ m₁₂ nx k₁₂ C₁₂ J => ?_) fun _ => rfl
  · obtain ⟨oe, evs, tw, rfl, hLe, hIe, ⟨m1, m2⟩, m3⟩ := J
    obtain ⟨f, tk, hf, hfr, hq2⟩ := hqf i q hq
    obtain ⟨cq, q1, q2⟩ := q
    dsimp only at hfr hq2 C
    subst hq2
    have hi6 : i < fs.length := (List.getElem?_eq_some_iff.mp hf).1
    have hfok := hok f (List.mem_of_getElem? hf)
    have htk : fs.take (i + 1) = fs.take i ++ [f] := by rw [List.take_add_one, hf]; rfl
    have hle1 : (flatF (fs.take i)).length ≤ 700 := by
      have := flat_len (fs := fs.take i) fun f hf' => hok f (List.mem_of_mem_take hf')
      rw [List.length_take] at this; omega
    have hle2 := encF_le hfok
    refine gIf (gCmp (callF C (by rfl) (by k_is) (by k_is) fun ka => gP (nmL C) fun _ kb => ⟨C.keep, h3_c (hR.in.le (by decide)) C (hfr.keeps hg) hfok.ok fun hc tc kc Cc => gP (nmL Cc) fun _ kd => gOf (ne_bytes (s := St s hc kd) ?_)⟩) (by rfl))
    rw [bne_self_eq_false]
    refine gTruB ?_
    refine gNil ?_
    show wpG _ _ _ (execs _ _) _ _ _
    refine gAsg (gBin (gP (nmL Cc (hv := by exact m1)) fun _ ke => gP (nmL Cc) fun _ kf => addYg (by omega) fun tg kg => stoX Cc fun hh kh Ch => ?_))
    rw [← flat_snoc, ← htk] at Ch
    have hl' := (Ch.N _ (.head _)).1
    refine gExpr (gMeth (gP (nmL Ch (hv := by exact m2)) fun _ ki => getMethod_builtin (s := St s hh ki) (hLe.1.is hl').typeIs PySem.F.plainAttrs_list PySem.F.slot_list_append PySem.F.type_list_append (fun a e => by cases e; exact ⟨_, hl', hLe.2⟩) ?_) (by rfl))
    refine gCall (gP (pLenY (nmB (v := .builtin "len") Ch (by rfl) (by k_is) (by rfl) (by decide)) (nmL Ch) ?_) fun tj kj => ⟨kpB, gOf (appX hl' hLe (fun hm om hom hLm hbm => gNil ?_) ?_)⟩) (by rfl)
    · rw [htk, flat_snoc, List.size_toArray, List.length_append]; omega
    · have Cm := Ch.but (UpdF.head (by (repeat (first | exact List.forall_mem_nil _ | refine List.forall_mem_cons.mpr ⟨by (change @Ne Addr _ _; dsimp only; first | assumption | (symm; assumption)), ?_⟩)))) hbm hom
      refine tnNext Cm ⟨om, evs ++ [.int (((flatF (fs.take (i + 1))).toArray.size : Nat) : Int) tj], tg, rfl, by rw [← List.push_toArray]; exact hLm, ?_, ⟨rfl, m2⟩, m3⟩
      rw [htk, ends_snoc, List.map_append]
      refine IntsAre.append hIe ?_
      rw [List.size_toArray, Nat.zero_add]
      exact .cons _ _ .nil
    · rw [List.size_toArray, hIe.length, List.length_map]
      have : ∀ (fs : List Frm) (o : Nat), (endsF o fs).length = fs.length := by
        intro fs
        induction fs with
        | nil => intro o; rfl
        | cons f fs ih => intro o; show (endsF _ fs).length + 1 = _; rw [ih]; rfl
      rw [this, List.length_take]; omega
  obtain ⟨oe₂, evs, tw, rfl, hLe, hIe, ⟨m1, m2⟩, m3⟩ := J
  rw [hql, List.take_length] at hIe m1
  obtain ⟨z1, C₁₃, z3⟩ := C₁₂.inG (by (repeat (first | exact List.forall_mem_nil _ | refine List.forall_mem_cons.mpr ⟨by (change @Ne Addr _ _; dsimp only; first | assumption | (symm; assumption)), ?_⟩)))
  have hEl := hLe.1.is z3
  have hDl₂ := hDl.at fun o e => z1 _ _ e
  have hqs₂ := hqs.keeps z1
  have I₁₃ := I₈.keeps z1
  refine gAsgTup (gTup (callF C₁₃ (by rfl) (by k_is) (by k_is) fun ka => gP cI fun tm kb => ⟨C₁₃.keep, stream_n (most := 100) (by have := hR.room; show A.depth + 1 + 3 < _; omega) C₁₃ fun hc kc x d ox od tr Cc Sc hnxd => gLst (es := []) (newL fun hd ld old hnl hol hll qd => gP cI fun ta ke => newT (by decide : 3 ≤ 1000) fun hf tt hnt hot qt => ?_) (by rfl)⟩) (by rfl))
  have x1 : @Ne Addr b x := (hnxd _ (.head _)).1
  have x2 : @Ne Addr (L + 3) x := (hnxd _ (.tail _ (.head _))).1
  have x3 : @Ne Addr (L + 2) x := (hnxd _ (.tail _ (.tail _ (.head _)))).1
  have x4 : @Ne Addr (L + 1) x := (hnxd _ (.tail _ (.tail _ (.tail _ (.head _))))).1
  have x5 : @Ne Addr 252 x := (hnxd _ (.tail _ (.tail _ (.tail _ (.tail _ (.head _)))))).1
  have x6 : @Ne Addr 259 x := (hnxd _ (.tail _ (.tail _ (.tail _ (.tail _ (.tail _ (.head _))))))).1
  have d1 : @Ne Addr b d := (hnxd _ (.head _)).2
  have d2 : @Ne Addr (L + 3) d := (hnxd _ (.tail _ (.head _))).2
  have d3 : @Ne Addr (L + 2) d := (hnxd _ (.tail _ (.tail _ (.head _)))).2
  have d4 : @Ne Addr (L + 1) d := (hnxd _ (.tail _ (.tail _ (.tail _ (.head _))))).2
  have d5 : @Ne Addr 252 d := (hnxd _ (.tail _ (.tail _ (.tail _ (.tail _ (.head _)))))).2
  have d6 : @Ne Addr 259 d := (hnxd _ (.tail _ (.tail _ (.tail _ (.tail _ (.tail _ (.head _))))))).2
  have dx : @Ne Addr d x := Sc.ne
  obtain ⟨w1, Cd, w3⟩ := Cc.toG hnl hol qd
  have Ct := Cd.on qt
  refine asg3 (by exact hR.hh) Ct ⟨_, hot, rfl, 0, rfl⟩ fun hg' hkg => ?_
  have Cg := Ct.on hkg
  have U₁ : UpdF (L + 3) oS [(x, ox), (d, od), (b, o₆), (L + 3, oS), (L + 2, oA), (L + 1, oX'), (252, tabObj #[]), (259, tabObj #[])] (fun o' => [(x, ox), (d, od), (b, o₆), (L + 3, o'), (L + 2, oA), (L + 1, oX'), (252, tabObj #[]), (259, tabObj #[])]) := by (first | exact UpdF.head (by (repeat (first | exact List.forall_mem_nil _ | refine List.forall_mem_cons.mpr ⟨by (change @Ne Addr _ _; dsimp only; first | assumption | (symm; assumption)), ?_⟩))) | exact UpdF.tail (by (change @Ne Addr _ _; dsimp only; first | assumption | (symm; assumption))) (UpdF.head (by (repeat (first | exact List.forall_mem_nil _ | refine List.forall_mem_cons.mpr ⟨by (change @Ne Addr _ _; dsimp only; first | assumption | (symm; assumption)), ?_⟩)))) | exact UpdF.tail (by (change @Ne Addr _ _; dsimp only; first | assumption | (symm; assumption))) (UpdF.tail (by (change @Ne Addr _ _; dsimp only; first | assumption | (symm; assumption))) (UpdF.head (by (repeat (first | exact List.forall_mem_nil _ | refine List.forall_mem_cons.mpr ⟨by (change @Ne Addr _ _; dsimp only; first | assumption | (symm; assumption)), ?_⟩))))) | exact UpdF.tail (by (change @Ne Addr _ _; dsimp only; first | assumption | (symm; assumption))) (UpdF.tail (by (change @Ne Addr _ _; dsimp only; first | assumption | (symm; assumption))) (UpdF.tail (by (change @Ne Addr _ _; dsimp only; first | assumption | (symm; assumption))) (UpdF.head (by (repeat (first | exact List.forall_mem_nil _ | refine List.forall_mem_cons.mpr ⟨by (change @Ne Addr _ _; dsimp only; first | assumption | (symm; assumption)), ?_⟩)))))) | exact UpdF.tail (by (change @Ne Addr _ _; dsimp only; first | assumption | (symm; assumption))) (UpdF.tail (by (change @Ne Addr _ _; dsimp only; first | assumption | (symm; assumption))) (UpdF.tail (by (change @Ne Addr _ _; dsimp only; first | assumption | (symm; assumption))) (UpdF.tail (by (change @Ne Addr _ _; dsimp only; first | assumption | (symm; assumption))) (UpdF.head (by (repeat (first | exact List.forall_mem_nil _ | refine List.forall_mem_cons.mpr ⟨by (change @Ne Addr _ _; dsimp only; first | assumption | (symm; assumption)), ?_⟩))))))) | exact UpdF.tail (by (change @Ne Addr _ _; dsimp only; first | assumption | (symm; assumption))) (UpdF.tail (by (change @Ne Addr _ _; dsimp only; first | assumption | (symm; assumption))) (UpdF.tail (by (change @Ne Addr _ _; dsimp only; first | assumption | (symm; assumption))) (UpdF.tail (by (change @Ne Addr _ _; dsimp only; first | assumption | (symm; assumption))) (UpdF.tail (by (change @Ne Addr _ _; dsimp only; first | assumption | (symm; assumption))) (UpdF.head (by (repeat (first | exact List.forall_mem_nil _ | refine List.forall_mem_cons.mpr ⟨by (change @Ne Addr _ _; dsimp only; first | assumption | (symm; assumption)), ?_⟩)))))))) | exact UpdF.tail (by (change @Ne Addr _ _; dsimp only; first | assumption | (symm; assumption))) (UpdF.tail (by (change @Ne Addr _ _; dsimp only; first | assumption | (symm; assumption))) (UpdF.tail (by (change @Ne Addr _ _; dsimp only; first | assumption | (symm; assumption))) (UpdF.tail (by (change @Ne Addr _ _; dsimp only; first | assumption | (symm; assumption))) (UpdF.tail (by (change @Ne Addr _ _; dsimp only; first | assumption | (symm; assumption))) (UpdF.tail (by (change @Ne Addr _ _; dsimp only; first | assumption | (symm; assumption))) (UpdF.head (by (repeat (first | exact List.forall_mem_nil _ | refine List.forall_mem_cons.mpr ⟨by (change @Ne Addr _ _; dsimp only; first | assumption | (symm; assumption)), ?_⟩))))))))) | exact UpdF.tail (by (change @Ne Addr _ _; dsimp only; first | assumption | (symm; assumption))) (UpdF.tail (by (change @Ne Addr _ _; dsimp only; first | assumption | (symm; assumption))) (UpdF.tail (by (change @Ne Addr _ _; dsimp only; first | assumption | (symm; assumption))) (UpdF.tail (by (change @Ne Addr _ _; dsimp only; first | assumption | (symm; assumption))) (UpdF.tail (by (change @Ne Addr _ _; dsimp only; first | assumption | (symm; assumption))) (UpdF.tail (by (change @Ne Addr _ _; dsimp only; first | assumption | (symm; assumption))) (UpdF.tail (by (change @Ne Addr _ _; dsimp only; first | assumption | (symm; assumption))) (UpdF.head (by (repeat (first | exact List.forall_mem_nil _ | refine List.forall_mem_cons.mpr ⟨by (change @Ne Addr _ _; dsimp only; first | assumption | (symm; assumption)), ?_⟩)))))))))))
  refine stoC Cg rfl U₁ hoS fun hi oS' hoS' Ci => stoX Ci fun hj kj Cj => ?_
  have U₂' : UpdF (L + 2) oA [(x, ox), (d, od), (b, o₆), (L + 3, oS'), (L + 2, oA), (L + 1, oX'), (252, tabObj #[]), (259, tabObj #[])] (fun o' => [(x, ox), (d, od), (b, o₆), (L + 3, oS'), (L + 2, o'), (L + 1, oX'), (252, tabObj #[]), (259, tabObj #[])]) := by (first | exact UpdF.head (by (repeat (first | exact List.forall_mem_nil _ | refine List.forall_mem_cons.mpr ⟨by (change @Ne Addr _ _; dsimp only; first | assumption | (symm; assumption)), ?_⟩))) | exact UpdF.tail (by (change @Ne Addr _ _; dsimp only; first | assumption | (symm; assumption))) (UpdF.head (by (repeat (first | exact List.forall_mem_nil _ | refine List.forall_mem_cons.mpr ⟨by (change @Ne Addr _ _; dsimp only; first | assumption | (symm; assumption)), ?_⟩)))) | exact UpdF.tail (by (change @Ne Addr _ _; dsimp only; first | assumption | (symm; assumption))) (UpdF.tail (by (change @Ne Addr _ _; dsimp only; first | assumption | (symm; assumption))) (UpdF.head (by (repeat (first | exact List.forall_mem_nil _ | refine List.forall_mem_cons.mpr ⟨by (change @Ne Addr _ _; dsimp only; first | assumption | (symm; assumption)), ?_⟩))))) | exact UpdF.tail (by (change @Ne Addr _ _; dsimp only; first | assumption | (symm; assumption))) (UpdF.tail (by (change @Ne Addr _ _; dsimp only; first | assumption | (symm; assumption))) (UpdF.tail (by (change @Ne Addr _ _; dsimp only; first | assumption | (symm; assumption))) (UpdF.head (by (repeat (first | exact List.forall_mem_nil _ | refine List.forall_mem_cons.mpr ⟨by (change @Ne Addr _ _; dsimp only; first | assumption | (symm; assumption)), ?_⟩)))))) | exact UpdF.tail (by (change @Ne Addr _ _; dsimp only; first | assumption | (symm; assumption))) (UpdF.tail (by (change @Ne Addr _ _; dsimp only; first | assumption | (symm; assumption))) (UpdF.tail (by (change @Ne Addr _ _; dsimp only; first | assumption | (symm; assumption))) (UpdF.tail (by (change @Ne Addr _ _; dsimp only; first | assumption | (symm; assumption))) (UpdF.head (by (repeat (first | exact List.forall_mem_nil _ | refine List.forall_mem_cons.mpr ⟨by (change @Ne Addr _ _; dsimp only; first | assumption | (symm; assumption)), ?_⟩))))))) | exact UpdF.tail (by (change @Ne Addr _ _; dsimp only; first | assumption | (symm; assumption))) (UpdF.tail (by (change @Ne Addr _ _; dsimp only; first | assumption | (symm; assumption))) (UpdF.tail (by (change @Ne Addr _ _; dsimp only; first | assumption | (symm; assumption))) (UpdF.tail (by (change @Ne Addr _ _; dsimp only; first | assumption | (symm; assumption))) (UpdF.tail (by (change @Ne Addr _ _; dsimp only; first | assumption | (symm; assumption))) (UpdF.head (by (repeat (first | exact List.forall_mem_nil _ | refine List.forall_mem_cons.mpr ⟨by (change @Ne Addr _ _; dsimp only; first | assumption | (symm; assumption)), ?_⟩)))))))) | exact UpdF.tail (by (change @Ne Addr _ _; dsimp only; first | assumption | (symm; assumption))) (UpdF.tail (by (change @Ne Addr _ _; dsimp only; first | assumption | (symm; assumption))) (UpdF.tail (by (change @Ne Addr _ _; dsimp only; first | assumption | (symm; assumption))) (UpdF.tail (by (change @Ne Addr _ _; dsimp only; first | assumption | (symm; assumption))) (UpdF.tail (by (change @Ne Addr _ _; dsimp only; first | assumption | (symm; assumption))) (UpdF.tail (by (change @Ne Addr _ _; dsimp only; first | assumption | (symm; assumption))) (UpdF.head (by (repeat (first | exact List.forall_mem_nil _ | refine List.forall_mem_cons.mpr ⟨by (change @Ne Addr _ _; dsimp only; first | assumption | (symm; assumption)), ?_⟩))))))))) | exact UpdF.tail (by (change @Ne Addr _ _; dsimp only; first | assumption | (symm; assumption))) (UpdF.tail (by (change @Ne Addr _ _; dsimp only; first | assumption | (symm; assumption))) (UpdF.tail (by (change @Ne Addr _ _; dsimp only; first | assumption | (symm; assumption))) (UpdF.tail (by (change @Ne Addr _ _; dsimp only; first | assumption | (symm; assumption))) (UpdF.tail (by (change @Ne Addr _ _; dsimp only; first | assumption | (symm; assumption))) (UpdF.tail (by (change @Ne Addr _ _; dsimp only; first | assumption | (symm; assumption))) (UpdF.tail (by (change @Ne Addr _ _; dsimp only; first | assumption | (symm; assumption))) (UpdF.head (by (repeat (first | exact List.forall_mem_nil _ | refine List.forall_mem_cons.mpr ⟨by (change @Ne Addr _ _; dsimp only; first | assumption | (symm; assumption)), ?_⟩)))))))))))
  refine stoC Cj rfl U₂' hoA fun hk oA' hoA' Ck => ?_
  have hDl₃ := hDl₂.at fun o e => w1 _ _ e
  have hqs₃ := hqs₂.keeps w1
  have hEl₃ := hEl.at fun o e => w1 _ _ e
  have I₃ := I₁₃.keeps w1
  have hqf₃ : ∀ (i : Nat) (q : Addr × Value × Value), qs[i]? = some q → ∃ f tk, fs[i]? = some f ∧ FrAt (reb hd ((L, m₁₂) :: fr) [(x, ox), (d, od), (b, o₆), (L + 3, oS), (L + 2, oA), (L + 1, oX'), (252, tabObj #[]), (259, tabObj #[])]) q.2.1 f ∧ q.2.2 = .bytes (encF f).toArray tk := fun i q e => by
    obtain ⟨f, tk, e1, e2, e3⟩ := hqf i q e
    exact ⟨f, tk, e1, (e2.keeps z1).keeps w1, e3⟩
  have hgE : g.StaysIn (reb hd ((L, m₁₂) :: fr) [(x, ox), (d, od), (b, o₆), (L + 3, oS), (L + 2, oA), (L + 1, oX'), (252, tabObj #[]), (259, tabObj #[])]) := fun b o e => w1 _ _ (z1 _ _ (hg8 _ _ e))
  generalize reb hd ((L, m₁₂) :: fr) [(x, ox), (d, od), (b, o₆), (L + 3, oS), (L + 2, oA), (L + 1, oX'), (252, tabObj #[]), (259, tabObj #[])] = gE at *
  refine gWhile (whileG (n := (flatF fs).length) (E₁ := No) (fun n g' m nx => ∃ at' : Nat, ∃ ox od o oA' ps tr lf fvs ta, nx = [(x, ox), (d, od), (b, o), (L + 3, oS'), (L + 2, oA'), (L + 1, oX'), (252, tabObj #[]), (259, tabObj ps)] ∧ Strm x d ox od 100 (remF fs at') tm tr ∧ BoxO lb o ∧ oA'.data = .cell (some (.int at' ta)) ∧ TabInv g' lamPos lamQ ps ∧
    g'.IsList lf (List.toArray fvs) ∧ FrsAt g' fvs (fs.take (cntF fs at')) ∧ (m "found" = some (.ref lf) ∧ m "whole" = some (.bytes (flatF fs).toArray tw)) ∧ (m "ends" = some (.ref e) ∧ m "pairs" = some (.ref D)) ∧ at' ≤ (flatF fs).length ∧ (flatF fs).length ≤ at' + n)
    Ck ⟨0, ox, od, o₆, oA', #[], tr, ld, [], ta, rfl, ?_, B₆, hoA', .inl rfl, hll.1.is w3, ?_, ⟨rfl, m1⟩, ⟨m2, m3⟩, Nat.zero_le _, by omega⟩ (fun n gw hw mw nx kw hgw Cw J => ?_) fun _ _ z => z.elim)
  · rw [(rem0 fs).1]; exact Sc
  · rw [(rem0 fs).2]; exact .nil
  obtain ⟨at', ox', od', o, oA₂, ps, trw, lf, fvs, taw, rfl, Sw, Bw, hoA₂, htab, hlf, hfv, ⟨j1, j2⟩, ⟨j3, j4⟩, hat, hfuel⟩ := J
  have Iw := I₃.keeps hgw
  refine gT (tLt (nmCe Cw rfl (by (repeat (first | exact List.Mem.head _ | apply List.Mem.tail))) hoA₂) (pLenY (nmB (v := .builtin "len") Cw (by rfl) (by k_is) (by rfl) (by decide)) (nmL Cw (hv := by exact j2)) (by rw [List.size_toArray]; omega))) fun ka => ?_
  by_cases hlt : at' < (flatF fs).length
  · rw [decide_eq_true (show (at' : Int) < ((flatF fs).toArray.size : Nat) by rw [List.size_toArray]; omega)]
    have UB : UpdF b o [(x, ox'), (d, od'), (b, o), (L + 3, oS'), (L + 2, oA₂), (L + 1, oX'), (252, tabObj #[]), (259, tabObj ps)] (fun o => [(x, ox'), (d, od'), (b, o), (L + 3, oS'), (L + 2, oA₂), (L + 1, oX'), (252, tabObj #[]), (259, tabObj ps)]) := by (first | exact UpdF.head (by (repeat (first | exact List.forall_mem_nil _ | refine List.forall_mem_cons.mpr ⟨by (change @Ne Addr _ _; dsimp only; first | assumption | (symm; assumption)), ?_⟩))) | exact UpdF.tail (by (change @Ne Addr _ _; dsimp only; first | assumption | (symm; assumption))) (UpdF.head (by (repeat (first | exact List.forall_mem_nil _ | refine List.forall_mem_cons.mpr ⟨by (change @Ne Addr _ _; dsimp only; first | assumption | (symm; assumption)), ?_⟩)))) | exact UpdF.tail (by (change @Ne Addr _ _; dsimp only; first | assumption | (symm; assumption))) (UpdF.tail (by (change @Ne Addr _ _; dsimp only; first | assumption | (symm; assumption))) (UpdF.head (by (repeat (first | exact List.forall_mem_nil _ | refine List.forall_mem_cons.mpr ⟨by (change @Ne Addr _ _; dsimp only; first | assumption | (symm; assumption)), ?_⟩))))) | exact UpdF.tail (by (change @Ne Addr _ _; dsimp only; first | assumption | (symm; assumption))) (UpdF.tail (by (change @Ne Addr _ _; dsimp only; first | assumption | (symm; assumption))) (UpdF.tail (by (change @Ne Addr _ _; dsimp only; first | assumption | (symm; assumption))) (UpdF.head (by (repeat (first | exact List.forall_mem_nil _ | refine List.forall_mem_cons.mpr ⟨by (change @Ne Addr _ _; dsimp only; first | assumption | (symm; assumption)), ?_⟩)))))) | exact UpdF.tail (by (change @Ne Addr _ _; dsimp only; first | assumption | (symm; assumption))) (UpdF.tail (by (change @Ne Addr _ _; dsimp only; first | assumption | (symm; assumption))) (UpdF.tail (by (change @Ne Addr _ _; dsimp only; first | assumption | (symm; assumption))) (UpdF.tail (by (change @Ne Addr _ _; dsimp only; first | assumption | (symm; assumption))) (UpdF.head (by (repeat (first | exact List.forall_mem_nil _ | refine List.forall_mem_cons.mpr ⟨by (change @Ne Addr _ _; dsimp only; first | assumption | (symm; assumption)), ?_⟩))))))) | exact UpdF.tail (by (change @Ne Addr _ _; dsimp only; first | assumption | (symm; assumption))) (UpdF.tail (by (change @Ne Addr _ _; dsimp only; first | assumption | (symm; assumption))) (UpdF.tail (by (change @Ne Addr _ _; dsimp only; first | assumption | (symm; assumption))) (UpdF.tail (by (change @Ne Addr _ _; dsimp only; first | assumption | (symm; assumption))) (UpdF.tail (by (change @Ne Addr _ _; dsimp only; first | assumption | (symm; assumption))) (UpdF.head (by (repeat (first | exact List.forall_mem_nil _ | refine List.forall_mem_cons.mpr ⟨by (change @Ne Addr _ _; dsimp only; first | assumption | (symm; assumption)), ?_⟩)))))))) | exact UpdF.tail (by (change @Ne Addr _ _; dsimp only; first | assumption | (symm; assumption))) (UpdF.tail (by (change @Ne Addr _ _; dsimp only; first | assumption | (symm; assumption))) (UpdF.tail (by (change @Ne Addr _ _; dsimp only; first | assumption | (symm; assumption))) (UpdF.tail (by (change @Ne Addr _ _; dsimp only; first | assumption | (symm; assumption))) (UpdF.tail (by (change @Ne Addr _ _; dsimp only; first | assumption | (symm; assumption))) (UpdF.tail (by (change @Ne Addr _ _; dsimp only; first | assumption | (symm; assumption))) (UpdF.head (by (repeat (first | exact List.forall_mem_nil _ | refine List.forall_mem_cons.mpr ⟨by (change @Ne Addr _ _; dsimp only; first | assumption | (symm; assumption)), ?_⟩))))))))) | exact UpdF.tail (by (change @Ne Addr _ _; dsimp only; first | assumption | (symm; assumption))) (UpdF.tail (by (change @Ne Addr _ _; dsimp only; first | assumption | (symm; assumption))) (UpdF.tail (by (change @Ne Addr _ _; dsimp only; first | assumption | (symm; assumption))) (UpdF.tail (by (change @Ne Addr _ _; dsimp only; first | assumption | (symm; assumption))) (UpdF.tail (by (change @Ne Addr _ _; dsimp only; first | assumption | (symm; assumption))) (UpdF.tail (by (change @Ne Addr _ _; dsimp only; first | assumption | (symm; assumption))) (UpdF.tail (by (change @Ne Addr _ _; dsimp only; first | assumption | (symm; assumption))) (UpdF.head (by (repeat (first | exact List.forall_mem_nil _ | refine List.forall_mem_cons.mpr ⟨by (change @Ne Addr _ _; dsimp only; first | assumption | (symm; assumption)), ?_⟩)))))))))))
    refine gAsg (callB (nmB (v := .builtin "min") Cw (by rfl) (by k_is) (by rfl) (by decide)) (fun _ => kpB) fun kb => gP (pLenY (nmB (v := .builtin "len") Cw (by rfl) (by k_is) (by rfl) (by decide)) (nmL Cw (hv := by exact j2)) (by rw [List.size_toArray]; omega)) fun tb kc => gBin (gP (pAdd (nmCe Cw rfl (by (repeat (first | exact List.Mem.head _ | apply List.Mem.tail))) hoA₂) cI) fun tc kd => gBin (drawE next_d (hR.in.le (by decide)) Cw UB Bw Iw ⟨rfl, rfl, rfl, rfl⟩ (by k_is) (by k_is) (nmCe Cw rfl (by (repeat (first | exact List.Mem.head _ | apply List.Mem.tail))) hoX') fun ga ha ke oa va hga Ca Ba hva => gP cI fun td kf => ?_)))
    obtain ⟨xa, tx, rfl, x0, x1⟩ := hva
    refine modI (by decide) fun te kg => ?_
    obtain ⟨q, hq, hqlt⟩ := natOf (Int.emod_nonneg xa (by decide : (12 : Int) ≠ 0)) (Int.emod_lt_of_pos xa (by decide))
    rw [hq]
    refine gOf (add_int (s := St s ha kg) ?_)
    refine gOf (min_two_ints (s := St s ha _) hR.hh fun hb kh hkb => ?_)
    obtain ⟨lt', tl, hlv, l1, l2, l3⟩ : ∃ (lt' : Nat) (tl : Tok), (if (at' : Int) + 1 + (q : Int) < ((flatF fs).toArray.size : Nat) then Value.int ((at' : Int) + 1 + (q : Int)) kg else Value.int ((flatF fs).toArray.size : Nat) tb) = Value.int (lt' : Nat) tl ∧ at' < lt' ∧ lt' ≤ (flatF fs).length ∧ lt' ≤ at' + 12 := by
      rw [List.size_toArray]
      split
      · exact ⟨at' + 1 + q, kg, by congr 1, by omega, by omega, by omega⟩
      · exact ⟨(flatF fs).length, tb, rfl, hlt, Nat.le_refl _, by omega⟩
    rw [hlv]
    have Cb := Ca.on hkb
    refine stoX Cb fun hc kc Cc => ?_
    have hgb : gE.StaysIn ga := fun b o e => hga _ _ (hgw _ _ e)
    obtain ⟨gs, hgs, hgs2⟩ := takeF_step fs hok at' lt' (by omega)
    have hlf₁ := hlf.at fun o e => hga _ _ e
    have hfv₁ := hfv.keeps hga
    have htab₁ := htab.keeps hga
    have hrl := remF_len fs hok at'
    have hl6 : fvs.length + gs.length ≤ 6 := by
      have := congrArg List.length hgs2
      rw [List.length_append, List.length_take (l := fs) (i := cntF fs lt')] at this
      rw [hfv.length]; omega
    refine gAsg (gBin (gP (nmL Cc (hv := by exact j1)) fun _ kd => gMeth (gP (nmCe Cc rfl (by (repeat (first | exact List.Mem.head _ | apply List.Mem.tail))) hoS') fun _ ke => methS Sw Cc (.head _) (.tail _ (.head _)) (nsFS_at _).2.2.2.2.2.1 (by k_is) missO_take (by rfl) (gCall (slY (i := at') (j := lt') (nmL Cc (hv := by exact j2)) (nmCe Cc rfl (by (repeat (first | exact List.Mem.head _ | apply List.Mem.tail))) hoA₂) (nmL Cc) rfl rfl (by omega) fun hd' td' kf qd' => ⟨keeps_K (by k_is) _ (Cc.on qd').gd.X, take_r (by exact hR.in.le (by decide)) F₁.aa (Cc.on qd') Sw (by (repeat (first | exact List.forall_mem_nil _ | refine List.forall_mem_cons.mpr ⟨⟨by (change @Ne Addr _ _; dsimp only; first | assumption | (symm; assumption)), by (change @Ne Addr _ _; dsimp only; first | assumption | (symm; assumption))⟩, ?_⟩))) (by decide) (by rw [List.length_take]; omega) (fun fs' r' htk ge he kg' l vs' oxe ode te' hge Ce Se hl' hvs' => ?_) fun e' he' v s' X => by rw [hgs] at he'; cases he'⟩) (by rfl))) (by rfl)))
    rw [hgs] at htk
    cases htk
    refine addL (hlf₁.at fun o z => Ce.keep _ _ (hge _ _ z)) (hl'.at fun o z => Ce.keep _ _ z) (by rw [hvs'.length]; omega) fun hh l₂ o₂' hn₂ ho₂ hl₂ q₂ => ?_
    obtain ⟨gG, v1, Ch, v3⟩ := Ce.toGe hn₂ ho₂ q₂
    have hfr₂ : FrsAt gG (fvs ++ vs') (fs.take (cntF fs lt')) := by
      have := pairApp ((hfv₁.keeps hge).keeps v1) (hvs'.keeps v1)
      rw [hgs2] at this
      exact this
    have hl₃ := hl₂.1.is v3
    have hgh : gE.StaysIn gG := fun b o e => v1 _ _ (hge _ _ (hgb _ _ e))
    have hgah : ga.StaysIn gG := fun b o e => v1 _ _ (hge _ _ e)
    have htab₂ := htab₁.keeps hgah
    refine stoX Ch fun hi' ki Ci' => ?_
    have UA : UpdF (L + 2) oA₂ [(x, oxe), (d, ode), (b, oa), (L + 3, oS'), (L + 2, oA₂), (L + 1, oX'), (252, tabObj #[]), (259, tabObj ps)] (fun o' => [(x, oxe), (d, ode), (b, oa), (L + 3, oS'), (L + 2, o'), (L + 1, oX'), (252, tabObj #[]), (259, tabObj ps)]) := by (first | exact UpdF.head (by (repeat (first | exact List.forall_mem_nil _ | refine List.forall_mem_cons.mpr ⟨by (change @Ne Addr _ _; dsimp only; first | assumption | (symm; assumption)), ?_⟩))) | exact UpdF.tail (by (change @Ne Addr _ _; dsimp only; first | assumption | (symm; assumption))) (UpdF.head (by (repeat (first | exact List.forall_mem_nil _ | refine List.forall_mem_cons.mpr ⟨by (change @Ne Addr _ _; dsimp only; first | assumption | (symm; assumption)), ?_⟩)))) | exact UpdF.tail (by (change @Ne Addr _ _; dsimp only; first | assumption | (symm; assumption))) (UpdF.tail (by (change @Ne Addr _ _; dsimp only; first | assumption | (symm; assumption))) (UpdF.head (by (repeat (first | exact List.forall_mem_nil _ | refine List.forall_mem_cons.mpr ⟨by (change @Ne Addr _ _; dsimp only; first | assumption | (symm; assumption)), ?_⟩))))) | exact UpdF.tail (by (change @Ne Addr _ _; dsimp only; first | assumption | (symm; assumption))) (UpdF.tail (by (change @Ne Addr _ _; dsimp only; first | assumption | (symm; assumption))) (UpdF.tail (by (change @Ne Addr _ _; dsimp only; first | assumption | (symm; assumption))) (UpdF.head (by (repeat (first | exact List.forall_mem_nil _ | refine List.forall_mem_cons.mpr ⟨by (change @Ne Addr _ _; dsimp only; first | assumption | (symm; assumption)), ?_⟩)))))) | exact UpdF.tail (by (change @Ne Addr _ _; dsimp only; first | assumption | (symm; assumption))) (UpdF.tail (by (change @Ne Addr _ _; dsimp only; first | assumption | (symm; assumption))) (UpdF.tail (by (change @Ne Addr _ _; dsimp only; first | assumption | (symm; assumption))) (UpdF.tail (by (change @Ne Addr _ _; dsimp only; first | assumption | (symm; assumption))) (UpdF.head (by (repeat (first | exact List.forall_mem_nil _ | refine List.forall_mem_cons.mpr ⟨by (change @Ne Addr _ _; dsimp only; first | assumption | (symm; assumption)), ?_⟩))))))) | exact UpdF.tail (by (change @Ne Addr _ _; dsimp only; first | assumption | (symm; assumption))) (UpdF.tail (by (change @Ne Addr _ _; dsimp only; first | assumption | (symm; assumption))) (UpdF.tail (by (change @Ne Addr _ _; dsimp only; first | assumption | (symm; assumption))) (UpdF.tail (by (change @Ne Addr _ _; dsimp only; first | assumption | (symm; assumption))) (UpdF.tail (by (change @Ne Addr _ _; dsimp only; first | assumption | (symm; assumption))) (UpdF.head (by (repeat (first | exact List.forall_mem_nil _ | refine List.forall_mem_cons.mpr ⟨by (change @Ne Addr _ _; dsimp only; first | assumption | (symm; assumption)), ?_⟩)))))))) | exact UpdF.tail (by (change @Ne Addr _ _; dsimp only; first | assumption | (symm; assumption))) (UpdF.tail (by (change @Ne Addr _ _; dsimp only; first | assumption | (symm; assumption))) (UpdF.tail (by (change @Ne Addr _ _; dsimp only; first | assumption | (symm; assumption))) (UpdF.tail (by (change @Ne Addr _ _; dsimp only; first | assumption | (symm; assumption))) (UpdF.tail (by (change @Ne Addr _ _; dsimp only; first | assumption | (symm; assumption))) (UpdF.tail (by (change @Ne Addr _ _; dsimp only; first | assumption | (symm; assumption))) (UpdF.head (by (repeat (first | exact List.forall_mem_nil _ | refine List.forall_mem_cons.mpr ⟨by (change @Ne Addr _ _; dsimp only; first | assumption | (symm; assumption)), ?_⟩))))))))) | exact UpdF.tail (by (change @Ne Addr _ _; dsimp only; first | assumption | (symm; assumption))) (UpdF.tail (by (change @Ne Addr _ _; dsimp only; first | assumption | (symm; assumption))) (UpdF.tail (by (change @Ne Addr _ _; dsimp only; first | assumption | (symm; assumption))) (UpdF.tail (by (change @Ne Addr _ _; dsimp only; first | assumption | (symm; assumption))) (UpdF.tail (by (change @Ne Addr _ _; dsimp only; first | assumption | (symm; assumption))) (UpdF.tail (by (change @Ne Addr _ _; dsimp only; first | assumption | (symm; assumption))) (UpdF.tail (by (change @Ne Addr _ _; dsimp only; first | assumption | (symm; assumption))) (UpdF.head (by (repeat (first | exact List.forall_mem_nil _ | refine List.forall_mem_cons.mpr ⟨by (change @Ne Addr _ _; dsimp only; first | assumption | (symm; assumption)), ?_⟩)))))))))))
    refine gAsg (gP (nmL Ci') fun _ kj' => stoC Ci' rfl UA hoA₂ fun hj' oA₃ hoA₃ Cj' => ?_)
    have hgw' : gw.StaysIn gG := fun b o e => hgah _ _ (hga _ _ e)
    refine gIf (gCmp (gP (nmL Cj') fun _ kk => gSub (gComp ?_ (by rfl))) (by rfl))
    refine gP (nmL Cj' (hv := by exact j4)) fun _ kl => compPr (fun i g' ys nx => nx = [(x, oxe), (d, ode), (b, oa), (L + 3, oS'), (L + 2, oA₃), (L + 1, oX'), (252, tabObj #[]), (259, tabObj ps)] ∧ Paired (FrAt g') ys (fs.take i)) hR.hh Cj' (hDl₃.at fun o e => hgh _ _ e) (hqs₃.keeps hgh) ⟨rfl, .nil⟩
      (fun i q g' h' mc nx k oI oD ys I' D' Cc' e' J hg C' hne hID => ?_) (fun gk hk' D₂ oD₂ nx km ys hgk Ck' hD₂ hneD₂ J => ?_) (fun Cc => ⟨rfl, rfl, rfl, rfl⟩) (hn := by rw [hql]; omega)
    · obtain ⟨rfl, hys⟩ := J
      obtain ⟨f, tk, ef, hff, _⟩ := hqf₃ i q e'
      refine gP (nmLe C' ⟨rfl, rfl, rfl, rfl⟩) fun _ k' => ⟨g', h', _, k', _, rfl, fun _ _ e => e, C', hne, rfl, ?_⟩
      rw [List.take_add_one, ef]
      exact hys.snoc (hff.keeps fun b o e => hg _ _ (hgh _ _ e))
    obtain ⟨rfl, hys⟩ := J
    rw [hql, List.take_length] at hys
    obtain ⟨gl, u1, Cl, u3⟩ := Ck'.inGe hneD₂
    have hgl : gE.StaysIn gl := fun b o e => u1 _ _ (hgk _ _ (hgh _ _ e))
    refine gOf (wpAny_Slice (wpAny_pure (gAny (callB (nmB (v := .builtin "len") Cl (by rfl) (by k_is) (by rfl) (by decide)) (fun _ => kpB) fun kn => gComp ?_ (by rfl)))))
    refine gP (nmL Cl (hv := by exact j3)) fun _ ko => compLs (fun i g' ys nx => nx = [(x, oxe), (d, ode), (b, oa), (L + 3, oS'), (L + 2, oA₃), (L + 1, oX'), (252, tabObj #[]), (259, tabObj ps)] ∧ ys.length = (((endsF 0 fs).take i).filter (fun e => decide (e ≤ lt'))).length) hR.hh Cl (hEl₃.at fun o e => hgl _ _ e) ⟨rfl, rfl⟩
      (fun i v g' h' mc nx k oI oD ys I' D' Cc' hv J hg C' hne hID => ?_) (fun gm hm' D₃ oD₃ nx kp ws hgm Cm' hD₃ hneD₃ J => ?_) (fun Cc => ⟨rfl, rfl, rfl, rfl⟩) (hn := ?_)
    · obtain ⟨rfl, hcs⟩ := J
      rw [List.getElem?_toArray] at hv
      obtain ⟨n', tn, rfl, hn'⟩ := IntsAre.at' hIe hv
      rw [List.getElem?_map] at hn'
      obtain ⟨en, hen', rfl⟩ := Option.map_eq_some_iff.mp hn'
      refine tests1 ((tCmp (nmLe C' ⟨rfl, rfl, rfl, rfl⟩) (nmCe C' rfl (by (repeat (first | exact List.Mem.head _ | apply List.Mem.tail))) hoA₃) (fun _ _ _ _ _ hQ => le_int (hQ _)) (by rfl)) _ _ _ _ fun k' => ?_)
      have et : ((endsF 0 fs).take (i + 1)).filter (fun e => decide (e ≤ lt')) = ((endsF 0 fs).take i).filter (fun e => decide (e ≤ lt')) ++ (if en ≤ lt' then [en] else []) := by
        rw [List.take_add_one, hen', List.filter_append]
        congr 1
        show List.filter _ [en] = _
        rw [List.filter_cons]
        by_cases hq : en ≤ lt'
        · rw [if_pos hq, if_pos (decide_eq_true hq)]; rfl
        · rw [if_neg hq, if_neg (by rw [decide_eq_true_eq]; exact hq)]; rfl
      by_cases hq : en ≤ lt'
      · rw [decide_eq_true (show ((en : Nat) : Int) ≤ (lt' : Nat) by omega)]
        refine (nmLe C' ⟨rfl, rfl, rfl, rfl⟩) k' _ _ fun _ k'' => ⟨g', h', _, k'', _, rfl, fun _ _ e => e, C', hne, rfl, ?_⟩
        rw [et, if_pos hq, List.length_append, List.length_append, hcs]; rfl
      · rw [decide_eq_false (show ¬ ((en : Nat) : Int) ≤ (lt' : Nat) by omega)]
        refine ⟨g', h', _, k', _, rfl, fun _ _ e => e, C', hne, rfl, ?_⟩
        rw [et, if_neg hq, List.append_nil, hcs]
    · obtain ⟨rfl, hcs⟩ := J
      have hel : evs.toArray.size = (endsF 0 fs).length := by rw [List.size_toArray, hIe.length, List.length_map]
      have hcn : ws.length = cntF fs lt' := by
        rw [hcs, hel, List.take_length]
        have := ends_cnt fs 0 lt'
        rw [Nat.zero_add] at this
        exact this
      have hcl : cntF fs lt' ≤ 6 := by
        rw [← hcn, hcs]
        refine Nat.le_trans (List.length_filter_le _ _) ?_
        rw [hel, List.take_length]
        have : ∀ (fs : List Frm) (o : Nat), (endsF o fs).length = fs.length := by
          intro fs
          induction fs with
          | nil => intro o; rfl
          | cons f fs ih => intro o; show (endsF _ fs).length + 1 = _; rw [ih]; rfl
        rw [this]; exact hfl
      refine gOf (len_list (s := St s hm' kp) (hD₃.is (Cm'.N _ (.head _)).1) (by rw [List.size_toArray, hcn]; omega) ?_)
      refine wpAny_pure ?_
      have hD₂l := (hD₂.is u3).at fun o e => Cm'.keep _ _ (hgm _ _ e)
      have Cn := Cm'.drop (news' := [(x, oxe), (d, ode), (b, oa), (L + 3, oS'), (L + 2, oA₃), (L + 1, oX'), (252, tabObj #[]), (259, tabObj ps)]) fun p hp => .tail _ hp
      refine slTail2 .none (.int _ _) hD₂l (by rw [List.size_toArray, hys.length]; omega) (fun hp tP oP hnP hoP hlP qP => ?_) (by intro _; with_unfolding_all rfl)
      rw [List.size_toArray, slicePick_upto', hcn] at hlP
      have Cp := Cn.on qP
      refine gOf (neFrs (s := St s hp _) (fs := fs.take (cntF fs lt')) (hl₃.at fun o e => Cp.keep _ _ (hgm _ _ (u1 _ _ (hgk _ _ e)))) (hlP.1.is hoP) (hfr₂.keeps fun b o e => Cp.keep _ _ (hgm _ _ (u1 _ _ (hgk _ _ e)))) ?_ ?_ ?_)
      · exact Paired.mono (fun _ _ z => z.keeps fun b o e => Cp.keep _ _ (hgm _ _ (u1 _ _ e))) (pairTake _ hys)
      · show A.units + 3 + 30 < 9900; omega
      refine gTruB (gNil ?_)
      show wpG _ _ _ (execs _ _) _ _ _
      have hgm' : gE.StaysIn gm := fun b o e => hgm _ _ (hgl _ _ e)
      have hgG : gG.StaysIn gm := fun b o e => hgm _ _ (u1 _ _ (hgk _ _ e))
      clear Cm' Cn Cl Ck' Cj' Ci' Ch
      have Cq : Cx w gm _ hp ((259, tabObj ps) :: [(x, oxe), (d, ode), (b, oa), (L + 3, oS'), (L + 2, oA₃), (L + 1, oX'), (252, tabObj #[])]) := Cp.drop (by (repeat (first | exact List.forall_mem_nil _ | refine List.forall_mem_cons.mpr ⟨by (repeat (first | exact List.Mem.head _ | apply List.Mem.tail)), ?_⟩)))
      have htab₃ := htab₂.keeps hgG
      refine gIf (gCmp (gCmpV (callF Cp (by rfl) (by k_is) (by k_is) fun kq => lamE Cq (by (repeat (first | exact List.forall_mem_nil _ | refine List.forall_mem_cons.mpr ⟨by (change @Ne Addr _ _; dsimp only; first | assumption | (symm; assumption)), ?_⟩))) (codeHd_of_K Cp.G.X (by kernel_rfl)) htab₃ (by rfl) fun gd hdd kd' f ps' c' ctv pm hgd Cd' htab' hfo hcd => ⟨fun b o e => Cd'.keep _ _ (hgd _ _ e), code_l (n := 14) (Rr := if remF fs lt' = [] then none else some 262) (by exact hR.in) F₁.aa Cd' hfo rfl (fun {κ A fr h k Q E} hRw Fw Cw' ok err => ?_) fun gn hn' kr tr' hgn Cr => ?_⟩) (by rfl)) (by rfl))
      · refine lamCall (newsE := (259, tabObj ps') :: [(x, oxe), (d, ode), (b, oa), (L + 3, oS'), (L + 2, oA₃), (L + 1, oX'), (252, tabObj #[])]) (Pp := fun C c => remF fs lt' ≠ [] ∧ H3 262 C c) Fw Cw' hRw.lt hfo hcd (fun _ => .of_eq rfl) rfl (fun v s' X => err 262 (if_neg X.get.1) v s' X.get.2) fun L' h₁ k₁ C₁ F₁ => ?_
        have C₁' := C₁.drop (news' := (x, oxe) :: (d, ode) :: [(b, oa), (L + 3, oS'), (L + 2, oA₃), (L + 1, oX'), (252, tabObj #[]), (259, tabObj ps')]) (by (repeat (first | exact List.forall_mem_nil _ | refine List.forall_mem_cons.mpr ⟨by (repeat (first | exact List.Mem.head _ | apply List.Mem.tail)), ?_⟩)))
        refine gMeth (gP (nmFe C₁ rfl (by (repeat (first | exact List.Mem.head _ | apply List.Mem.tail))) hoS') fun _ ka => methS Se C₁' (.head _) (.tail _ (.head _)) (nsFS_at _).2.2.2.2.2.2.2 (by k_is) missO_end (by rfl) (gCall (es := []) ⟨keeps_K (by k_is) _ C₁.gd.X, ?_⟩ (by rfl))) (by rfl)
        have hrl2 := remF_len fs hok lt'
        exact end_r (by exact hRw.in.le (by decide)) F₁.aa C₁' Se (by omega) (fun hr h' k' C' => ok (if_pos hr) _ _ _ _ (fun _ _ e => e) (C'.drop (by (repeat (first | exact List.forall_mem_nil _ | refine List.forall_mem_cons.mpr ⟨by (repeat (first | exact List.Mem.head _ | apply List.Mem.tail)), ?_⟩)))).pop) fun hr v s' X => ((X.bx.drop (by (repeat (first | exact List.forall_mem_nil _ | refine List.forall_mem_cons.mpr ⟨by (repeat (first | exact List.Mem.head _ | apply List.Mem.tail)), ?_⟩)))).mono fun C c q => ⟨hr, q⟩)
      refine gP cI fun ts ks => gOf (eq_int (s := St s hn' ks) ?_)
      have hlE : hn'.IsList e evs.toArray := hEl₃.at fun o z => Cr.keep _ _ (hgn _ _ (hgd _ _ (hgm' _ _ z)))
      refine gCmpV (gP (nmCe Cr rfl (by (repeat (first | exact List.Mem.head _ | apply List.Mem.tail))) hoA₃) fun _ kt => gP (nmL Cr (hv := by exact j3)) fun _ ku => gOf (notin_list_ints (s := St s hn' ku) hlE hIe ?_)) (by rfl)
      refine gOf (ne_bool (s := St s hn' ku) ?_)
      have hbb : (((((if remF fs lt' = [] then none else some 262 : Option Nat).getD 0 : Nat) : Int) == 262) != (!(((endsF 0 fs).map fun (n : Nat) => (n : Int)).any (· == (lt' : Int))))) = false := by
        rw [any_natB]
        have hrn := rem_nil fs 0 lt' (by omega) l2
        rw [Nat.zero_add] at hrn
        by_cases hr : remF fs lt' = []
        · rw [if_pos hr, decide_eq_true (hrn.mp hr)]; rfl
        · rw [if_neg hr, decide_eq_false (fun z => hr (hrn.mpr z))]; rfl
      rw [hbb]
      refine gTruB (gNil ?_)
      refine gNil ?_
      have Cs := Cr.drop (news' := [(x, oxe), (d, ode), (b, oa), (L + 3, oS'), (L + 2, oA₃), (L + 1, oX'), (252, tabObj #[]), (259, tabObj ps')]) (by (repeat (first | exact List.forall_mem_nil _ | refine List.forall_mem_cons.mpr ⟨by (repeat (first | exact List.Mem.head _ | apply List.Mem.tail)), ?_⟩)))
      refine wnNext (fun b o z => hgn _ _ (hgd _ _ (hgG _ _ (hgw' _ _ z)))) Cs ⟨n - 1, by omega, lt', oxe, ode, oa, oA₃, ps', _, l₂, fvs ++ vs', _, rfl, Se, Ba, hoA₃, htab'.keeps hgn, hl₃.at fun o z => hgn _ _ (hgd _ _ (hgG _ _ z)), hfr₂.keeps fun b o z => hgn _ _ (hgd _ _ (hgG _ _ z)), ⟨rfl, j2⟩, ⟨j3, j4⟩, l2, by omega⟩
    · rw [List.size_toArray, hIe.length, List.length_map]
      have : ∀ (fs : List Frm) (o : Nat), (endsF o fs).length = fs.length := by
        intro fs
        induction fs with
        | nil => intro o; rfl
        | cons f fs ih => intro o; show (endsF _ fs).length + 1 = _; rw [ih]; rfl
      rw [this]; omega
  · have hW : at' = (flatF fs).length := by omega
    subst hW
    rw [decide_eq_false (show ¬ ((flatF fs).length : Int) < ((flatF fs).toArray.size : Nat) by rw [List.size_toArray]; omega)]
    show wpG _ _ _ (execs _ _) _ _ _
    have UB' : UpdF b o [(x, ox'), (d, od'), (b, o), (L + 3, oS'), (L + 2, oA₂), (L + 1, oX'), (259, tabObj ps)] (fun o => [(x, ox'), (d, od'), (b, o), (L + 3, oS'), (L + 2, oA₂), (L + 1, oX'), (259, tabObj ps)]) := by (first | exact UpdF.head (by (repeat (first | exact List.forall_mem_nil _ | refine List.forall_mem_cons.mpr ⟨by (change @Ne Addr _ _; dsimp only; first | assumption | (symm; assumption)), ?_⟩))) | exact UpdF.tail (by (change @Ne Addr _ _; dsimp only; first | assumption | (symm; assumption))) (UpdF.head (by (repeat (first | exact List.forall_mem_nil _ | refine List.forall_mem_cons.mpr ⟨by (change @Ne Addr _ _; dsimp only; first | assumption | (symm; assumption)), ?_⟩)))) | exact UpdF.tail (by (change @Ne Addr _ _; dsimp only; first | assumption | (symm; assumption))) (UpdF.tail (by (change @Ne Addr _ _; dsimp only; first | assumption | (symm; assumption))) (UpdF.head (by (repeat (first | exact List.forall_mem_nil _ | refine List.forall_mem_cons.mpr ⟨by (change @Ne Addr _ _; dsimp only; first | assumption | (symm; assumption)), ?_⟩))))) | exact UpdF.tail (by (change @Ne Addr _ _; dsimp only; first | assumption | (symm; assumption))) (UpdF.tail (by (change @Ne Addr _ _; dsimp only; first | assumption | (symm; assumption))) (UpdF.tail (by (change @Ne Addr _ _; dsimp only; first | assumption | (symm; assumption))) (UpdF.head (by (repeat (first | exact List.forall_mem_nil _ | refine List.forall_mem_cons.mpr ⟨by (change @Ne Addr _ _; dsimp only; first | assumption | (symm; assumption)), ?_⟩)))))) | exact UpdF.tail (by (change @Ne Addr _ _; dsimp only; first | assumption | (symm; assumption))) (UpdF.tail (by (change @Ne Addr _ _; dsimp only; first | assumption | (symm; assumption))) (UpdF.tail (by (change @Ne Addr _ _; dsimp only; first | assumption | (symm; assumption))) (UpdF.tail (by (change @Ne Addr _ _; dsimp only; first | assumption | (symm; assumption))) (UpdF.head (by (repeat (first | exact List.forall_mem_nil _ | refine List.forall_mem_cons.mpr ⟨by (change @Ne Addr _ _; dsimp only; first | assumption | (symm; assumption)), ?_⟩))))))) | exact UpdF.tail (by (change @Ne Addr _ _; dsimp only; first | assumption | (symm; assumption))) (UpdF.tail (by (change @Ne Addr _ _; dsimp only; first | assumption | (symm; assumption))) (UpdF.tail (by (change @Ne Addr _ _; dsimp only; first | assumption | (symm; assumption))) (UpdF.tail (by (change @Ne Addr _ _; dsimp only; first | assumption | (symm; assumption))) (UpdF.tail (by (change @Ne Addr _ _; dsimp only; first | assumption | (symm; assumption))) (UpdF.head (by (repeat (first | exact List.forall_mem_nil _ | refine List.forall_mem_cons.mpr ⟨by (change @Ne Addr _ _; dsimp only; first | assumption | (symm; assumption)), ?_⟩)))))))) | exact UpdF.tail (by (change @Ne Addr _ _; dsimp only; first | assumption | (symm; assumption))) (UpdF.tail (by (change @Ne Addr _ _; dsimp only; first | assumption | (symm; assumption))) (UpdF.tail (by (change @Ne Addr _ _; dsimp only; first | assumption | (symm; assumption))) (UpdF.tail (by (change @Ne Addr _ _; dsimp only; first | assumption | (symm; assumption))) (UpdF.tail (by (change @Ne Addr _ _; dsimp only; first | assumption | (symm; assumption))) (UpdF.tail (by (change @Ne Addr _ _; dsimp only; first | assumption | (symm; assumption))) (UpdF.head (by (repeat (first | exact List.forall_mem_nil _ | refine List.forall_mem_cons.mpr ⟨by (change @Ne Addr _ _; dsimp only; first | assumption | (symm; assumption)), ?_⟩))))))))) | exact UpdF.tail (by (change @Ne Addr _ _; dsimp only; first | assumption | (symm; assumption))) (UpdF.tail (by (change @Ne Addr _ _; dsimp only; first | assumption | (symm; assumption))) (UpdF.tail (by (change @Ne Addr _ _; dsimp only; first | assumption | (symm; assumption))) (UpdF.tail (by (change @Ne Addr _ _; dsimp only; first | assumption | (symm; assumption))) (UpdF.tail (by (change @Ne Addr _ _; dsimp only; first | assumption | (symm; assumption))) (UpdF.tail (by (change @Ne Addr _ _; dsimp only; first | assumption | (symm; assumption))) (UpdF.tail (by (change @Ne Addr _ _; dsimp only; first | assumption | (symm; assumption))) (UpdF.head (by (repeat (first | exact List.forall_mem_nil _ | refine List.forall_mem_cons.mpr ⟨by (change @Ne Addr _ _; dsimp only; first | assumption | (symm; assumption)), ?_⟩)))))))))))
    have Cw' : Cx w gw _ hw ((252, tabObj #[]) :: [(x, ox'), (d, od'), (b, o), (L + 3, oS'), (L + 2, oA₂), (L + 1, oX'), (259, tabObj ps)]) := Cw.drop (by (repeat (first | exact List.forall_mem_nil _ | refine List.forall_mem_cons.mpr ⟨by (repeat (first | exact List.Mem.head _ | apply List.Mem.tail)), ?_⟩)))
    refine gRet (gAnd (callF Cw (by rfl) (by k_is) (by k_is) fun kb => gP (nmCe Cw rfl (by (repeat (first | exact List.Mem.head _ | apply List.Mem.tail))) hoX') fun _ kc => ⟨Cw.keep, wr_l (by exact hR.in.le (by decide)) F₁.aa Cw' (by (repeat (first | exact List.forall_mem_nil _ | refine List.forall_mem_cons.mpr ⟨by (change @Ne Addr _ _; dsimp only; first | assumption | (symm; assumption)), ?_⟩))) UB' Bw Iw fun g' h' k' o' pt hg' C₀ B' => ?_⟩))
    have C' := C₀.drop (news' := (x, ox') :: (d, od') :: [(b, o'), (L + 3, oS'), (L + 2, oA₂), (L + 1, oX'), (259, tabObj ps), (252, tabObj pt)]) (by (repeat (first | exact List.forall_mem_nil _ | refine List.forall_mem_cons.mpr ⟨by (repeat (first | exact List.Mem.head _ | apply List.Mem.tail)), ?_⟩)))
    refine gTruB ?_
    obtain ⟨gs, hgs, hgs2⟩ := takeF_step fs hok (flatF fs).length (flatF fs).length (Nat.le_refl _)
    rw [Nat.sub_self, List.take_zero] at hgs
    have hgs0 : gs = [] := by
      have := congrArg List.length hgs2
      rw [List.length_append] at this
      exact List.eq_nil_of_length_eq_zero (by omega)
    subst hgs0
    have hrl := remF_len fs hok (flatF fs).length
    refine gCmpV (gMeth (gP (nmCe C' rfl (by (repeat (first | exact List.Mem.head _ | apply List.Mem.tail))) hoS') fun _ kd => methS Sw C' (.head _) (.tail _ (.head _)) (nsFS_at _).2.2.2.2.2.1 (by k_is) missO_take (by rfl) (gCall (gP (cY (b := [])) fun td ke => ⟨keeps_K (by k_is) _ C'.gd.X, take_r (by exact hR.in.le (by decide)) F₁.aa C' Sw (by (repeat (first | exact List.forall_mem_nil _ | refine List.forall_mem_cons.mpr ⟨⟨by (change @Ne Addr _ _; dsimp only; first | assumption | (symm; assumption)), by (change @Ne Addr _ _; dsimp only; first | assumption | (symm; assumption))⟩, ?_⟩))) (by decide) (by rw [List.length_nil]; omega) (fun fs' r' htk ge he kg' l vs' oxe ode te' hge Ce Se hl' hvs' => ?_) fun e' he' v s' X => by rw [hgs] at he'; cases he'⟩) (by rfl))) (by rfl)) (by rfl)
    rw [hgs] at htk
    cases htk
    cases hvs'
    refine gLst (es := []) (newL fun hf' l₂ o₂' hn₂ ho₂ hl₂ q₂ => gOf (EqBoolInt.of_rc (SeqAt.RcAt.lists (e := fun _ => true) (hl'.at fun o z => q₂ _ _ (Ce.keep _ _ z)) (hl₂.1.is ho₂) rfl ?_ fun j j1 _ => ?_) ?_)) (by rfl)
    · show A.units + 3 < 9900; omega
    · exact absurd j1 (Nat.not_lt_zero j)
    · exact ret ge hf' _ _ pt ps (fun b o z => hge _ _ (hg' _ _ (hgw _ _ (hgE _ _ z)))) (Ce.on q₂).pop ((Ce.on q₂).N (252, tabObj pt) (by (repeat (first | exact List.Mem.head _ | apply List.Mem.tail)))).1 ((Ce.on q₂).N (259, tabObj ps) (by (repeat (first | exact List.Mem.head _ | apply List.Mem.tail)))).1
end
end Mine

open PySem PySem.W PySem.Calls PyProof.Rows
set_option Elab.async false
set_option maxRecDepth 100000
set_option maxHeartbeats 4000000
set_option linter.unusedVariables false
namespace Mine
theorem itemsI {R : WRecords} : ∀ {xs : List WData}, WShape.hasItems R xs .int = true → ∃ ns : List Int, xs = ns.map .int
  | [], _ => ⟨[], rfl⟩
  | x :: xs, h => by
    unfold WShape.hasItems at h
    obtain ⟨h1, h2⟩ := Bool.and_eq_true_iff.mp h
    obtain ⟨ns, rfl⟩ := itemsI h2
    obtain ⟨i, rfl⟩ := hasW_int h1
    exact ⟨i :: ns, rfl⟩
theorem readsI {R : WRecords} {cl : Str → Option Addr} {h : Heap} : ∀ {ns : List Int} {vs : List Value} {as : List Addr}, ReadsAllW R cl h vs (ns.map .int) as → IntsAre vs ns
  | [], _, _, r => by cases r; exact .nil
  | n :: ns, _, _, r => by
    cases r with
    | cons a b =>
      cases a
      exact .cons _ _ (readsI b)
theorem frCaller : FrA callerA [] := ⟨[], by first | rfl | decide, rfl, fun _ h => nomatch h⟩
theorem rmCaller : Rm callerA 16 := ⟨rfl, by decide⟩
theorem most63 {R : WRecords} {xs : List WData} (h : WTm.holds R PySem.Challenge.rw_no0072_01.row.pre { args := [.list xs] } = true) : xs.length ≤ 63 := by
  have e : WTm.value R PySem.Challenge.rw_no0072_01.row.pre { args := [.list xs] } = (match some (WData.bool (!(decide ((63 : Int) < (xs.length : Int))))) with
    | some (.bool false) => some (.bool false)
    | some (.bool true) => some (.bool true)
    | _ => none) := by rfl
  unfold WTm.holds at h
  rw [e] at h
  by_cases q : (63 : Int) < (xs.length : Int)
  · rw [decide_eq_true q] at h
    cases h
  · omega
theorem holds : PySem.Challenge.rw_no0072_01.Holds := hd fun w s₀ s₁ mg mb a Y T hmg hgens args vals as hpre hlay hr => by
  obtain ⟨p, loose, mean, T⟩ := T
  have hT : TabsAt [(256, 252), (261, 259)] s₁.heap := List.forall_mem_cons.mpr ⟨⟨codeHd_of_K Y.1 (by kernel_rfl), Y.2 252 (.head _)⟩, List.forall_mem_cons.mpr ⟨⟨codeHd_of_K Y.1 (by kernel_rfl), Y.2 259 (.tail _ (.head _))⟩, List.forall_mem_nil _⟩⟩
  have G : Gd w (ghostOf s₁.heap [(256, 252), (261, 259)]) := ⟨ghost_K hT Y.1 (by kernel_rfl), _, _, _, _, _, ghost_top hT T⟩
  have C : Cx w (ghostOf s₁.heap [(256, 252), (261, 259)]) [] s₁.heap ((252, tabObj #[]) :: (259, tabObj #[]) :: []) := ⟨G, fun b o e => of_hideAll _ e, .nil, (fun p hp => nomatch hp),
    List.forall_mem_cons.mpr ⟨⟨Y.2 252 (.head _), hideAll_none _ (.head _), (fun p hp => nomatch hp)⟩, List.forall_mem_cons.mpr ⟨⟨Y.2 259 (.tail _ (.head _)), hideAll_none _ (.tail _ (.head _)), (fun p hp => nomatch hp)⟩, List.forall_mem_nil _⟩⟩⟩
  have h262 : mg "law" = some (.ref 262) := mg_of Y.1 T.g (by k_is)
  obtain rfl : a = 262 := by
    have := hmg.symm.trans h262
    cases this; rfl
  obtain ⟨hsh, hho⟩ := pre_splitW hpre
  obtain ⟨d, r, rfl, h1, h2⟩ := hasAllW_cons hsh
  obtain rfl := hasAllW_nil h2
  obtain ⟨xs, rfl, h3⟩ := hasW_list h1
  obtain ⟨ns, rfl⟩ := itemsI h3
  have h63 := most63 hho
  rw [List.length_map] at h63
  cases hr with
  | cons hr1 hr2 =>
    cases hr2
    cases hr1 with
    | @list sl o vs n _ _ ho hc hd hrs =>
      have hI := readsI hrs
      have hL : s₁.heap.IsList sl vs.toList.toArray := ⟨o, ho, hc, n, by rw [Array.toArray_toList]; exact hd⟩
      refine law_l (s := s₁) (k := s₁.toks) rmCaller (by decide) frCaller C (ghost_list hT hL) hI (by rw [hI.length]; exact h63) fun g' h' k' nx ps1 ps2 hg C' e1 e2 => ?_
      refine ⟨.inl ⟨.bool true, .bool true, [], rfl, fun _ => rfl, .bool _, by kernel_rfl, fun _ => ⟨.nil, fun _ h => nomatch h⟩⟩, ⟨fun b o e => ?_, fun b o e => ?_⟩, rfl, AllBare.of_eq hgens⟩
      · by_cases q1 : b = 252
        · subst q1
          rw [Y.2 252 (.head _)] at e
          cases e
          exact .inr (.inl ⟨((hT _ (.head _)).1.tab (hT _ (.head _)).2).isCodeTable, rfl, #[], ps1, rfl, by rw [Array.empty_append]; exact e1⟩)
        by_cases q2 : b = 259
        · subst q2
          rw [Y.2 259 (.tail _ (.head _))] at e
          cases e
          exact .inr (.inl ⟨((hT _ (.tail _ (.head _))).1.tab (hT _ (.tail _ (.head _))).2).isCodeTable, rfl, #[], ps2, rfl, by rw [Array.empty_append]; exact e2⟩)
        refine .inl (C'.keep b o (hg b o (ghost_ne e ?_)))
        intro q
        rcases List.mem_cons.mp q with q | q
        · exact q1 q
        · exact q2 (List.mem_singleton.mp q)
      · by_cases q1 : b = 252
        · subst q1; exact ⟨_, e1⟩
        by_cases q2 : b = 259
        · subst q2; exact ⟨_, e2⟩
        refine ⟨o, C'.keep b o (hg b o (ghost_ne e ?_))⟩
        intro q
        rcases List.mem_cons.mp q with q | q
        · exact q1 q
        · exact q2 (List.mem_singleton.mp q)
end Mine

theorem PySem.Challenge.cw_no0072_01_holds : PySem.Challenge.rw_no0072_01.Holds :=
  Mine.holds
