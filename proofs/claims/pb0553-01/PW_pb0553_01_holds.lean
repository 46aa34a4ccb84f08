import PyProof.Rows.All
import Wide.All
import OpenK.AllK
import Wide.FinOn
import Lean
import PySem.Challenge.RW_pb0553_01
open PySem PySem.W PySem.Spec PySem.Calls PyProof.Rows PyProof.Rows.LCg
set_option Elab.async false
set_option maxRecDepth 100000
set_option linter.all false
set_option compiler.extract_closed false
namespace Mine
section
noncomputable def vwKeep : List Nat := [52]
noncomputable def vw : Program := view PySem.Challenge.pw_pb0553_01 vwKeep
noncomputable abbrev lo0 : List Str := [Str.ofString "SwitchError", Str.ofString "FormError", Str.ofString "SizeError", Str.ofString "put_number", Str.ofString "get_number", Str.ofString "put16", Str.ofString "put32", Str.ofString "get16", Str.ofString "get32", Str.ofString "QUERY", Str.ofString "LEAVE", Str.ofString "REPORTS", Str.ofString "LEAST_SIZE", Str.ofString "QUERY_SIZE", Str.ofString "RECORD_SIZE", Str.ofString "LEAST_HEAD", Str.ofString "GROUP_MAC", Str.ofString "MOST_SOURCES", Str.ofString "sum_of_words", Str.ofString "with_sum", Str.ofString "time_of", Str.ofString "code_of", Str.ofString "GroupRecord", Str.ofString "IgmpMessage", Str.ofString "pack_igmp", Str.ofString "pack_query", Str.ofString "pack_records", Str.ofString "sources_at", Str.ofString "unpack_igmp", Str.ofString "unpack_query", Str.ofString "unpack_records", Str.ofString "IpView", Str.ofString "pack_view", Str.ofString "mac_of_group", Str.ofString "is_kept_local", Str.ofString "_law_pool", Str.ofString "_law_take", Str.ofString "_law_one", Str.ofString "_law_four", Str.ofString "_law_two", Str.ofString "_law_summed", Str.ofString "_law_group", Str.ofString "_law_address", Str.ofString "_law_records", Str.ofString "_law_drawn", Str.ofString "_law_refused", Str.ofString "_law_turned", Str.ofString "_law_packet_right"]
noncomputable abbrev pwC : Program := PySem.Challenge.pw_pb0553_01
theorem fence_none : ∀ s, fenceModules? pwC s = some s := fun s => by kernel_rfl
theorem opens_plain : opening pwC = plainProg pwC.main.scope.names := by kernel_rfl
theorem boot_size : ∀ w : World, ((boot_heap w.params).isNs mainGlobals && (Array.mk [] : Array GenState).size == 0, (boot_heap w.params).objs.size, (boot_heap w.params).nsMap mainGlobals "__annotations__") = (true, 11, some (Value.ref 6)) := fun w => by kernel_rfl
theorem left_gen {p : Program} (op : opening p = plainProg p.main.scope.names) (fence : ∀ s, fenceModules? p s = some s) {q : Program} {loose : List Str} {Xt : Shared → Bool} {α : Type} {Yf : Shared → α} {Ya : World → α} (row : String)
    (h : ∀ (b : Bool) (w : World), (fun os : OsState => (PySem.W.Fast.tw14082659384304107361 PySem.W.Fast.tw14364793385576792824 p (w.withFollow row b) 11 (some (Value.ref 6)) 5280 ⟨boot_heap (w.withFollow row b).params, Array.mk [], boot_drawn, boot_toks, os⟩ (topStub p)).map fun s =>
      ((staticsOk (importedModules p.main.body) (boot_heap (w.withFollow row b).params) s.heap && namesBound p s.heap && gensDone s && laidKept (boot_heap (w.withFollow row b).params) s.heap),
        PySem.W.Fast.tw4187177175401517315 q loose (importedModules p.main.body) Xt true s, Yf s)) = fun _ => some (true, openGood q loose, Ya (w.withFollow row b))) :
    LeftO p q loose Xt Yf Ya 5280 true := fun w => by
  show (openEnds treeTable p w 5280).map (fun s => (openSeen q loose (importedModules p.main.body) Xt true s, Yf s)) = some (openGood q loose, Ya w)
  have h' := h (w.params.followText row) w
  rw [World.withFollow_self] at h'
  rw [← PySem.W.Fast.te14082659384304107361, ← PySem.W.Fast.te14364793385576792824, ← PySem.W.Fast.te4187177175401517315] at h'
  obtain ⟨⟨hp, gs, d, k, os⟩, e, e'⟩ := Option.map_eq_some_iff.mp (boot_open op (N := 5280) (by decide) fence w)
  obtain ⟨rfl, rfl, rfl, rfl⟩ : hp = boot_heap w.params ∧ gs = Array.mk [] ∧ d = boot_drawn ∧ k = boot_toks := by simpa using e'
  obtain ⟨z1, z2, z3⟩ : _ ∧ _ ∧ _ := by simpa only [Prod.mk.injEq] using boot_size w
  obtain ⟨s₁, r, l⟩ := Option.map_eq_some_iff.mp (congrFun h' os)
  obtain ⟨l1, l2, l3⟩ : _ ∧ _ ∧ _ := by simpa only [Prod.mk.injEq] using l
  have t : topFrom treeTable p w 5280 ⟨boot_heap w.params, Array.mk [], boot_drawn, boot_toks, os⟩ = some s₁ := by
    unfold topFrom
    dsimp only
    rw [z1, z2, z3, r]
    show (match staticsOk (importedModules p.main.body) (boot_heap w.params) s₁.heap && namesBound p s₁.heap && gensDone s₁ && laidKept (boot_heap w.params) s₁.heap with | true => _ | false => _) = _
    rw [l1]
  unfold openEnds
  rw [e]
  show (topFrom treeTable p w 5280 _).map _ = _
  rw [t]
  show some (_, _) = _
  rw [l2, l3]
theorem left_of {q : Program} {loose : List Str} {Xt : Shared → Bool} {α : Type} {Yf : Shared → α} {Ya : World → α} (row : String)
    (h : ∀ (b : Bool) (w : World), (fun os : OsState => (PySem.W.Fast.tw14082659384304107361 PySem.W.Fast.tw14364793385576792824 pwC (w.withFollow row b) 11 (some (Value.ref 6)) 5280 ⟨boot_heap (w.withFollow row b).params, Array.mk [], boot_drawn, boot_toks, os⟩ (topStub pwC)).map fun s =>
      ((staticsOk (importedModules pwC.main.body) (boot_heap (w.withFollow row b).params) s.heap && namesBound pwC s.heap && gensDone s && laidKept (boot_heap (w.withFollow row b).params) s.heap),
        PySem.W.Fast.tw4187177175401517315 q loose (importedModules pwC.main.body) Xt true s, Yf s)) = fun _ => some (true, openGood q loose, Ya (w.withFollow row b))) :
    LeftO (OpenLaw.row PySem.Challenge.rw_pb0553_01).prog q loose Xt Yf Ya 5280 true := left_gen opens_plain fence_none row h
end

section
local macro_rules | `(tactic| o_head $_) => `(tactic| assumption)
theorem kay : PySem.Challenge.rw_pb0553_01.row.Holds → True := by
  intro h
  have h2 : PySem.Challenge.rw_pb0553_01.row.Holds := by k_head
  trivial
noncomputable def asK : List Addr := [2, 3, 15, 22, 24, 25, 27, 28, 29, 30, 31, 32, 35, 42, 43, 44, 47, 54, 55, 56, 59, 62, 63, 64, 66, 67, 69, 70, 71, 73, 74, 76, 77, 78, 80, 81, 83, 84, 85, 87, 88, 90, 91, 92, 94, 95, 97, 98, 99, 100, 102, 103, 105, 106, 107, 109, 110, 112, 113, 114, 116, 117, 119, 120, 121, 123, 124, 126, 127, 135, 136, 137, 139, 140, 142, 143, 144, 146, 147, 149, 150, 151, 152, 153, 154, 155, 165, 166, 167, 168, 170, 171, 173, 174, 175, 178, 179, 180, 181, 182, 183, 184, 187, 189, 190, 192, 193, 194, 197, 198, 199, 202, 203, 204, 207, 208, 209, 211, 212, 214, 215, 216, 218, 219, 221, 222, 223, 225, 226, 228, 229, 237, 239, 240, 242, 243, 244, 245, 246, 247, 248, 251, 252, 254, 255, 257, 258, 259, 261, 262, 264, 265, 266, 268, 269, 271, 272, 273, 275, 276, 278, 279, 280, 282, 283, 285, 286, 287, 289, 290, 292, 293, 294, 296, 297, 299, 300, 301, 303, 304, 306, 307, 308, 311, 312, 313, 315, 316, 318, 319, 320, 322, 323, 325, 326, 327, 330, 331, 332, 335, 336, 337, 339, 340, 342, 343, 344, 346, 347, 349, 350, 351, 353, 354, 356, 357, 358, 361, 362]
noncomputable abbrev Xt0 : Shared → Bool := fun s => xlAt vw [] s && recOk (RowW.records (OpenRow.toRowW (OpenLaw.row PySem.Challenge.rw_pb0553_01))) s
theorem asK_eq : ∀ P, asK = (kay.heap_1 P).map (·.1) := fun _ => by kernel_rfl
end

section
theorem left_f : ∀ w : World, (fun os : OsState => (PySem.W.Fast.tw14082659384304107361 PySem.W.Fast.tw14364793385576792824 pwC (w.withFollow "special-get-raises" false) 11 (some (Value.ref 6)) 5280 ⟨boot_heap (w.withFollow "special-get-raises" false).params, Array.mk [], boot_drawn, boot_toks, os⟩ (topStub pwC)).map fun s =>
      ((staticsOk (importedModules pwC.main.body) (boot_heap (w.withFollow "special-get-raises" false).params) s.heap && namesBound pwC s.heap && gensDone s && laidKept (boot_heap (w.withFollow "special-get-raises" false).params) s.heap),
        PySem.W.Fast.tw4187177175401517315 vw lo0 (importedModules pwC.main.body) Xt0 true s, (kmHook kay.heap_1 asK asK_eq [352, 359]).obs s)) = fun _ => some (true, openGood vw lo0, (kmHook kay.heap_1 asK asK_eq [352, 359]).val (w.withFollow "special-get-raises" false)) := fun w => by kernel_rfl
end

section
theorem left_t : ∀ w : World, (fun os : OsState => (PySem.W.Fast.tw14082659384304107361 PySem.W.Fast.tw14364793385576792824 pwC (w.withFollow "special-get-raises" true) 11 (some (Value.ref 6)) 5280 ⟨boot_heap (w.withFollow "special-get-raises" true).params, Array.mk [], boot_drawn, boot_toks, os⟩ (topStub pwC)).map fun s =>
      ((staticsOk (importedModules pwC.main.body) (boot_heap (w.withFollow "special-get-raises" true).params) s.heap && namesBound pwC s.heap && gensDone s && laidKept (boot_heap (w.withFollow "special-get-raises" true).params) s.heap),
        PySem.W.Fast.tw4187177175401517315 vw lo0 (importedModules pwC.main.body) Xt0 true s, (kmHook kay.heap_1 asK asK_eq [352, 359]).obs s)) = fun _ => some (true, openGood vw lo0, (kmHook kay.heap_1 asK asK_eq [352, 359]).val (w.withFollow "special-get-raises" true)) := fun w => by kernel_rfl
end

theorem rows_1 : True := by
  k_with "m k_head" => (
  refine holds_open (q := vw) (loose := lo0) (Xt := Xt0) (XP := XL vw []) (Yf := Hook.obs (kmHook kay.heap_1 asK asK_eq [352, 359])) (Ya := Hook.val (kmHook kay.heap_1 asK asK_eq [352, 359])) (YP := Hook.says (kmHook kay.heap_1 asK asK_eq [352, 359])) (N := 5280) ?h1 ?h2 ?h3 ?h4 XL.keeps (by rfl) (by rfl) (by rfl) ?h5 ?h6 ?h7 ?h8 ?h9 ?hw ?hc
  (case h5 => exact hR0)
  (case h1 => with_reducible exact left_all)
  (case h2 => exact (Hook.of (kmHook kay.heap_1 asK asK_eq [352, 359])))
  (case h3 => exact (Hook.keeps (kmHook kay.heap_1 asK asK_eq [352, 359])))
  (case h4 => exact hX0)
  (case h6 => rfl)
  (case h7 => assumption)
  (case h8 => with_reducible exact chains_law)
  (case h9 => with_reducible exact bare_law))
  trivial

section
theorem said_fast : PySem.W.Fast.tw9446332074065402090 PySem.Challenge.rw_pb0553_01 = true := by kernel_rfl
theorem said_law : PySem.Challenge.rw_pb0553_01.wellSaid = true := by rw [PySem.W.Fast.te9446332074065402090]; exact said_fast
theorem bare_law : (OpenLaw.row PySem.Challenge.rw_pb0553_01).prog.bare := ⟨rfl, rfl, rfl, rfl, rfl, by decide +kernel⟩
theorem chains_law : (chainsOk vw && opensWell (OpenLaw.row PySem.Challenge.rw_pb0553_01).prog && (frees (OpenRow.toRowW (OpenLaw.row PySem.Challenge.rw_pb0553_01)) && (OpenLaw.row PySem.Challenge.rw_pb0553_01).within.isEmpty)) = true := by decide +kernel
theorem left_all : LeftO (OpenLaw.row PySem.Challenge.rw_pb0553_01).prog vw lo0 Xt0 (kmHook kay.heap_1 asK asK_eq [352, 359]).obs (kmHook kay.heap_1 asK asK_eq [352, 359]).val 5280 true :=
  left_of "special-get-raises" (fun b w => by cases b; exact left_f w; exact left_t w)
theorem hX0 : ∀ s, Xt0 s = true → XL vw [] (s.heap.nsMap mainGlobals) s.heap := fun s e => xl_of s (Bool.and_eq_true_iff.mp e).1
theorem hR0 : ∀ s, Xt0 s = true → RecFacts (RowW.records (OpenRow.toRowW (OpenLaw.row PySem.Challenge.rw_pb0553_01))) s.heap := fun s e => recFacts_of (Bool.and_eq_true_iff.mp e).2
local macro_rules | `(tactic| o_law) => `(tactic| refine holds_law said_law fun said => ?_)
local macro_rules | `(tactic| k_head) => `(tactic| k_extra "m k_head")
open_top hd for PySem.Challenge.rw_pb0553_01
end

local macro_rules | `(tactic| omega) => `(tactic| first | (with_reducible assumption) | decide | (law_clear; lia) | lia)
section
noncomputable abbrev lo : List Str := looseW vw lo0 ++ (recsOf vw).map (·.name) ++ (litsOf vw).map (·.1) ++ (clssOf vw (looseW vw lo0)).map (·.name)
noncomputable abbrev pw : Program := PySem.Challenge.pw_pb0553_01

/-- a contract of a call: room of D frames and U units, the ledger it meets, what comes back and the ledger behind -/
def Ctr (w : World) (D U : Nat) (f : Value) (args : List Value) (led : List (Addr × Obj)) (P : Value → List (Addr × Obj) → Prop) : Prop :=
  ∀ (mean : ExcName → Option Value) (mg mb : Str → Option Value) (dp un : Nat) (gd : Option (List Code)) (cn : Str) (cs : Scope) (a : Addr) (ccd : Value) (cl : List (Str × Addr)) (outer : List Env) (A₀ : Around) (base h₀ : Heap) (L : Addr) (m : Str → Option Value) (s : Shared) (Q E : Value → Shared → Prop),
    Below A₀ base outer h₀ → Fr h₀ L s.heap m → (kay.heap_1 w.params).In h₀ → News h₀ L s.heap led → Top topProg lo mean mg mb h₀ → cs.kind = .function → dp + D < recursionLimit → un + U < cLine →
    (∀ (v : Value) (led' : List (Addr × Obj)) (h' : Heap) (tk' : Nat), P v led' → Fr h₀ L h' m → News h₀ L h' led' → Q v { s with heap := h', toks := tk' }) →
    wpAny (model pw w) (ktrTop dp un gd cn cs L a ccd cl outer) (call f args) Q E s

theorem Ctr.use {w : World} {D U : Nat} {f : Value} {args : List Value} {led : List (Addr × Obj)} {P : Value → List (Addr × Obj) → Prop} (C : Ctr w D U f args led P)
    {mean : ExcName → Option Value} {mg mb : Str → Option Value} {dp un : Nat} {gd : Option (List Code)} {cn : Str} {cs : Scope} {a : Addr} {ccd : Value} {cl : List (Str × Addr)} {outer : List Env} {A₀ : Around} {base h₀ : Heap} {L : Addr} {m : Str → Option Value} {s : Shared} {Q E : Value → Shared → Prop}
    (B : Below A₀ base outer h₀) (F : Fr h₀ L s.heap m) (X : (kay.heap_1 w.params).In h₀) (N : News h₀ L s.heap led) (T : Top topProg lo mean mg mb h₀) (hk : cs.kind = .function) (hdp : dp + D < recursionLimit) (hun : un + U < cLine)
    (h : ∀ (v : Value) (led' : List (Addr × Obj)) (h' : Heap) (tk' : Nat), P v led' → Fr h₀ L h' m → News h₀ L h' led' → Q v { s with heap := h', toks := tk' }) :
    wpAny (model pw w) (ktrTop dp un gd cn cs L a ccd cl outer) (call f args) Q E s := C _ _ _ _ _ _ _ _ _ _ _ _ _ _ _ _ _ _ _ _ B F X N T hk hdp hun h

/-- the bytes of a list of ints -/
def IsBy (v : Value) (ks : List Int) : Prop := ∃ b t, v = .bytes b t ∧ KBw.bInts b = ks

section
variable {M : Model} {prog : Program} {w : World} {A : Around} {E : Value → Shared → Prop} {s : Shared} {a b : Int} {t u : Tok} {Q : Value → Shared → Prop}
theorem noPy {a b : Int} (hb : 0 < b) (hs : b < 18446744073709551616) : Builtin.divisionGoesByPylong a b = false :=
  PyProof.noPylong_of_log2 (Nat.lt_of_lt_of_le ((Nat.log2_lt (by omega)).mpr (show b.natAbs < 2 ^ 64 by omega)) (by decide))
end
end

section
abbrev tupObj (vs : List Value) (n : Nat) : Obj := { cls := .type "tuple", data := .seq vs.toArray n }

section
variable {prog : Program} {w : World} {A : Around} {E : Value → Shared → Prop} {s : Shared} {h₀ : Heap} {L : Addr} {m : Str → Option Value} {env : Env}

theorem compEnd_mono {s₁ : Shared} {I C D : Addr} {oI oC oD : Obj} {S : List (Addr × Obj) → Prop} {r r' : Value → List (Addr × Obj) → Prop} {y : Value} {s₂ : Shared}
    (h : CompEnd h₀ L m s₁ I oI C oC D oD S r y s₂) (k : ∀ y l, r y l → r' y l) : CompEnd h₀ L m s₁ I oI C oC D oD S r' y s₂ := by
  obtain ⟨h', tk, news', a, b, c, d, e, f⟩ := h
  exact ⟨h', tk, news', a, b, c, d, e, k _ _ f⟩

def CompTurn (prog : Program) (w : World) (A : Around) (h₀ : Heap) (L : Addr) (m : Str → Option Value) (env : Env) (elt : Expr) (x : Str) (scope : Scope) (cl : List (Str × Addr)) (s₂ : Shared) (S : List (Addr × Obj) → Prop) (P : Nat → Value → Prop) (n : Nat) (J : Nat → List Value → List (Addr × Obj) → Prop) : Prop :=
  ∀ (i : Nat) (ys : List Value) (news₁ : List (Addr × Obj)) (v : Value) (I : Addr) (oI : Obj) (C : Addr) (oC : Obj) (D : Addr) (m₂ : Str → Option Value) (h : Heap) (tk : Nat) (E' : Value → Shared → Prop),
    i < n → ys.length = i → J i ys news₁ → P i v → NsObj oC m₂ → m₂ x = some v → Fr h₀ L h m → News h₀ L h ((I, oI) :: (C, oC) :: (D, lst ys) :: news₁) → Off3 I C D news₁ → ((@Ne Nat I C) ∧ (@Ne Nat I D) ∧ (@Ne Nat C D)) →
      wpAny (model prog w) A (eval elt (compEnvC scope cl C env)) (CompEnd h₀ L m { s₂ with heap := h, toks := tk } I oI C oC D (lst ys) S (fun y news' => J (i + 1) (ys ++ [y]) news')) E' { s₂ with heap := h, toks := tk }

theorem compRest_of {elt : Expr} {x : Str} {scope : Scope} {cl : List (Str × Addr)} {s₂ : Shared} {S : List (Addr × Obj) → Prop} {P : Nat → Value → Prop} {n : Nat} {J : Nat → List Value → List (Addr × Obj) → Prop} {Fin : List Value → List (Addr × Obj) → Prop}
    (turn : CompTurn prog w A h₀ L m env elt x scope cl s₂ S P n J) (fin : ∀ ys news, ys.length = n → J n ys news → Fin ys news) :
    ∀ (k i : Nat) (ys : List Value) (news : List (Addr × Obj)), i + k = n → ys.length = i → J i ys news → CompRest prog w A h₀ L m env elt x scope cl s₂ S P Fin k i ys news
  | 0, i, ys, news, e, hl, hj => by
    refine CompRest.zero (fin ys news (by omega) ?_)
    have : i = n := by omega
    exact this ▸ hj
  | k + 1, i, ys, news, e, hl, hj => by
    refine CompRest.succ fun v I oI C oC D m₂ h tk E' hP hC hx F N off ne => ?_
    refine wpAny_mono (turn i ys news v I oI C oC D m₂ h tk E' (by omega) hl hj hP hC hx F N off ne) (fun y s₄ h₄ => compEnd_mono h₄ fun y l hj' => ?_) fun _ _ e => e
    exact compRest_of turn fin k (i + 1) (ys ++ [y]) l (by omega) (by rw [List.length_append, List.length_singleton, hl]) hj'

def CompAt (prog : Program) (w : World) (A : Around) (h₀ : Heap) (L : Addr) (m : Str → Option Value) (env : Env) (elt : Expr) (x : Str) (scope : Scope) (cl : List (Str × Addr)) (Q : Value → Shared → Prop) (it : Value) (s₂ : Shared) : Prop :=
  ∃ (I : Addr) (fp : List Addr) (n : Nat) (P : Nat → Value → Prop) (St : Nat → Heap → Prop) (S : List (Addr × Obj) → Prop) (news : List (Addr × Obj)) (J : Nat → List Value → List (Addr × Obj) → Prop),
    it = .ref I ∧ Walks prog w A I fp [I] n P St ∧ n ≤ sizeLine ∧ (∀ i h, St i h → ∃ o, h.get? I = some o) ∧
    (∀ i h h' o nw, St i h → h.get? I = some o → h'.get? I = some o → (∀ b o, h₀.get? b = some o → h'.get? b = some o) → News h₀ L h' nw → S nw → St i h') ∧
    St 0 s₂.heap ∧ (∀ b ∈ fp, b < s₂.heap.objs.size) ∧ Fr h₀ L s₂.heap m ∧ News h₀ L s₂.heap news ∧ L ≠ I ∧ h₀.get? I = none ∧ (∀ p ∈ news, p.1 ≠ I) ∧ S news ∧ J 0 [] news ∧
    CompTurn prog w A h₀ L m env elt x scope cl s₂ S P n J ∧ (∀ ys news', ys.length = n → J n ys news' → FinE h₀ L m s₂ Q ys news')

theorem comp_gen {elt iter : Expr} {x : Str} {px : Pos} {scope : Scope} {cl : List (Str × Addr)} {pos : Pos} {Q : Value → Shared → Prop} (_F₀ : Fr h₀ L s.heap m)
    (hclos : closureFor scope env = pure cl) (hcell : ∀ y ∈ scope.names, y.2 ≠ .cell) (hkind : scope.kind = .function)
    (hnames : ∀ y ∈ scope.names, y.2 = .local → scope.names.lookup y.1 = some .local) (hx : scope.names.lookup x = some .local)
    (h : wpAny (model prog w) A (eval iter env) (fun xv s₁ => wpAny (model prog w) A (pyIter xv) (CompAt prog w A h₀ L m env elt x scope cl Q) E s₁) E s)
    (hs : ∀ x, foldedSetIterable iter env x = pure x) :
    wpAny (model prog w) A (eval (.ListComp elt [⟨.Name x px, iter, [], 0⟩] scope pos) env) Q E s := by
  rw [eval_ListComp]
  refine wpAny_comprehension_free (use := none) rfl hs hclos hkind hnames (wpAny_mono h (fun xv s₁ h₁ => wpAny_mono h₁ (fun it s₂ h₂ => ?_) fun _ _ e => e) fun _ _ e => e)
  obtain ⟨I, fp, n, P, St, S, news, J, rfl, W, hsz, hIo, hSt, hst, hfp, F, N, hIL, hI₀, off, hS, hj, turn, fin⟩ := h₂
  refine block_U W hsz hIo hSt hcell hkind hx hst hfp F N hIL hI₀ off hS (compRest_of turn fin n 0 [] news (by omega) rfl hj) ?_
  intro D C h tk m' ys news' F' N' o1 hn hC₀ hD₀ hCL hDL hCD offC fin'
  refine ⟨m', hn, fun h'' hs'' => fin' D h'' tk (F'.change hs'' hCL hC₀) (fun p hp => ?_) o1⟩
  refine ⟨hs''.extBut _ _ ?_ (N' p hp).1, (N' p hp).2⟩
  rcases List.mem_cons.mp hp with rfl | hp
  · exact Ne.symm hCD
  · exact offC p hp

theorem comp_range {elt : Expr} {x : Str} {scope : Scope} {cl : List (Str × Addr)} {Q : Value → Shared → Prop} {r : Addr} {a b c : Int} {t u v : Tok} {n : Nat} {news : List (Addr × Obj)} (J : Nat → List Value → List (Addr × Obj) → Prop)
    (hh : A.handled = none) (F : Fr h₀ L s.heap m) (N : News h₀ L s.heap news) (hr : IsRange s.heap r a b c t u v) (hsm : Builtin.Range.small a b c = true) (hn : Builtin.Range.rangeSize a b c = ((n : Nat) : Int)) (hsz : n ≤ sizeLine)
    (hj : J 0 [] news)
    (turn : ∀ g, CompTurn prog w A h₀ L m env elt x scope cl { s with heap := g } (fun _ => True) (fun i v => ∃ t, v = .int (a + (i : Int) * c) t) n J)
    (fin : ∀ ys news', ys.length = n → J n ys news' → FinE h₀ L m s Q ys news') :
    wpAny (model prog w) A (pyIter (.ref r)) (CompAt prog w A h₀ L m env elt x scope cl Q) E s := by
  refine wpAny_pyIter_range hr hsm ?_
  refine ⟨s.heap.objs.size, _, n, _, _, (fun _ => True), news, J, rfl, Walks.range hh s.heap.objs.size a c n, hsz, fun i h st => ⟨_, st⟩, ?_, ?_, ?_,
    F.keeps fun _ _ e => Heap.get?_push_of_some _ e, N.grown fun _ _ e => Heap.get?_push_of_some _ e, Nat.ne_of_lt F.ns.lt, next_is_new F, fun p hp => Nat.ne_of_lt (Heap.lt_size (N p hp).1), trivial, hj, turn _, fin⟩
  · intro i h h' o nw st e e' _ _ _
    have st' : h.get? s.heap.objs.size = some _ := st
    show h'.get? s.heap.objs.size = some _
    rw [e', ← e]; exact st'
  · show IsRangeIter _ _ _ _ _
    rw [hn]; simpa using Heap.get?_push_size _ rfl
  · intro b hb
    rw [List.mem_singleton.mp hb]
    show s.heap.objs.size < (s.heap.push _).objs.size
    rw [Heap.size_push]; exact Nat.lt_succ_self _

theorem comp_list {elt : Expr} {x : Str} {scope : Scope} {cl : List (Str × Addr)} {Q : Value → Shared → Prop} {r : Addr} {vs : List Value} {k : Nat} {news : List (Addr × Obj)} (J : Nat → List Value → List (Addr × Obj) → Prop)
    (hh : A.handled = none) (F : Fr h₀ L s.heap m) (N : News h₀ L s.heap news) (hr : (r, PySem.W.listOf vs.toArray k) ∈ news) (hsz : vs.length ≤ sizeLine)
    (hj : J 0 [] news)
    (turn : ∀ g, CompTurn prog w A h₀ L m env elt x scope cl { s with heap := g } (fun nw => (r, PySem.W.listOf vs.toArray k) ∈ nw) (fun i v => vs[i]? = some v) vs.length J)
    (fin : ∀ ys news', ys.length = vs.length → J vs.length ys news' → FinE h₀ L m s Q ys news') :
    wpAny (model prog w) A (pyIter (.ref r)) (CompAt prog w A h₀ L m env elt x scope cl Q) E s := by
  have ht : s.heap.IsList r vs.toArray := ⟨_, (N _ hr).1, rfl, k, rfl⟩
  have hlt : r < s.heap.objs.size := Heap.lt_size (N _ hr).1
  refine wpAny_pyIter_list ht ?_
  have W := Walks.list (prog := prog) (w := w) hh s.heap.objs.size r (Nat.ne_of_lt hlt) vs.toArray
  rw [show vs.toArray.size = vs.length from by simp] at W
  refine ⟨s.heap.objs.size, _, vs.length, _, _, (fun nw => (r, PySem.W.listOf vs.toArray k) ∈ nw), news, J, rfl, W, hsz, fun i h st => by obtain ⟨o, e, _⟩ := st.1; exact ⟨o, e⟩, ?_, ?_, ?_,
    F.keeps fun _ _ e => Heap.get?_push_of_some _ e, N.grown fun _ _ e => Heap.get?_push_of_some _ e, Nat.ne_of_lt F.ns.lt, next_is_new F, fun p hp => Nat.ne_of_lt (Heap.lt_size (N p hp).1), hr, hj, ?_, fin⟩
  · intro i h h' o nw st e e' _ N' hS
    refine ⟨?_, ⟨_, (N' _ hS).1, rfl, k, rfl⟩⟩
    obtain ⟨o', q, r'⟩ := st.1
    rw [e] at q; cases q
    exact ⟨o, e', r'⟩
  · exact ⟨⟨_, Heap.get?_push_size _ rfl, rfl, rfl⟩, ⟨_, Heap.get?_push_of_some _ (N _ hr).1, rfl, k, rfl⟩⟩
  · intro b hb
    show b < (s.heap.push _).objs.size
    rw [Heap.size_push]
    rcases List.mem_cons.mp hb with rfl | hb
    · exact Nat.lt_succ_self _
    · rw [List.mem_singleton.mp hb]; exact Nat.lt_succ_of_lt hlt
  · have := turn (s.heap.push { cls := .type "list_iterator", data := .fields #[.ref r, .int 0 0] })
    simpa using this
end

section
variable {M : Model} {A : Around} {E : Value → Shared → Prop} {s : Shared} {h₀ : Heap} {L C c : Addr} {o : Obj} {news : List (Addr × Obj)} {scope : Scope} {cl : List (Str × Addr)} {env : Env} {x : Str} {pos : Pos} {v : Value} {Q : Value → Shared → Prop}
end
/-! loops -/
section
variable {prog : Program} {w : World} {A : Around} {E : Value → Shared → Prop} {s : Shared} {env : Env} {h₀ : Heap} {x : Str} {body : List Stmt} {Q : Flow → Shared → Prop}

def MyTurnEnd (h₀ : Heap) (L : Addr) (I : Addr) (oI : Obj) (J : (Str → Option Value) → List (Addr × Obj) → Prop) (s₁ s₂ : Shared) : Prop :=
  ∃ h' tk m' nx, s₂ = { s₁ with heap := h', toks := tk } ∧ Fr h₀ L h' m' ∧ News h₀ L h' ((I, oI) :: nx) ∧ (∀ p ∈ nx, p.1 ≠ I) ∧ J m' nx
def MyTurnPost (h₀ : Heap) (L : Addr) (I : Addr) (oI : Obj) (J : (Str → Option Value) → List (Addr × Obj) → Prop) (s₁ : Shared) (Q : Flow → Shared → Prop) (f : Flow) (s₂ : Shared) : Prop :=
  match f with
  | .ret v => Q (.ret v) s₂
  | .brk => Q .next s₂
  | _ => MyTurnEnd h₀ L I oI J s₁ s₂
theorem MyTurnEnd.intro {L : Addr} {I : Addr} {oI : Obj} {J : (Str → Option Value) → List (Addr × Obj) → Prop} {s₁ : Shared} {h' : Heap} {tk : Nat} {m' : Str → Option Value} {all nx : List (Addr × Obj)}
    (F : Fr h₀ L h' m') (N : News h₀ L h' all) (hs : ∀ p ∈ (I, oI) :: nx, p ∈ all) (off : ∀ p ∈ nx, p.1 ≠ I) (hJ : J m' nx) : MyTurnEnd h₀ L I oI J s₁ { s₁ with heap := h', toks := tk } :=
  ⟨h', tk, m', nx, rfl, F, fun p hp => N p (hs p hp), off, hJ⟩

theorem turn_next {L : Addr} {I : Addr} {oI : Obj} {J : (Str → Option Value) → List (Addr × Obj) → Prop} {s₁ : Shared} {h' : Heap} {tk : Nat} {m' : Str → Option Value} {all nx : List (Addr × Obj)}
    (F : Fr h₀ L h' m') (N : News h₀ L h' all) (hs : ∀ p ∈ (I, oI) :: nx, p ∈ all) (off : ∀ p ∈ nx, p.1 ≠ I) (hJ : J m' nx) : MyTurnPost h₀ L I oI J s₁ Q .next { s₁ with heap := h', toks := tk } := MyTurnEnd.intro F N hs off hJ
theorem for_gen {I : Addr} {fp : List Addr} {n : Nat} {P : Nat → Value → Prop} {St : Nat → Heap → Prop} {m₀ : Str → Option Value} {news : List (Addr × Obj)} (keep : List (Addr × Obj)) (J : Nat → (Str → Option Value) → List (Addr × Obj) → Prop)
    (W : Walks prog w A I fp [I] n P St) (hfpI : I ∈ fp) (hfp : ∀ b ∈ fp, b = I ∨ ∃ o, (b, o) ∈ keep) (hLf : env.locals ∉ fp) (hI : h₀.get? I = none) (hnI : ∀ p ∈ news, p.1 ≠ I) (hst : St 0 s.heap) (hIo : ∀ i h, St i h → ∃ o, h.get? I = some o) (F : Fr h₀ env.locals s.heap m₀) (N : News h₀ env.locals s.heap news)
    (hk : ∀ i m nx, J i m nx → ∀ p ∈ keep, p ∈ nx) (hj : J 0 m₀ news)
    (turn : ∀ i v m₁ news₁ h tk oI, i < n → P i v → J i m₁ news₁ → (∀ p ∈ news₁, p.1 ≠ I) → Fr h₀ env.locals h (fun y => if y = x then some v else m₁ y) → News h₀ env.locals h ((I, oI) :: news₁) →
      wpAny (model prog w) A (execs body env) (MyTurnPost h₀ env.locals I oI (J (i + 1)) { s with heap := h, toks := tk } Q) E { s with heap := h, toks := tk })
    (done : ∀ m₁ news₁ h tk, J n m₁ news₁ → Fr h₀ env.locals h m₁ → News h₀ env.locals h news₁ → Q .next { s with heap := h, toks := tk }) :
    LoopAtV prog w A h₀ env x body Q E (.ref I) s := by
  refine ⟨I, fp, [I], n, P, St, m₀, news, J, rfl, W, hLf, ?_, ?_, hst, F, N, hj, ?_, ?_⟩
  · intro b hb; rw [List.mem_singleton.mp hb]; exact hI
  · intro p hp hq; exact hnI p hp (List.mem_singleton.mp hq)
  · rintro i v m₁ news₁ s₁ own ⟨hh', tk', rfl⟩ hin hP hJ hoff hown hget hall hst₁ F₁ N₁
    obtain ⟨oI, hoI⟩ := hIo _ _ hst₁
    have hIo' : (I, oI) ∈ own := hall I hfpI hI oI hoI
    have hnI' : ∀ p ∈ news₁, p.1 ≠ I := fun p hp q => hoff p hp (List.mem_singleton.mpr q)
    refine wpAny_mono (turn i v m₁ news₁ hh' tk' oI hin hP hJ hnI' F₁ (fun p hp => ?_)) (fun f s₂ p => ?_) fun _ _ e => e
    · rcases List.mem_cons.mp hp with rfl | hp
      · exact N₁ _ (List.mem_append_left _ hIo')
      · exact N₁ _ (List.mem_append_right _ hp)
    · have fin : MyTurnEnd h₀ env.locals I oI (J (i + 1)) { s with heap := hh', toks := tk' } s₂ → LoopStepU h₀ env.locals [I] own (J (i + 1)) { s with heap := hh', toks := tk' } .next s₂ := by
        rintro ⟨h', tk, m', nx, e, F', N', off, hm⟩
        refine ⟨rfl, h', tk, m', nx, e, F', fun p hp => ?_, fun p hp hq => off p hp (List.mem_singleton.mp hq), hm⟩
        rcases List.mem_append.mp hp with hp | hp
        · rcases hfp _ (hown p hp) with q | ⟨o, q⟩
          · have e1 := hget p hp
            have e2 : (Shared.heap { s with heap := hh', toks := tk' }).get? I = some oI := hoI
            rw [q, e2] at e1
            have : p = (I, oI) := by rw [← q]; exact Prod.ext rfl (Option.some.inj e1).symm
            rw [this]
            exact N' _ (List.mem_cons_self ..)
          · have e1 := hget p hp
            have e2 := (N₁ _ (List.mem_append_right own (hk _ _ _ hJ _ q))).1
            have e2' : (Shared.heap { s with heap := hh', toks := tk' }).get? p.1 = some o := e2
            rw [e2'] at e1
            have : p = (p.1, o) := Prod.ext rfl (Option.some.inj e1).symm
            rw [this]
            exact N' _ (List.mem_cons_of_mem _ (hk _ _ _ hm _ q))
        · exact N' _ (List.mem_cons_of_mem _ hp)
      cases f with
      | ret v => exact .ret p
      | brk => exact .brk p
      | next => exact .next (fin p)
      | cont => exact .cont (fin p)
  · rintro h' tk m' news' F' N' _ hJ
    exact done m' news' h' tk hJ F' N'

theorem for_range {r : Addr} {a b c : Int} {t u v : Tok} {n : Nat} {m₀ : Str → Option Value} {news : List (Addr × Obj)} (J : Nat → (Str → Option Value) → List (Addr × Obj) → Prop)
    (hh : A.handled = none) (F : Fr h₀ env.locals s.heap m₀) (N : News h₀ env.locals s.heap news) (hr : IsRange s.heap r a b c t u v) (hsm : Builtin.Range.small a b c = true) (hn : Builtin.Range.rangeSize a b c = ((n : Nat) : Int))
    (hj : J 0 m₀ news)
    (turn : ∀ I i t m₁ news₁ h tk oI, i < n → J i m₁ news₁ → (∀ p ∈ news₁, p.1 ≠ I) → Fr h₀ env.locals h (fun y => if y = x then some (.int (a + (i : Int) * c) t) else m₁ y) → News h₀ env.locals h ((I, oI) :: news₁) →
      wpAny (model prog w) A (execs body env) (MyTurnPost h₀ env.locals I oI (J (i + 1)) { s with heap := h, toks := tk } Q) E { s with heap := h, toks := tk })
    (done : ∀ m₁ news₁ h tk, J n m₁ news₁ → Fr h₀ env.locals h m₁ → News h₀ env.locals h news₁ → Q .next { s with heap := h, toks := tk }) :
    wpAny (model prog w) A (pyIter (.ref r)) (fun it s₂ => LoopAtV prog w A h₀ env x body Q E it s₂) E s := by
  refine wpAny_pyIter_range hr hsm ?_
  refine for_gen [] J (Walks.range hh s.heap.objs.size a c n) (List.mem_singleton.mpr rfl) (fun b hb => .inl (List.mem_singleton.mp hb)) ?_ (next_is_new F) (fun p hp => Nat.ne_of_lt (Heap.lt_size (N p hp).1)) ?_ (fun i h st => ⟨_, st⟩)
    (F.keeps fun _ _ e => Heap.get?_push_of_some _ e) (N.grown fun _ _ e => Heap.get?_push_of_some _ e) (fun _ _ _ _ _ hp => nomatch hp) hj ?_ done
  · intro hm
    exact absurd F.ns.lt ((List.mem_singleton.mp hm) ▸ Nat.lt_irrefl _)
  · show IsRangeIter _ _ _ _ _
    rw [hn]; simpa using Heap.get?_push_size _ rfl
  · rintro i v m₁ news₁ h tk oI hi ⟨t, rfl⟩ hJ hoff F₁ N₁
    exact turn _ i t m₁ news₁ h tk oI hi hJ hoff F₁ N₁

theorem for_bytes {b : Array UInt8} {tb : Tok} {ks : List Int} {m₀ : Str → Option Value} {news : List (Addr × Obj)} (J : Nat → (Str → Option Value) → List (Addr × Obj) → Prop)
    (hk : KBw.bInts b = ks) (hh : A.handled = none) (F : Fr h₀ env.locals s.heap m₀) (N : News h₀ env.locals s.heap news) (hj : J 0 m₀ news)
    (turn : ∀ I i k t m₁ news₁ h tk oI, ks[i]? = some k → 0 ≤ k → k < 256 → J i m₁ news₁ → (∀ p ∈ news₁, p.1 ≠ I) → Fr h₀ env.locals h (fun y => if y = x then some (.int k t) else m₁ y) → News h₀ env.locals h ((I, oI) :: news₁) →
      wpAny (model prog w) A (execs body env) (MyTurnPost h₀ env.locals I oI (J (i + 1)) { s with heap := h, toks := tk } Q) E { s with heap := h, toks := tk })
    (done : ∀ m₁ news₁ h tk, J ks.length m₁ news₁ → Fr h₀ env.locals h m₁ → News h₀ env.locals h news₁ → Q .next { s with heap := h, toks := tk }) :
    wpAny (model prog w) A (pyIter (.bytes b tb)) (fun it s₂ => LoopAtV prog w A h₀ env x body Q E it s₂) E s := by
  subst hk
  refine KBw.pyIter_bytes ?_
  have W := KBw.walks (prog := prog) (w := w) hh s.heap.objs.size b tb
  rw [← KBw.ints_length b] at W
  refine for_gen [] J W (List.mem_singleton.mpr rfl) (fun b hb => .inl (List.mem_singleton.mp hb)) ?_ (next_is_new F) (fun p hp => Nat.ne_of_lt (Heap.lt_size (N p hp).1)) ⟨_, Heap.get?_push_size _ rfl, rfl, rfl⟩ (fun i h st => by obtain ⟨o, e, _⟩ := st; exact ⟨o, e⟩)
    (F.keeps fun _ _ e => Heap.get?_push_of_some _ e) (N.grown fun _ _ e => Heap.get?_push_of_some _ e) (fun _ _ _ _ _ hp => nomatch hp) hj ?_ done
  · intro hm
    exact absurd F.ns.lt ((List.mem_singleton.mp hm) ▸ Nat.lt_irrefl _)
  · rintro i v m₁ news₁ h tk oI hi ⟨c, u, hc, rfl⟩ hJ hoff F₁ N₁
    have e := KBw.ints_get hc
    have hb := KBw.ints_in (b := b) (List.mem_of_getElem? e)
    exact turn _ i _ u m₁ news₁ h tk oI e hb.1 hb.2 hJ hoff F₁ N₁
end

theorem fr_set {h₀ h : Heap} {L : Addr} {m : Str → Option Value} {x : Str} {v : Value} (F : Fr h₀ L h m) (hm : m x = some v) : Fr h₀ L h (fun y => if y = x then some v else m y) := by
  have e : (fun y => if y = x then some v else m y) = m := by
    funext y
    by_cases hy : y = x
    · rw [if_pos hy, hy, hm]
    · rw [if_neg hy]
  rw [e]; exact F
theorem slice_mid {ks : List Int} {i j : Int} (h0 : 0 ≤ i) (h1 : i ≤ j) (h2 : j ≤ ks.length) :
    (ks.drop ((some i).elim 0 (clipAt ks.length))).take ((some j).elim ks.length (clipAt ks.length) - (some i).elim 0 (clipAt ks.length)) = (ks.drop i.toNat).take (j - i).toNat := by
  have e1 : clipAt ks.length i = i.toNat := by
    have := clipAt_nat ks.length i.toNat
    rw [Int.toNat_of_nonneg h0] at this
    rw [this]; omega
  have e2 : clipAt ks.length j = j.toNat := by
    have := clipAt_nat ks.length j.toNat
    rw [Int.toNat_of_nonneg (by omega)] at this
    rw [this]; omega
  show (ks.drop (clipAt ks.length i)).take (clipAt ks.length j - clipAt ks.length i) = _
  rw [e1, e2]
  congr 1
  omega
/-! ints -/
theorem bitAnd_255 (a : Int) : Builtin.bitAnd a 255 = a % 256 := kbt_mask a 8
theorem nat_and_byte (f k : Nat) (h : k < 256) : (f * 256) &&& k = 0 := by
  refine Nat.eq_of_testBit_eq fun i => ?_
  rw [Nat.testBit_and, Nat.zero_testBit]
  by_cases hi : 8 ≤ i
  · have : k.testBit i = false := Nat.testBit_lt_two_pow (Nat.lt_of_lt_of_le h (Nat.pow_le_pow_right (by decide) hi : 2 ^ 8 ≤ 2 ^ i))
    rw [this, Bool.and_false]
  · have : (f * 256).testBit i = false := by
      rw [show f * 256 = f <<< 8 from by rw [Nat.shiftLeft_eq], Nat.testBit_shiftLeft]
      simp [hi]
    rw [this, Bool.false_and]
theorem bitOr_byte {f k : Int} (hf : 0 ≤ f) (h0 : 0 ≤ k) (h1 : k < 256) : Builtin.bitOr (f * 256) k = f * 256 + k := by
  rw [bitOr_and, bitAnd_pp (by omega) h0]
  have e1 : (f * 256).toNat = f.toNat * 256 := by omega
  rw [e1, nat_and_byte _ _ (by omega)]
  omega
section
variable {M : Model} {prog : Program} {w : World} {A : Around} {E : Value → Shared → Prop} {s : Shared} {a b c : Int} {t u : Tok} {Q : Value → Shared → Prop}
end
section
variable {prog : Program} {w : World} {A : Around} {E : Value → Shared → Prop} {s : Shared} {value slice : PySem.Expr} {b : Array UInt8} {t tl tu : Tok} {h₀ : Heap} {L : Addr} {m : Str → Option Value} {news : List (Addr × Obj)} {Q : Value → Shared → Prop} {ks : List Int} {i j : Int}
theorem my_slice_ij (hF : Fr h₀ L s.heap m) (hN : News h₀ L s.heap news) (hk : KBw.bInts b = ks) (h0 : 0 ≤ i) (h1 : i ≤ j) (h2 : j ≤ ks.length) (hz : ks.length ≤ 16777216)
    (h : ∀ h' t' k b', Fr h₀ L h' m → News h₀ L h' news → KBw.bInts b' = (ks.drop i.toNat).take (j - i).toNat → Q (.bytes b' t') { s with heap := h', toks := k })
    (hs : subscripted slice false (.bytes b t) (.ref s.heap.objs.size) = operate [.ref s.heap.objs.size, .bytes b t] (getItem (.bytes b t) (.ref s.heap.objs.size)))
    (ht : ∀ r, letTemporaryGo value (.bytes b t) r = pure ()) :
    wpAny (model prog w) A (subscriptTail value slice (.bytes b t) (.ref s.heap.objs.size)) Q E { s with heap := s.heap.push { cls := .type "slice", data := .fields #[.int i tl, .int j tu, .none] } } :=
  KBc.slice_K hF hN hk (by constructor) (by constructor) hz (fun h' t' k F N e => h h' t' k _ F N (by rw [e, slice_mid h0 h1 h2])) hs ht
theorem my_slice_j (hF : Fr h₀ L s.heap m) (hN : News h₀ L s.heap news) (hk : KBw.bInts b = ks) (h0 : 0 ≤ j) (h2 : j ≤ ks.length) (hz : ks.length ≤ 16777216)
    (h : ∀ h' t' k b', Fr h₀ L h' m → News h₀ L h' news → KBw.bInts b' = ks.take j.toNat → Q (.bytes b' t') { s with heap := h', toks := k })
    (hs : subscripted slice false (.bytes b t) (.ref s.heap.objs.size) = operate [.ref s.heap.objs.size, .bytes b t] (getItem (.bytes b t) (.ref s.heap.objs.size)))
    (ht : ∀ r, letTemporaryGo value (.bytes b t) r = pure ()) :
    wpAny (model prog w) A (subscriptTail value slice (.bytes b t) (.ref s.heap.objs.size)) Q E { s with heap := s.heap.push { cls := .type "slice", data := .fields #[.none, .int j tu, .none] } } :=
  KBc.slice_K hF hN hk (by constructor) (by constructor) hz (fun h' t' k F N e => h h' t' k _ F N (by
    rw [e]
    show (ks.drop 0).take (clipAt ks.length j - 0) = _
    rw [clipAt_in h0 h2, List.drop_zero, Nat.sub_zero])) hs ht
theorem my_slice_neg (hF : Fr h₀ L s.heap m) (hN : News h₀ L s.heap news) (hk : KBw.bInts b = ks) (hz : ks.length ≤ 16777216)
    (h : ∀ h' t' k b', Fr h₀ L h' m → News h₀ L h' news → KBw.bInts b' = ks.take (ks.length - 1) → Q (.bytes b' t') { s with heap := h', toks := k })
    (hs : subscripted slice false (.bytes b t) (.ref s.heap.objs.size) = operate [.ref s.heap.objs.size, .bytes b t] (getItem (.bytes b t) (.ref s.heap.objs.size)))
    (ht : ∀ r, letTemporaryGo value (.bytes b t) r = pure ()) :
    wpAny (model prog w) A (subscriptTail value slice (.bytes b t) (.ref s.heap.objs.size)) Q E { s with heap := s.heap.push { cls := .type "slice", data := .fields #[.none, .int (-1) tu, .none] } } :=
  KBc.slice_K hF hN hk (by constructor) (by constructor) hz (fun h' t' k F N e => h h' t' k _ F N (by
    rw [e]
    show (ks.drop 0).take (clipAt ks.length (-((1 : Nat) : Int)) - 0) = _
    rw [clipAt_neg _ 1 (Nat.le_refl _), List.drop_zero, Nat.sub_zero])) hs ht
theorem my_slice_i (hF : Fr h₀ L s.heap m) (hN : News h₀ L s.heap news) (hk : KBw.bInts b = ks) (h0 : 0 ≤ i) (h2 : i ≤ ks.length) (hz : ks.length ≤ 16777216)
    (h : ∀ h' t' k b', Fr h₀ L h' m → News h₀ L h' news → KBw.bInts b' = ks.drop i.toNat → Q (.bytes b' t') { s with heap := h', toks := k })
    (hs : subscripted slice false (.bytes b t) (.ref s.heap.objs.size) = operate [.ref s.heap.objs.size, .bytes b t] (getItem (.bytes b t) (.ref s.heap.objs.size)))
    (ht : ∀ r, letTemporaryGo value (.bytes b t) r = pure ()) :
    wpAny (model prog w) A (subscriptTail value slice (.bytes b t) (.ref s.heap.objs.size)) Q E { s with heap := s.heap.push { cls := .type "slice", data := .fields #[.int i tl, .none, .none] } } :=
  KBc.slice_K hF hN hk (by constructor) (by constructor) hz (fun h' t' k F N e => h h' t' k _ F N (by
    rw [e]
    show (ks.drop (clipAt ks.length i)).take (ks.length - clipAt ks.length i) = _
    rw [clipAt_in h0 h2, List.take_of_length_le (by rw [List.length_drop]; exact Nat.le_refl _)])) hs ht
end
section
variable {prog : Program} {w : World} {A : Around} {E : Value → Shared → Prop} {s : Shared} {value slice : PySem.Expr} {l L : Addr} {h₀ : Heap} {vs : List Value} {n : Nat} {news : List (Addr × Obj)} {k : Int} {u : Tok} {v : Value} {Q : Value → Shared → Prop}
theorem my_item (N : News h₀ L s.heap news) (hm : (l, PySem.W.listOf vs.toArray n) ∈ news) (h0 : 0 ≤ k) (hhi : k < 2 ^ 63) (hx : vs[k.toNat]? = some v) (h : Q v s)
    (hs : subscripted slice false (.ref l) (.int k u) = operate [.ref l, .int k u] (getItem (.ref l) (.int k u))) :
    wpAny (model prog w) A (subscriptTail value slice (.ref l) (.int k u)) Q E s :=
  have hl : s.heap.IsList l vs.toArray := ⟨_, (N _ hm).1, rfl, n, rfl⟩
  tail_any hl.typeIs slot_list_getitem.lookup (wpAny_getItem_list hl h0 hhi (by simpa using hx) h) hs
end
theorem Ctr.upd {w : World} {D U : Nat} {f : Value} {args : List Value} {src : Addr} {o : Obj} {P : Value → Obj → Prop} {led : List (Addr × Obj)} {g : Obj → List (Addr × Obj)}
    (C : ∀ rest : List (Addr × Obj), (∀ p ∈ rest, p.1 ≠ src) → (∀ q ∈ led, q.1 ≠ src → q ∈ rest) → Ctr w D U f args ((src, o) :: rest) (fun v l => ∃ o', P v o' ∧ (src, o') :: rest = l)) (u : UpdF src o led g) :
    Ctr w D U f args led (fun v l => ∃ o', P v o' ∧ g o' = l) := by
  obtain ⟨pre, post, rfl, hg, h1, h2⟩ := u.split
  have hsep : ∀ p ∈ pre ++ post, p.1 ≠ src := fun p hp => (List.mem_append.mp hp).elim (h1 p) (h2 p)
  intro mean mg mb dp un gd cn cs a ccd cl outer A₀ base h₀ L m s Q E B F X N T hk hdp hun hret
  have hall : ∀ q ∈ pre ++ (src, o) :: post, q.1 ≠ src → q ∈ pre ++ post := fun q hq hne => by
    rcases List.mem_append.mp hq with h | h
    · exact List.mem_append_left _ h
    · rcases List.mem_cons.mp h with rfl | h
      · exact absurd rfl hne
      · exact List.mem_append_right _ h
  refine (C (pre ++ post) hsep hall).use B F X (fun p hp => N p ?_) T hk hdp hun fun v l h' tk' hP F' N' => ?_
  · rcases List.mem_cons.mp hp with rfl | hp
    · exact List.mem_append_right _ (List.mem_cons_self ..)
    · exact (List.mem_append.mp hp).elim (fun h => List.mem_append_left _ h) fun h => List.mem_append_right _ (List.mem_cons_of_mem _ h)
  · obtain ⟨o', hP', rfl⟩ := hP
    refine hret v _ h' tk' ⟨o', hP', rfl⟩ F' fun p hp => N' p ?_
    rw [hg] at hp
    rcases List.mem_append.mp hp with h | h
    · exact List.mem_cons_of_mem _ (List.mem_append_left _ h)
    · rcases List.mem_cons.mp h with rfl | h
      · exact List.mem_cons_self ..
      · exact List.mem_cons_of_mem _ (List.mem_append_right _ h)
section
variable {prog : Program} {w : World} {A : Around} {E : Value → Shared → Prop} {s : Shared} {l L : Addr} {h₀ : Heap} {vs : List Value} {n : Nat} {news : List (Addr × Obj)} {Q : Value → Shared → Prop} {c : Int}
theorem my_len_list (N : News h₀ L s.heap news) (hm : (l, PySem.W.listOf vs.toArray n) ∈ news) (e : ((vs.length : Nat) : Int) = c) (hfit : vs.length < 2 ^ 62)
    (h : ∀ t k, Q (.int c t) { s with toks := k }) : wpAny (model prog w) A (call (.builtin "len") [.ref l]) Q E s := by
  have hl : s.heap.IsList l vs.toArray := ⟨_, (N _ hm).1, rfl, n, rfl⟩
  have e' : vs.toArray.size = vs.length := by simp
  subst e
  refine PyProof.Rows.len_list hl (by rw [e']; omega) ?_
  rw [e']; exact h _ _
end
section
variable {prog : Program} {w : World} {A : Around} {E : Value → Shared → Prop} {s : Shared} {value slice : PySem.Expr} {l L : Addr} {h₀ : Heap} {vs : List Value} {n : Nat} {news : List (Addr × Obj)} {k : Int} {u : Tok} {v : Value} {Q : Value → Shared → Prop}
theorem my_item_any (N : News h₀ L s.heap news) (hm : (l, PySem.W.listOf vs.toArray n) ∈ news) (h0 : 0 ≤ k) (h1 : k < vs.length) (hfit : vs.length < 2 ^ 62) (h : ∀ v, v ∈ vs → Q v s)
    (hs : subscripted slice false (.ref l) (.int k u) = operate [.ref l, .int k u] (getItem (.ref l) (.int k u))) :
    wpAny (model prog w) A (subscriptTail value slice (.ref l) (.int k u)) Q E s := by
  have hk : k.toNat < vs.length := by omega
  exact my_item N hm h0 (by omega) (List.getElem?_eq_getElem hk) (h _ (List.getElem_mem hk)) hs
end
theorem plain_nil {pos : Pos} {env : Env} : (backTo pos (starEach [] env)).any (·.1) = false := rfl
def notStar : Expr → Bool
  | .Starred .. => false
  | _ => true
theorem star_cons {e : Expr} {r : List Expr} {env : Env} (h : notStar e = true) : starEach (e :: r) env = (false, eval e env) :: starEach r env := by
  cases e <;> first | rfl | cases h
theorem plain_cons {pos : Pos} {env : Env} {e : Expr} {r : List Expr} (h : notStar e = true) (g : (backTo pos (starEach r env)).any (·.1) = false) : (backTo pos (starEach (e :: r) env)).any (·.1) = false := by
  rw [star_cons h]
  exact g
end

section
section
variable {prog : Program} {w : World} {A : Around} {E : Value → Shared → Prop} {s : Shared} {n : Int} {u : Tok} {Q : Value → Shared → Prop}
theorem no_bytes_int : typeLookup (.type "int") "__bytes__" = pure none := by rw [typeLookup_type, builtinLookup_eq_fast]; kernel_rfl
theorem zeros_new (h0 : 0 ≤ n) (h1 : n ≤ 16777216) (hQ : ∀ t k, Q (.bytes (Array.replicate n.toNat 0) t) { s with toks := k }) :
    codeAny (model prog w) A (.call (.builtin "bytes.__new__") ⟨[.type "bytes", .int n u], []⟩) (wants Q E) s := by
  refine codeAny_of_tree ?_
  show wpAny _ A.in1 (do checkBuiltinCall "bytes.__new__" ⟨[.type "bytes", .int n u], []⟩; again (.builtin "bytes.__new__" ⟨[.type "bytes", .int n u], []⟩)) _ _ s
  refine wpAny_bind (wpAny_of_eq (F.bm_newCall _) (wpAny_pure ⟨plainId_quiet F.bm_plain _, codeAny_builtin F.bm_entry ?_⟩))
  rw [Around.under_plainId F.bm_plain _]
  unfold Builtin.«bytes.__new__»
  refine wpAny_bind (wpAny_of_eq (a := true) rfl ?_)
  refine bm_if_false rfl ?_
  refine wpAny_bind (wpAny_of_eq F.bm_sub ?_)
  refine bm_if_false rfl ?_
  refine wpAny_bind (wpAny_of_eq (F.bm_bind _) ?_)
  refine wpAny_bind (wpAny_of_eq (a := ()) rfl ?_)
  refine wpAny_bind (wpAny_of_eq (a := ()) rfl ?_)
  refine bm_if_false rfl ?_
  refine wpAny_bind (wpAny_specialOf (typeIs_int s n u) no_bytes_int ?_)
  refine wpAny_bind (wpAny_of_eq (a := false) rfl ?_)
  refine bm_if_false rfl ?_
  refine wpAny_bind (wpAny_specialOf (typeIs_int s n u) F.slot_int_index.lookup ?_)
  refine bm_if_false rfl ?_
  refine wpAny_bind (wpAny_of_eq (a := Except.ok n) rfl ?_)
  dsimp only
  refine bm_if_false ?_ ?_
  · simp only [Builtin.Bytes.fitsIndex, Bool.not_eq_false', Bool.and_eq_true, decide_eq_true_eq]; omega
  rw [if_neg (by omega), if_neg (by omega)]
  refine bm_if_false ?_ ?_
  · simp only [Builtin.Bytes.tooLong, sizeLine_eq, decide_eq_false_iff_not]; omega
  refine wpAny_bind (wpAny_rule ?_)
  refine wpAny_bind (wpAny_mkBytes ?_ (by rw [Array.size_replicate, sizeLine_eq]; omega))
  show wpAny _ _ (if (Value.type "bytes" == Value.type "bytes") = true then _ else _) _ _ _
  refine bm_if_true (by decide) ?_
  first
    | exact wpAny_pure (hQ _ _)
    | exact wpAny_bind (wpAny_pure (wpAny_pure (hQ _ _)))
theorem zeros (h0 : 0 ≤ n) (h1 : n ≤ 16777216) (hQ : ∀ t k, Q (.bytes (Array.replicate n.toNat 0) t) { s with toks := k }) : wpAny (model prog w) A (call (.type "bytes") [.int n u]) Q E s := by
  refine callType_codes (Q₁ := fun obj s₁ => s₁.TypeIs obj "bytes" ∧ Q obj s₁) F.bm_called (F.bm_typeCall _) F.entry_object_init
    (zeros_new h0 h1 fun t k => ⟨PySem.W.typeIs_bytes _ _ _, hQ t k⟩) fun obj s₁ h₁ => ?_
  exact ⟨h₁.1, F.args_object_init_2 obj _, object_init_meets F.bm_called.init.lookup F.bm_called.made (by decide) prog w A.in1 _ s₁ ⟨h₁.1, rfl, h₁.2⟩⟩
theorem zeros_ints (k : Nat) : KBw.bInts (Array.replicate k 0) = List.replicate k 0 := by simp [KBw.bInts]
theorem zeros_K (h0 : 0 ≤ n) (h1 : n ≤ 16777216) (hQ : ∀ b t k, KBw.bInts b = List.replicate n.toNat 0 → Q (.bytes b t) { s with toks := k }) : wpAny (model prog w) A (call (.type "bytes") [.int n u]) Q E s :=
  zeros h0 h1 fun t k => hQ _ t k (zeros_ints _)
theorem my_add {b c : Array UInt8} {t v : Tok} {ks ls : List Int} (hb : KBw.bInts b = ks) (hc : KBw.bInts c = ls) (hsz : ks.length + ls.length ≤ 16777216) (h : ∀ b' t' k, KBw.bInts b' = ks ++ ls → Q (.bytes b' t') { s with toks := k }) : wpAny (model prog w) A (binaryOp .Add (.bytes b t) (.bytes c v)) Q E s :=
  KBa.add_K hb hc hsz fun t' k e => h _ t' k e
end
end

section
section
variable {M : Model} {prog : Program} {w : World} {A : Around} {E : Value → Shared → Prop} {h : Heap} {g : Array GenState} {d : Drawn} {t : Nat} {os : OsState} {K : Frag}
variable {nm q : Str} {C N : Addr} {bs bm bmB : List Value} {hdct : Bool} {sn : List Str} {sub : List Value} {ab : Bool} {col : Option Bool} {dd : Option Addr} {k0 k1 k2 k3 k5 : Option Value} {B newId initId : String}
theorem my_check_new (F : ExcBaseFacts B newId initId bmB) (hcont : (Value.ref C :: bm).contains (.type B) = true) {rest : List Value} {Q : Unit → Shared → Prop} (hC : h.get? C = some (excClassObj nm q C N bs bm hdct sn sub ab col dd k0 k1 k2 k3 k5 newId))
    (hq : Q () ⟨h, g, d, t, os⟩) : wpAny M A (checkBuiltinCall newId ⟨.ref C :: rest, []⟩) Q E ⟨h, g, d, t, os⟩ := by
  have hstar := F.noStar
  simp only [checkBuiltinCall, F.newKind, F.newSplit, F.newRow]
  repeat (first | with_reducible refine wpAny_loadPart_at hC ?_ | (with_reducible refine wpAny_isSubtype_exc hC ?_; rw [hcont]) | with_reducible refine wpAny_staticBase_exc hC ?_ | with_reducible refine wpAny_madeBy_exc hC ?_ | simp only [bne_self_eq_false, Bool.false_eq_true, if_false] | wp_step)
  exact hq
theorem my_exc_new {R : Result → Shared → Prop} (F : ExcBaseFacts B newId initId bmB) (hcB : (Value.ref C :: bm).contains (.type B) = true) (hcA : (Value.ref C :: bm).contains (.type "AttributeError") = false) (hcN : (Value.ref C :: bm).contains (.type "NameError") = false)
    {rest : List Value} (hC : h.get? C = some (excClassObj nm q C N bs bm hdct sn sub ab col dd k0 k1 k2 k3 k5 newId))
    (hq : R (.ok (.ret (.ref (h.objs.size + 1)))) ⟨(h.push { cls := .type "tuple", data := .seq rest.toArray }).push
      { cls := .ref C, data := .fields #[.ref h.objs.size, .none, .none, .none, .bool false, .none] }, g, d, t, os⟩) (hrest : rest.length ≤ sizeLine) :
    codeAny (model prog w) A (.builtin newId ⟨.ref C :: rest, []⟩) R ⟨h, g, d, t, os⟩ := by
  have hends := F.ends
  refine codeAny_builtinAt F.entry ?_
  unfold Builtin.«BaseException.__new__»
  refine PySem.wpAt_bind ?_
  show PySem.wpAt _ _ _ (stack >>= _) _ _ _
  refine PySem.wpAt_bind (PySem.wpAt_stack fun p below => PySem.wpAt_of_wpAny ?_)
  wp_walk
  refine PySem.wpAt_of_wpAny ?_
  rw [F.owner]
  repeat (first | with_reducible refine wpAny_madeHere_exc F.canon hC ?_ | with_reducible refine wpAny_loadPart_at hC ?_ | (with_reducible refine wpAny_isSubtype_exc hC ?_; first | rw [hcB] | rw [hcA] | rw [hcN]) | wp_step)
  show R _ _
  rw [Heap.size_push]
  exact hq
theorem my_type_call (F : ExcBaseFacts B newId initId bmB) (hcB : (Value.ref C :: bm).contains (.type B) = true) (hcA : (Value.ref C :: bm).contains (.type "AttributeError") = false) (hcN : (Value.ref C :: bm).contains (.type "NameError") = false)
    {rest : List Value} {fI : Addr} {Q : Fin → Shared → Prop} (X : K.In h) (hi : findIn K (.ref C) "__init__" = some (some (.ref fI)))
    (hC : h.get? C = some (excClassObj nm q C N bs bm hdct sn sub ab col dd k0 k1 k2 k3 k5 newId))
    (hf : isFn K (.ref fI) = true)
    (hq : ∀ h' e, Heap.MadeExcOf h h' e (.ref C) rest →
      wpAny (model prog w) A (call (.ref fI) (.ref e :: rest)) (fun r s' => r = .none ∧ Q (.done (.ret (.ref e))) s') E ⟨h', g, d, t, os⟩) (hrest : rest.length ≤ sizeLine) :
    wpAny (model prog w) A (Builtin.«type.__call__» ⟨.ref C :: rest, []⟩) Q E ⟨h, g, d, t, os⟩ := by
  repeat (first | with_reducible refine wpAny_loadPart_at hC ?_ | with_reducible refine wpAny_madeBy_exc hC ?_ | wp_step)
  refine codeAny_call_builtin_code (Code.quiet_builtin _ F.quiet) (my_check_new F hcB hC ?_)
  refine my_exc_new F hcB hcA hcN hC ?_ hrest
  show wpAny _ _ _ _ _ _
  have keep : ∀ b o, h.get? b = some o → ((h.push { cls := .type "tuple", data := .seq rest.toArray }).push { cls := .ref C, data := .fields #[.ref h.objs.size, .none, .none, .none, .bool false, .none] }).get? b = some o :=
    fun b o e => Heap.get?_push_of_some _ (Heap.get?_push_of_some _ e)
  have hC₁ := keep _ _ hC
  have X₁ : K.In ((h.push { cls := .type "tuple", data := .seq rest.toArray }).push { cls := .ref C, data := .fields #[.ref h.objs.size, .none, .none, .none, .bool false, .none] }) := X.keeps keep
  have hget : ((h.push { cls := .type "tuple", data := .seq rest.toArray }).push
      { cls := .ref C, data := .fields #[.ref h.objs.size, .none, .none, .none, .bool false, .none] }).get? (h.objs.size + 1) = some
      { cls := .ref C, data := .fields #[.ref h.objs.size, .none, .none, .none, .bool false, .none] } := by heap_get
  have hcC : (Value.ref C :: bm).contains (.ref C) = true := by simp
  unfold isInstance
  repeat (first | with_reducible refine wpAny_loadPart_at hget ?_ | (with_reducible refine wpAny_isSubtype_exc hC₁ ?_; rw [hcC]) | wp_step)
  show wpAny _ _ (typeLookup (.ref C) _) _ _ _
  refine (looks_findIn (M := model prog w) X₁ hi).at ?_
  refine wpAny_holding (wpAny_bind ((bind_fn (M := model prog w) X₁ _ (beq_iff_eq.mp hf)).at ?_))
  refine (wpAny_bind (wpAny_mono (hq _ (h.objs.size + 1) ⟨fun b o hb => Heap.get?_push_of_some _ (Heap.get?_push_of_some _ hb), Heap.get?_none_of_le (Nat.le_succ _), h.objs.size, hget, Heap.get?_none_of_le (Nat.le_refl _), ?_⟩) (fun r s' hr => ?_) fun _ _ x => x))
  · exact Heap.get?_push_of_some _ (Heap.get?_push_at rfl rfl)
  · obtain ⟨rfl, hQ⟩ := hr
    wp_walk
    exact hQ
theorem my_call_exc (F : ExcBaseFacts B newId initId bmB) (hcB : (Value.ref C :: bm).contains (.type B) = true) (hcA : (Value.ref C :: bm).contains (.type "AttributeError") = false) (hcN : (Value.ref C :: bm).contains (.type "NameError") = false)
    {rest : List Value} {fI : Addr} {Q : Value → Shared → Prop} (X : K.In h) (hi : findIn K (.ref C) "__init__" = some (some (.ref fI)))
    (hC : h.get? C = some (excClassObj nm q C N bs bm hdct sn sub ab col dd k0 k1 k2 k3 k5 newId))
    (hf : isFn K (.ref fI) = true)
    (hq : ∀ h' e, Heap.MadeExcOf h h' e (.ref C) rest →
      wpAny (model prog w) (A.under (.builtin "type.__call__" ⟨.ref C :: rest, []⟩)) (call (.ref fI) (.ref e :: rest)) (fun r s' => r = .none ∧ Q (.ref e) s') E ⟨h', g, d, t, os⟩) (hrest : rest.length ≤ sizeLine) :
    wpAny (model prog w) A (call (.ref C) rest) Q E ⟨h, g, d, t, os⟩ := by
  have f1 := tc_lookup
  have f2 := tc_bind (.ref C)
  have hT : (⟨h, g, d, t, os⟩ : Shared).TypeIs (.ref C) "type" := ⟨_, hC, rfl⟩
  refine wpAny_call (codeAny_of_tree ?_)
  show wpAny _ _ (callAny (.ref C) _) _ _ _
  repeat (any_goals (first | assumption | with_reducible refine wpAny_loadPart_at hC ?_ | wp_step))
  refine ⟨rfl, ?_⟩
  refine codeAny_call_builtin_at (Code.quiet_builtin _ (by decide +kernel)) entry_typeCall (wpAny_check_type_call_sub hC (my_type_call (hrest := hrest) F hcB hcA hcN X hi hC hf fun h' e hm => ?_))
  exact hq h' e hm
theorem my_raiseStmt {env : Env} {x : Sem Value} {Q : Flow → Shared → Prop} {s : Shared} (hcB : (Value.ref C :: bm).contains (.type "BaseException") = true) (hh : A.handled = none)
    (h : wpAny M A x (fun v s₁ => ∃ e oe, v = .ref e ∧ s₁.heap.get? C = some (excClassObj nm q C N bs bm hdct sn sub ab col dd k0 k1 k2 k3 k5 newId) ∧
      s₁.heap.get? e = some oe ∧ oe.cls = .ref C ∧ (∃ a0, oe.data = .fields #[a0, .none, .none, .none, .bool false, .none]) ∧ E (.ref e) s₁) E s) :
    wpAny M A (raiseStmt env (some x) none) Q E s := by
  unfold raiseStmt
  refine wpAny_bind (wpAny_mono h (fun v s₁ h₁ => ?_) fun _ _ x => x)
  obtain ⟨e, oe, rfl, hC, he, hcls, ⟨vs, hdata⟩, hE⟩ := h₁
  obtain ⟨hp, g, d, tk, os⟩ := s₁
  obtain ⟨ocls, odict, odata, oslots⟩ := oe
  dsimp only at hcls hdata
  subst hcls
  subst hdata
  repeat (first | with_reducible refine wpAny_loadPart_at he ?_ | with_reducible refine wpAny_loadPart_at hC ?_ | (with_reducible refine wpAny_isSubtype_exc hC ?_; rw [hcB]) | wp_step)
  exact wpAny_raiseNew_none hh hE
end
end

section
abbrev excData (a0 : Value) : Data := .fields #[a0, .none, .none, .none, .bool false, .none]
section
variable {M : Model} {prog : Program} {w : World} {A : Around} {E : Value → Shared → Prop} {h : Heap} {g : Array GenState} {d : Drawn} {t : Nat} {os : OsState} {K : Frag}
variable {nm q : Str} {C N : Addr} {bs bm bmB : List Value} {hdct : Bool} {sn : List Str} {sub : List Value} {ab : Bool} {col : Option Bool} {dd : Option Addr} {k0 k1 k2 k3 k5 : Option Value} {B newId nid initId : String}
theorem my_check_init (F : ExcBaseFacts B newId initId bmB) (hcB : (Value.ref C :: bm).contains (.type B) = true) {e : Addr} {oe : Obj} {rest : List Value} {Q : Unit → Shared → Prop}
    (hC : h.get? C = some (excClassObj nm q C N bs bm hdct sn sub ab col dd k0 k1 k2 k3 k5 nid)) (he : h.get? e = some oe) (hcls : oe.cls = .ref C) (hq : Q () ⟨h, g, d, t, os⟩) :
    wpAny M A (checkBuiltinCall initId ⟨.ref e :: rest, []⟩) Q E ⟨h, g, d, t, os⟩ := by
  have hshort := F.noStar
  simp only [checkBuiltinCall, F.initKind, F.initSplit, F.initRow]
  repeat (first | (with_reducible refine wpAny_loadPart_at he ?_; rw [hcls]) | with_reducible refine wpAny_loadPart_at hC ?_ | (with_reducible refine wpAny_isSubtype_exc hC ?_; rw [hcB]) | wp_step)
  refine wpAny_onRaise ?_
  rw [show ∀ (a b : String) (n : Nat), Bind.check ⟨.positional, "*", B, .self, [⟨"args", .varPos, false⟩]⟩ a b n (List.map (fun x => x.fst) ({ pos := Value.ref e :: rest } : Args).kw) = pure () from
    fun a b n => check_star_args _ _ _ _ _ _]
  exact wpAny_pure hq
theorem exc_init (F : ExcBaseFacts B newId initId bmB) (hcB : (Value.ref C :: bm).contains (.type B) = true) {e t0 : Addr} {od : Option Addr} {rest : List Value} {Q : Value → Shared → Prop}
    (hC : h.get? C = some (excClassObj nm q C N bs bm hdct sn sub ab col dd k0 k1 k2 k3 k5 nid)) (he : h.get? e = some { cls := .ref C, dict := od, data := excData (.ref t0) }) (hrest : rest.length ≤ sizeLine)
    (hq : ∀ h', (∀ b o, b ≠ e → h.get? b = some o → h'.get? b = some o) → h'.get? e = some { cls := .ref C, dict := od, data := excData (.ref h.objs.size) } → Q .none ⟨h', g, d, t, os⟩) :
    wpAny (model prog w) A (call (.builtin initId) (.ref e :: rest)) Q E ⟨h, g, d, t, os⟩ := by
  refine wpAny_call (codeAny_call_builtin F.init.plain F.initEntry (my_check_init F hcB hC he rfl ?_))
  unfold Builtin.«BaseException.__init__»
  have hget : (h.push { cls := .type "tuple", data := .seq rest.toArray }).get? e = some { cls := .ref C, dict := od, data := excData (.ref t0) } := Heap.get?_push_of_some _ he
  wp_walk
  refine hq _ (fun b o hb e1 => ?_) ?_
  · rw [Heap.get?_update_other _ _ (Ne.symm hb)]
    exact Heap.get?_push_of_some _ e1
  · rw [Heap.get?_update_self _ hget rfl]
    rfl
end
section
variable {prog : Program} {w : World} {A : Around} {E : Value → Shared → Prop} {s : Shared} {K : Frag} {h₀ : Heap} {L : Addr} {m : Str → Option Value}
variable {nm q : Str} {C N : Addr} {bs bm bmB : List Value} {hdct : Bool} {sn : List Str} {sub : List Value} {ab : Bool} {col : Option Bool} {dd : Option Addr} {k0 k1 k2 k3 k5 : Option Value} {B newId nid initId : String}
theorem fr_but {h h' : Heap} {e : Addr} (F : Fr h₀ L h m) (k : ∀ b o, b ≠ e → h.get? b = some o → h'.get? b = some o) (hL : L ≠ e) (h0 : h₀.get? e = none) : Fr h₀ L h' m := by
  obtain ⟨⟨oL, es, ep, q, r⟩, hk, ha⟩ := F
  refine ⟨⟨oL, es, ep, k _ _ hL q, r⟩, fun b o x => k b o (fun z => ?_) (hk b o x), ha⟩
  rw [z, h0] at x; cases x
theorem exc_init_K (F : ExcBaseFacts B newId initId bmB) (hcB : (Value.ref C :: bm).contains (.type B) = true) {e t0 : Addr} {od : Option Addr} {v : Value} {rest : List (Addr × Obj)} {Q : Value → Shared → Prop}
    (Fr0 : Fr h₀ L s.heap m) (N0 : News h₀ L s.heap ((e, { cls := .ref C, dict := od, data := excData (.ref t0) }) :: rest)) (X : K.In h₀) (hC : K.lookup C = some (excClassObj nm q C N bs bm hdct sn sub ab col dd k0 k1 k2 k3 k5 nid))
    (hsep : ∀ p ∈ rest, p.1 ≠ e)
    (h : ∀ h' a, Fr h₀ L h' m → News h₀ L h' ((e, { cls := .ref C, dict := od, data := excData (.ref a) }) :: rest) → Q .none { s with heap := h' }) :
    wpAny (model prog w) A (call (.builtin initId) [.ref e, v]) Q E s := by
  obtain ⟨hp, g, d, t, os⟩ := s
  obtain ⟨he, hL, h0⟩ := N0 _ (List.mem_cons_self ..)
  refine exc_init F hcB ((X.keeps Fr0.keep) _ _ hC) he (by show 1 ≤ sizeLine; rw [sizeLine_eq]; decide) fun h' k e' => h h' hp.objs.size (fr_but Fr0 k (Ne.symm hL) h0) fun p hp' => ?_
  rcases List.mem_cons.mp hp' with rfl | hp'
  · exact ⟨e', hL, h0⟩
  · obtain ⟨a, b, c⟩ := N0 p (List.mem_cons_of_mem _ hp')
    exact ⟨k _ _ (hsep p hp') a, b, c⟩
end
end

section
theorem refuse_exc (self : Value) (a b : Addr) : refuseLoop self "__setattr__" [.ref a, .ref b, .type "Exception", .type "BaseException", .type "object"] = pure () := by
  rw [refuseLoop_ref, refuseLoop_ref]
  kernel_rfl
section
variable {prog : Program} {w : World} {A : Around} {K : Frag} {s : Shared} {x C a9 b9 : Addr} {R : Result → Shared → Prop}
theorem my_osa_open {ox : Obj} {od : Option Obj} {name : Str} {tk : Tok} {v : Value} {r : Option Value} (X : K.In s.heap) (I : InstAt s.heap x ox C od) {cd : ClassData} (hc : clsIn K C = some cd) (ho : cd.mro = [.ref a9, .ref b9, .type "Exception", .type "BaseException", .type "object"]) (ht : takerIn K C name = some r)
    (h : ∀ b, wpAny (model prog w) A.in1 (match r with | some a => Builtin.ObjectAttr.setByDescriptor a (.ref x) v | none => Builtin.ObjectAttr.storeInOwnDict (.ref x) (.ref C) (.str name tk) name v b)
      (fun fin s' => match fin with | .done f => R (.ok f) s' | .again c' => c'.quiet = true ∧ codeAny (model prog w) A c' R s') (fun e s' => R (.error e) s') s) :
    codeAny (model prog w) A (.call (.builtin "object.__setattr__") ⟨[.ref x, .str name tk, v], []⟩) R s := by
  have SF := PySem.F.store_object
  have sub : Looks (model prog w) s.heap (isInstance (.ref x) (.type "object")) true := I.type.andThen (looks_mroIn X (by unfold mroIn; rw [hc, Option.bind_some, ho]; rfl))
  refine codeAny_call_builtin SF.slot.plain SF.entry (@check_slot (model prog w) _ _ s "object.__setattr__" "object" "__setattr__" (.ref x) [.str name tk, v] [] _ SF.kind SF.split sub (SF.args (.ref x) (.str name tk) v) ?_)
  obtain ⟨attr, ha, hr⟩ := Option.bind_eq_some_iff.mp ht
  have hm : Looks (model prog w) s.heap (mroOf (.ref C)) cd.mro := (looks_clsIn X hc).andThen .now
  have L3 : Looks (model prog w) s.heap (Builtin.ObjectAttr.storeTaker? attr) r := by
    cases attr with
    | none => cases hr; exact .now
    | some a =>
      obtain ⟨b, hb, rfl⟩ := Option.map_eq_some_iff.mp hr
      refine (looks_takesIn X hb).andThen ?_
      cases b <;> exact .now
  rw [osa_eq, refuse_eq]
  refine wpAny_bind (wpAny_bind (I.type.here (wpAny_bind (hm.here ?_))))
  rw [ho, refuse_exc]
  refine wpAny_pure (wpAny_bind (I.type.here (wpAny_bind ((looks_findIn X ha).here (wpAny_bind (L3.here ?_))))))
  exact h _
end
end

section
section
variable {prog : Program} {w : World} {A : Around} {E : Value → Shared → Prop} {s : Shared} {K : Frag} {h₀ : Heap} {L : Addr} {m : Str → Option Value}
theorem exc_set_K {C e a9 b9 : Addr} {v0 v : Value} {name : Str} {rest : List (Addr × Obj)} {Q : Unit → Shared → Prop}
    (F0 : Fr h₀ L s.heap m) (N0 : News h₀ L s.heap ((e, { cls := .ref C, data := excData v0 }) :: rest)) (X₀ : K.In h₀) (hsep : ∀ p ∈ rest, p.1 ≠ e)
    (hs : findIn K (.ref C) "__setattr__" = some (some (.builtin "object.__setattr__"))) {cd9 : ClassData} (hp : clsIn K C = some cd9) (hp2 : cd9.mro = [.ref a9, .ref b9, .type "Exception", .type "BaseException", .type "object"]) (ht : takerIn K C name = some none) (hh : hasDictIn K C = true)
    (h : ∀ h' D tk, Fr h₀ L h' m → News h₀ L h' ((e, { cls := .ref C, dict := some D, data := excData v0 }) :: rest) → Q () { s with heap := h', toks := tk }) :
    wpAny (model prog w) A (setAttr (.ref e) name v) Q E s := by
  obtain ⟨hp0, g, d, t, os⟩ := s
  have X := X₀.keeps F0.keep
  have N1 := N0 _ (List.mem_cons_self ..)
  obtain ⟨he, hL, h0⟩ := N1
  dsimp only at he hL h0 X
  have I : InstAt hp0 e { cls := .ref C, data := excData v0 } C none := ⟨he, rfl, rfl, trivial⟩
  refine set_plain (s := ⟨hp0, g, d, t, os⟩) X I hs (my_osa_open (s := ⟨hp0, g, d, t + 1, os⟩) X I hp hp2 ht fun b => ?_)
  obtain ⟨cd, hc, hd'⟩ := any_some hh
  dsimp only
  refine wpAny_bind (wpAny_pure (wpAny_bind (wpAny_bind (wpAny_loadPart he (wpAny_bind ((looks_clsIn X hc).at ?_))))))
  rw [hd']
  refine wpAny_bind (wpAny_alloc (wpAny_bind (wpAny_update (Heap.get?_push_of_some _ he) ?_)))
  refine wpAny_bind (wpAny_pure (wpAny_pure ?_))
  dsimp only
  have hlt : e < hp0.objs.size := Heap.lt_size he
  have hne : (hp0.objs.size : Addr) ≠ e := Ne.symm (Nat.ne_of_lt hlt)
  have hD : ((hp0.push { cls := .type "dict", data := .dict #[] }).update e fun o => { cls := o.cls, dict := some hp0.objs.size, data := o.data, slots := o.slots }).get? hp0.objs.size = some { cls := .type "dict", data := .dict #[] } := by
    rw [Heap.get?_update_other _ _ (Ne.symm hne)]
    exact Heap.get?_push_size _ rfl
  have he2 : ((hp0.push { cls := .type "dict", data := .dict #[] }).update e fun o => { cls := o.cls, dict := some hp0.objs.size, data := o.data, slots := o.slots }).get? e = some { cls := .ref C, dict := some hp0.objs.size, data := excData v0 } := by
    rw [Heap.get?_update_self _ (Heap.get?_push_of_some _ he) rfl]
  unfold Builtin.ObjectAttr.storeInDict
  refine wpAny_bind (wpAny_pure (wpAny_bind ?_))
  unfold nsSet
  refine wpAny_bind (wpAny_bind (wpAny_askSetting (wpAny_pure (wpAny_bind (wpAny_mkText (wpAny_bind (wpAny_loadPart hD ?_)))))))
  dsimp only
  refine wpAny_updatePart hD ?_
  have hput : ∀ hh kk, Obj.putName name hh kk v { cls := .type "dict", data := .dict #[] } = { cls := .type "dict", data := .dict #[⟨hh, kk, v⟩] 1 } := fun hh kk => by
    exact putName_dict name hh kk v [] 0
  have hD2 := Heap.get?_update_self (Obj.putName name (if name.cps.isEmpty = true then 0 else reduceHash ((model prog w).w.params.strHash name.cps)) (Value.str name (t + 1)) v) hD (by rw [hput]; rfl)
  rw [hput] at hD2
  refine wpAny_bind (wpAny_lookBehind hD2 ?_ ?_)
  · exact pastItsLine_dict (by show (1 : Nat) ≤ _; rw [sizeLine_eq]; decide)
  have keep : ∀ b o, b ≠ e → hp0.get? b = some o → (((hp0.push { cls := .type "dict", data := .dict #[] }).update e fun o => { cls := o.cls, dict := some hp0.objs.size, data := o.data, slots := o.slots }).update hp0.objs.size
      (Obj.putName name (if name.cps.isEmpty = true then 0 else reduceHash ((model prog w).w.params.strHash name.cps)) (Value.str name (t + 1)) v)).get? b = some o := fun b o hb e1 => by
    rw [Heap.get?_update_other _ _ (Ne.symm (Nat.ne_of_lt (Heap.lt_size e1))), Heap.get?_update_other _ _ (Ne.symm hb)]
    exact Heap.get?_push_of_some _ e1
  have he3 := (Heap.get?_update_other _ (Obj.putName name (if name.cps.isEmpty = true then 0 else reduceHash ((model prog w).w.params.strHash name.cps)) (Value.str name (t + 1)) v) hne).trans he2
  refine wpAny_pure (h _ hp0.objs.size _ (fr_but F0 keep (Ne.symm hL) h0) fun p hp' => ?_)
  rcases List.mem_cons.mp hp' with rfl | hp'
  · exact ⟨he3, hL, h0⟩
  · obtain ⟨a, b, c⟩ := N0 p (List.mem_cons_of_mem _ hp')
    exact ⟨keep _ _ (hsep p hp') a, b, c⟩
end
end

section
/-- values that are bytes of given lists of ints -/
inductive BysAre : List Value → List (List Int) → Prop
  | nil : BysAre [] []
  | cons {b : Array UInt8} {t : Tok} {ks : List Int} {vs : List Value} {kss : List (List Int)} : KBw.bInts b = ks → BysAre vs kss → BysAre (.bytes b t :: vs) (ks :: kss)
theorem BysAre.append {vs ws : List Value} {kss lss : List (List Int)} (h : BysAre vs kss) (g : BysAre ws lss) : BysAre (vs ++ ws) (kss ++ lss) := by
  induction h with
  | nil => exact g
  | cons e _ ih => exact .cons e ih
theorem BysAre.len {vs : List Value} {kss : List (List Int)} (h : BysAre vs kss) : vs.length = kss.length := by
  induction h with
  | nil => rfl
  | cons _ _ ih => simp [ih]
theorem BysAre.at {vs : List Value} {kss : List (List Int)} (h : BysAre vs kss) : ∀ (i : Nat) (v : Value), vs[i]? = some v → ∃ b t, v = .bytes b t ∧ kss[i]? = some (KBw.bInts b) := by
  induction h with
  | nil => intro i v e; cases i <;> cases e
  | cons e _ ih =>
    intro i v e'
    cases i with
    | zero => cases e'; exact ⟨_, _, rfl, by rw [e]; rfl⟩
    | succ i => exact ih i v e'
section
open Builtin Builtin.Bytes
theorem bj_slot : Slot "bytes" "join" "bytes.join" :=
  .of (owner := "bytes") (n := "join") (by rw [typeLookup_type, builtinLookup_eq_fast]; kernel_rfl) (by decide +kernel) (by decide +kernel) (by decide +kernel)
    (by first | exact .inl (by decide +kernel) | exact .inr (by decide +kernel)) (by rw [isSubtype_type]; kernel_rfl)
theorem bj_type : typeOf (.builtin "bytes.join") = pure (.type "method_descriptor") := by show builtinType _ = _; rw [builtinType_eq_fast]; kernel_rfl
theorem bj_entry : entryFor table "bytes.join" = some Builtin.«bytes.join» := entryFor_of_tree (by kernel_rfl)
theorem bj_args (a b : Value) : argsOk "bytes.join" ⟨[a, b], []⟩ := by unfold argsOk; kernel_rfl
theorem bj_take (b : Array UInt8) (t : Tok) : takeBufferQuiet? "bytes.join" (.bytes b t) 0 = pure (some (b, none)) := by kernel_rfl
end
section
variable {M : Model} {A : Around} {E : Value → Shared → Prop} {s : Shared} {b : Array UInt8} {t : Tok} {pl : Sem Bool}
theorem bj_method {Q : Value × List Value → Shared → Prop} (h : Q (.builtin "bytes.join", [.bytes b t]) s) : wpAny M A (getMethod (.bytes b t) "join" pl) Q E s := by
  with_reducible exact KBd.method_of (.bytes b t) (typeIs_bytes _ _ _) bj_slot bj_type KBd.noRef h
theorem joined_nil (l : List (Array UInt8)) : KBw.bInts (Builtin.Bytes.joined #[] l) = (l.map KBw.bInts).flatten := by
  have h : ∀ (l : List (Array UInt8)) (n : Nat) (acc : Array UInt8), KBw.bInts ((l.zipIdx n).foldl (fun out (p, i) => (if i > 0 then out ++ #[] else out) ++ p) acc) = KBw.bInts acc ++ (l.map KBw.bInts).flatten := by
    intro l
    induction l with
    | nil => intro n acc; simp
    | cons p l ih =>
      intro n acc
      rw [List.zipIdx_cons, List.foldl_cons, ih]
      have e : (if n > 0 then acc ++ #[] else acc) = acc := by split <;> simp
      dsimp only
      rw [e, KBw.ints_app rfl rfl, List.map_cons, List.flatten_cons, List.append_assoc]
  exact h l 0 #[]
theorem fold_sizes (l : List (Array UInt8)) : ∀ n : Nat, l.foldl (fun x1 x2 => x1 + x2.size) n = n + (l.map KBw.bInts).flatten.length := by
  induction l with
  | nil => intro n; simp
  | cons p l ih => intro n; rw [List.foldl_cons, ih, List.map_cons, List.flatten_cons, List.length_append, KBw.ints_length]; omega
theorem letGo_bytes {taken : List (Value × Option Value)} (hb : ∀ p ∈ taken, ∃ c u, p = (.bytes c u, none)) (keep : List Value) {Q : Unit → Shared → Prop} (h : Q () s) : wpAny M A (Builtin.Bytes.joinLetGo taken keep) Q E s := by
  induction taken generalizing keep with
  | nil => exact wpAny_pure h
  | cons p taken ih =>
    obtain ⟨c, u, rfl⟩ := hb p (List.mem_cons_self ..)
    unfold Builtin.Bytes.joinLetGo
    refine wpAny_bind (wpAny_letGo ?_)
    exact ih (fun q hq => hb q (List.mem_cons_of_mem _ hq)) _
end
open Builtin Builtin.Bytes in
theorem bj_meets (t : Tok) (a : Addr) (vs : List Value) (kss : List (List Int)) (hv : BysAre vs kss) (hz : kss.flatten.length ≤ 16777216) :
    Meets («bytes.join» ⟨[.bytes #[] t, .ref a], []⟩) (fun _ R s => s.heap.IsList a vs.toArray ∧ ∀ b t' k, KBw.bInts b = kss.flatten → R (.ok (.ret (.bytes b t'))) { s with toks := k }) := by
  intro prog w A R s ⟨hlist, hpost⟩
  unfold «bytes.join» joinM
  refine wpAny_bind (wpAny_of_eq (a := (Value.bytes #[] t, Value.ref a)) rfl ?_)
  dsimp only
  refine wpAny_bind ?_
  show wpAny _ _ (joinItems (.ref a)) _ _ s
  unfold joinItems
  refine wpAny_bind (wpAny_typeOf hlist.typeIs ?_)
  refine bm_if_true (by decide) (wpAny_pure ?_)
  obtain ⟨o, ho, hc, n, hdata⟩ := hlist
  have items : ∀ {Q : Option (Array Value) → Shared → Prop} {E : Value → Shared → Prop} {B : Around}, Q (some vs.toArray) s → wpAny (model prog w) B (seqItems? (.ref a)) Q E s := by
    intro Q E B h
    unfold seqItems?
    refine wpAny_bind (wpAny_load ho ?_)
    rw [hdata]
    exact wpAny_pure h
  have hlen := hv.len
  have body : ∀ f : Nat → (Array (Array UInt8) × List (Value × Option Value)) → Sem (ForInStep (Array (Array UInt8) × List (Value × Option Value))),
      (∀ (i : Nat) (parts : Array (Array UInt8)) (taken : List (Value × Option Value)) (c : Array UInt8) (u : Tok) (Q : ForInStep (Array (Array UInt8) × List (Value × Option Value)) → Shared → Prop) (E : Value → Shared → Prop),
        (∀ p ∈ taken, ∃ c u, p = (Value.bytes c u, none)) → vs.toArray.getD i .none = .bytes c u → Q (.yield (parts.push c, taken ++ [(.bytes c u, none)])) s → wpAny (model prog w) A.in1 (f i (parts, taken)) Q E s) →
      ∀ (Q : (Array (Array UInt8) × List (Value × Option Value)) → Shared → Prop) (E : Value → Shared → Prop),
        (∀ parts taken, parts.toList.map KBw.bInts = kss → (∀ p ∈ taken, ∃ c u, p = (Value.bytes c u, none)) → Q (parts, taken) s) →
        wpAny (model prog w) A.in1 (forIn [:vs.toArray.size] (#[], []) f) Q E s := by
    intro f hf Q E hQ
    rw [Std.Legacy.Range.forIn_eq_forIn_range']
    simp only [Std.Legacy.Range.size, Nat.sub_zero, Nat.add_sub_cancel, Nat.div_one]
    refine wpAny_forIn_list _
      (fun rest st s' => ∃ i, s' = s ∧ rest = List.range' i (vs.length - i) ∧ i ≤ vs.length ∧ st.1.toList.map KBw.bInts = kss.take i ∧ ∀ p ∈ st.2, ∃ c u, p = (Value.bytes c u, none))
      _ ?_ ?_ _ _ ⟨0, rfl, by simp, Nat.zero_le _, rfl, fun p hp => nomatch hp⟩
    · rintro x rest ⟨parts, taken⟩ s' ⟨i, rfl, hr, hi, hpt, htk⟩
      have hlt : i < vs.length := by
        rcases Nat.lt_or_ge i vs.length with h | h
        · exact h
        · rw [Nat.sub_eq_zero_of_le h] at hr; simp at hr
      obtain ⟨rfl, hrest⟩ : x = i ∧ rest = List.range' (i + 1) (vs.length - (i + 1)) := by
        have e : vs.length - i = (vs.length - (i + 1)) + 1 := by omega
        rw [e, List.range'_succ] at hr
        injection hr with h1 h2
        exact ⟨h1, h2⟩
      obtain ⟨c, u, hc', hk'⟩ := hv.at x _ (List.getElem?_eq_getElem hlt)
      refine hf x parts taken c u _ _ htk (by simp [hlt, hc']) ⟨x + 1, rfl, hrest, hlt, ?_, ?_⟩
      · dsimp only at hpt ⊢
        rw [Array.toList_push, List.map_append, hpt, List.take_add_one, hk']
        rfl
      · intro p hp
        rcases List.mem_append.mp hp with hp | hp
        · exact htk p hp
        · rw [List.mem_singleton.mp hp]; exact ⟨_, _, rfl⟩
    · rintro ⟨parts, taken⟩ s' ⟨i, rfl, hr, hi, hpt, htk⟩
      have hi' : i = vs.length := by
        have := congrArg List.length hr
        simp at this; omega
      refine hQ parts taken ?_ htk
      dsimp only at hpt
      rw [hpt, hi', hlen, List.take_length]
  refine wpAny_bind (items ?_)
  dsimp only
  refine bm_if_true (by decide) ?_
  have one : ∀ {c : Array UInt8} {u : Tok} {ks : List Int}, KBw.bInts c = ks → kss = [ks] → R (.ok (.ret (.bytes c u))) s := fun {c u ks} e1 e2 => by
    have := hpost c u s.toks (by rw [e1, e2]; simp)
    exact this
  rcases hv with _ | ⟨e, _ | ⟨e2, h3⟩⟩
  case cons.nil =>
    refine wpAny_bind (wpAny_of_eq (a := Value.type "bytes") rfl ?_)
    refine bm_if_true (by decide) (wpAny_bind (wpAny_rule (wpAny_pure ?_)))
    exact one e rfl
  all_goals
    refine wpAny_bind (body _ ?_ _ _ ?_)
    · intro i parts taken c u Q E htk hget hQ
      refine wpAny_bind (items ?_)
      dsimp only
      rw [hget]
      refine bm_if_false ?_ ?_
      · rw [show (Kind.bytes == Kind.bytearray) = false from by decide, Bool.false_or]
        rw [List.any_eq_false]
        intro p hp
        obtain ⟨c', u', rfl⟩ := htk p hp
        exact fun h => by cases h
      refine wpAny_bind (wpAny_holding (wpAny_of_eq (bj_take c u) ?_))
      dsimp only
      refine wpAny_bind (items ?_)
      dsimp only
      refine bm_if_false (by simp) (wpAny_pure ?_)
      exact hQ
    · intro parts taken hp htk
      refine wpAny_bind (wpAny_of_eq (a := #[]) rfl ?_)
      refine bm_if_false ?_ ?_
      · rw [show Array.foldl (fun x1 x2 => x1 + x2.size) (#[].size * ((parts, taken).fst.size - 1)) (parts, taken).fst = (parts.toList.map KBw.bInts).flatten.length from (by rw [show (#[] : Array UInt8).size * ((parts, taken).fst.size - 1) = 0 from Nat.zero_mul _, ← Array.foldl_toList, fold_sizes, Nat.zero_add]), hp]
        simp only [tooLong, sizeLine_eq, decide_eq_false_iff_not]
        omega
      refine wpAny_bind (wpAny_mkBytes ?_ ?_)
      · refine wpAny_bind (wpAny_holding (wpAny_point ?_))
        refine wpAny_bind (letGo_bytes htk _ ?_)
        refine wpAny_pure ?_
        exact hpost _ _ _ (by rw [joined_nil, hp])
      · rw [← KBw.ints_length, joined_nil, hp, sizeLine_eq]
        exact hz
section
variable {prog : Program} {w : World} {A : Around} {E : Value → Shared → Prop} {s : Shared} {l L : Addr} {h₀ : Heap} {vs : List Value} {n : Nat} {news : List (Addr × Obj)} {Q : Value → Shared → Prop} {kss : List (List Int)} {t : Tok}
theorem join_K (N : News h₀ L s.heap news) (hm : (l, PySem.W.listOf vs.toArray n) ∈ news) (hv : BysAre vs kss) (hz : kss.flatten.length ≤ 16777216) (h : ∀ b t' k, KBw.bInts b = kss.flatten → Q (.bytes b t') { s with toks := k }) :
    wpAny (model prog w) A (call (.builtin "bytes.join") [.bytes #[] t, .ref l]) Q E s :=
  call_meets bj_slot (typeIs_bytes _ _ _) bj_entry (bj_args _ _) (bj_meets t l vs kss hv hz) ⟨News.isList N hm, fun b t' k e => h b t' k e⟩
end
section
variable {prog : Program} {w : World} {A : Around} {E : Value → Shared → Prop} {s : Shared} {l L : Addr} {h₀ : Heap} {m : Str → Option Value} {vs : List Value} {n : Nat} {news : List (Addr × Obj)} {Q : Value → Shared → Prop}
theorem my_tuple (F : Fr h₀ L s.heap m) (N : News h₀ L s.heap news) (hm : (l, PySem.W.listOf vs.toArray n) ∈ news) (hz : vs.length ≤ 16384)
    (h : ∀ D h', Fr h₀ L h' m → News h₀ L h' ((D, tupObj vs 0) :: news) → (∀ p ∈ news, p.1 < D) → Q (.ref D) { s with heap := h' }) : wpAny (model prog w) A (call (.type "tuple") [.ref l]) Q E s :=
  kde_tupleOf F N (News.isList N hm) (by simpa using hz) (by simp) h
end
/-- a tuple of the ledger or of the written part -/
def TupIn (w : World) (l : List (Addr × Obj)) (T : Addr) (vs : List Value) : Prop := ∃ n, (T, tupObj vs n) ∈ l ∨ (kay.heap_1 w.params).lookup T = some (tupObj vs n)
theorem TupIn.mono {w : World} {l l' : List (Addr × Obj)} {T : Addr} {vs : List Value} (h : TupIn w l T vs) (hs : ∀ p ∈ l, p ∈ l') : TupIn w l' T vs := by
  obtain ⟨n, h | h⟩ := h
  · exact ⟨n, .inl (hs _ h)⟩
  · exact ⟨n, .inr h⟩
section
variable {prog : Program} {w : World} {A : Around} {E : Value → Shared → Prop} {s : Shared} {l L : Addr} {h₀ : Heap} {m : Str → Option Value} {vs : List Value} {news : List (Addr × Obj)} {Q : Value → Shared → Prop}
theorem TupIn.at {T : Addr} (h : TupIn w news T vs) (F : Fr h₀ L s.heap m) (X : (kay.heap_1 w.params).In h₀) (N : News h₀ L s.heap news) : ∃ n, s.heap.get? T = some (tupObj vs n) := by
  obtain ⟨n, h | h⟩ := h
  · exact ⟨n, (N _ h).1⟩
  · exact ⟨n, F.keep _ _ (X _ _ h)⟩
theorem my_tuple_in (F : Fr h₀ L s.heap m) (X : (kay.heap_1 w.params).In h₀) (N : News h₀ L s.heap news) (hm : TupIn w news l vs) (h : Q (.ref l) s) : wpAny (model prog w) A (call (.type "tuple") [.ref l]) Q E s := by
  obtain ⟨n, e⟩ := hm.at F X N
  exact call_tuple_same ⟨_, e, rfl, n, rfl⟩ h
end
end

section
def isLoc (cs : Scope) (x : Str) : Bool := (cs.kind == .function) && (cs.names.lookup x == some .local) && !(x == ("__debug__" : Str))
def isGlob (cs : Scope) (x : Str) : Bool := (cs.kind == .function) && (cs.names.lookup x == some .globalImplicit) && !(x == ("__debug__" : Str))
theorem kindB {k : ScopeKind} (h : (k == .function) = true) : k = .function := by cases k <;> first | rfl | cases h
/-- arguments that are read in one step: names of the frame, ints, strs, cells -/
inductive Sv (names : List (Str × NameKind)) (m : Str → Option Value) (cv : Str → Value → Prop) : Nat → List Expr → List Value → Nat → Prop
  | nil {tk : Nat} : Sv names m cv tk [] [] tk
  | int {tk : Nat} {i : Int} {k : Nat} {pos : Pos} {r : List Expr} {vs : List Value} {tk' : Nat} : Sv names m cv (tk + 1) r vs tk' → Sv names m cv tk (.Constant (.int i) k pos :: r) (.int i tk :: vs) tk'
  | str {tk : Nat} {i : Str} {k : Nat} {pos : Pos} {r : List Expr} {vs : List Value} {tk' : Nat} : Sv names m cv (tk + 1) r vs tk' → Sv names m cv tk (.Constant (.str i) k pos :: r) (.str i tk :: vs) tk'
  | loc {tk : Nat} {x : Str} {pos : Pos} {v : Value} {r : List Expr} {vs : List Value} {tk' : Nat} : (names.lookup x == some .local && !(x == ("__debug__" : Str))) = true → m x = some v → Sv names m cv tk r vs tk' → Sv names m cv tk (.Name x pos :: r) (v :: vs) tk'
  | cell {tk : Nat} {x : Str} {pos : Pos} {v : Value} {r : List Expr} {vs : List Value} {tk' : Nat} : (names.lookup x == some .cell && !(x == ("__debug__" : Str))) = true → cv x v → Sv names m cv tk r vs tk' → Sv names m cv tk (.Name x pos :: r) (v :: vs) tk'
/-- a cell of the ledger holds v -/
def CvAt (cl : List (Str × Addr)) (news : List (Addr × Obj)) (x : Str) (v : Value) : Prop := ∃ c o, cl.lookup x = some c ∧ (c, o) ∈ news ∧ o.data = .cell (some v)
theorem CvAt.of {cl : List (Str × Addr)} {news : List (Addr × Obj)} {x : Str} {v : Value} {c : Addr} {o : Obj} (a : cl.lookup x = some c) (b : (c, o) ∈ news) (d : o.data = .cell (some v)) : CvAt cl news x v := ⟨c, o, a, b, d⟩
def NoCv (_ : Str) (_ : Value) : Prop := False
section
variable {prog : Program} {w : World} {A : Around} {E : Value → Shared → Prop} {s : Shared} {h₀ : Heap} {L a : Addr} {m mg mb : Str → Option Value} {cn : Str} {cs : Scope} {ccd : Value} {cl : List (Str × Addr)} {K : Frag} {p : Program} {loose : List Str} {cv : Str → Value → Prop} {news : List (Addr × Obj)}
theorem Sv.plain {names : List (Str × NameKind)} {tk tk' : Nat} {es : List Expr} {vs : List Value} {pos : Pos} {env : Env} (h : Sv names m cv tk es vs tk') : (backTo pos (starEach es env)).any (·.1) = false := by
  induction h with
  | nil => rfl
  | int _ ih => exact plain_cons rfl ih
  | str _ ih => exact plain_cons rfl ih
  | loc _ _ _ ih => exact plain_cons rfl ih
  | cell _ _ _ ih => exact plain_cons rfl ih
/-- the cells as the heap has them -/
def CvOk (cl : List (Str × Addr)) (cv : Str → Value → Prop) (h : Heap) : Prop := ∀ x v, cv x v → ∃ c, cl.lookup x = some c ∧ h.IsCell c (some v)
theorem cvOk_no {h : Heap} : CvOk cl NoCv h := fun _ _ h => h.elim
theorem cvOk_at {h : Heap} (N : News h₀ L h news) : CvOk cl (CvAt cl news) h := fun _ _ ⟨c, o, e, hm, hd⟩ => ⟨c, e, o, N.get hm, hd⟩
theorem name_cell {x : Str} {pos : Pos} {v : Value} {Q : Value → Shared → Prop} (hk : cs.kind = .function) (hx : (cs.names.lookup x == some .cell && !(x == ("__debug__" : Str))) = true) (ho : CvOk cl cv s.heap) (hv : cv x v) (h : Q v s) :
    wpAny (model prog w) A (eval (.Name x pos) (envX cn cs L a ccd cl)) Q E s := by
  rw [Bool.and_eq_true] at hx
  obtain ⟨c, e, hc⟩ := ho x v hv
  exact wpAny_Name (wpAny_loadName_cell hk (eq_of_beq hx.1) e hc h) (by simpa using hx.2)
theorem sv_one {tk tk' : Nat} {e : Expr} {v : Value} (h : Sv cs.names m cv tk [e] [v] tk') (hk : cs.kind = .function) {Q : Value → Shared → Prop} (ht : s.toks = tk) (F : Fr h₀ L s.heap m) (ho : CvOk cl cv s.heap) (k : Q v { s with toks := tk' }) : wpAny (model prog w) A (eval e (envX cn cs L a ccd cl)) Q E s := by
  subst ht
  cases h with
  | int h => cases h; exact wpAny_Constant_int k
  | str h => cases h; exact Calls.Constant_str k
  | loc hx hv h =>
    cases h
    rw [Bool.and_eq_true] at hx
    exact nameX_L F hv k hk (eq_of_beq hx.1) (by simpa using hx.2)
  | cell hx hv h => cases h; exact name_cell hk hx ho hv k
theorem sv_split {tk tk' : Nat} {e : Expr} {r : List Expr} {vs : List Value} (h : Sv cs.names m cv tk (e :: r) vs tk') : ∃ t1 v us, vs = v :: us ∧ Sv cs.names m cv tk [e] [v] t1 ∧ Sv cs.names m cv t1 r us tk' := by
  cases h with
  | int h => exact ⟨_, _, _, rfl, .int .nil, h⟩
  | str h => exact ⟨_, _, _, rfl, .str .nil, h⟩
  | loc hx hv h => exact ⟨_, _, _, rfl, .loc hx hv .nil, h⟩
  | cell hx hv h => exact ⟨_, _, _, rfl, .cell hx hv .nil, h⟩
theorem spliced_all {pos : Pos} (hk : cs.kind = .function) : ∀ (es : List Expr) {tk tk' : Nat} {vs : List Value}, Sv cs.names m cv tk es vs tk' →
    ∀ (s : Shared) (Q : List Value → Shared → Prop), s.toks = tk → Fr h₀ L s.heap m → CvOk cl cv s.heap → Q vs { s with toks := tk' } → wpAny (model prog w) A (spliced (backTo pos (starEach es (envX cn cs L a ccd cl)))) Q E s
  | [], _, _, _, h => by
    cases h
    intro s Q e F _ h
    subst e
    exact Calls.spliced_nil h
  | e :: r, _, _, _, h => by
    have he : notStar e = true := by cases h <;> rfl
    obtain ⟨t1, v, us, rfl, h1, h2⟩ := sv_split h
    intro s Q et F ho k
    exact spliced_more (sv_one h1 hk et F ho (spliced_all hk r h2 _ _ rfl F ho k)) (star_cons he)
theorem sv_two {tk' : Nat} {e f : Expr} {v u : Value} (F : Fr h₀ L s.heap m) (ho : CvOk cl cv s.heap) (h : Sv cs.names m cv s.toks [e, f] [v, u] tk') (hk : cs.kind = .function) {Q : Value → Value → Shared → Prop} (k : Q v u { s with toks := tk' }) :
    wpAny (model prog w) A (eval e (envX cn cs L a ccd cl)) (fun a' s₁ => wpAny (model prog w) A (eval f (envX cn cs L a ccd cl)) (Q a') E s₁) E s := by
  obtain ⟨t1, v', us, e', h1, h2⟩ := sv_split h
  cases e'
  exact sv_one h1 hk rfl F ho (sv_one h2 hk rfl F ho k)
theorem BinOp_run {hp : Heap} {gs : _} {dr : _} {tk0 : Nat} {os0 : _} {tk' : Nat} {l r : Expr} {op : Operator} {pos : Pos} {x y : Value} {Q : Value → Shared → Prop} (F : Fr h₀ L hp m) (h : Sv cs.names m NoCv tk0 [l, r] [x, y] tk') (k : wpAny (model prog w) A (binaryOp op x y) Q E ⟨hp, gs, dr, tk', os0⟩) (hk : cs.kind = .function) :
    wpAny (model prog w) A (eval (.BinOp l op r pos) (envX cn cs L a ccd cl)) Q E ⟨hp, gs, dr, tk0, os0⟩ := wpAny_BinOp (sv_two (s := ⟨hp, gs, dr, tk0, os0⟩) F cvOk_no h hk (Q := fun a' b' s' => wpAny (model prog w) A (binaryOp op a' b') Q E s') k)
theorem Subscript_run {hp : Heap} {gs : _} {dr : _} {tk0 : Nat} {os0 : _} {tk' : Nat} {l r : Expr} {pos : Pos} {x y : Value} {Q : Value → Shared → Prop} (F : Fr h₀ L hp m) (h : Sv cs.names m NoCv tk0 [l, r] [x, y] tk') (k : wpAny (model prog w) A (subscriptTail l r x y) Q E ⟨hp, gs, dr, tk', os0⟩) (hk : cs.kind = .function) :
    wpAny (model prog w) A (eval (.Subscript l r pos) (envX cn cs L a ccd cl)) Q E ⟨hp, gs, dr, tk0, os0⟩ := Subscript_ (sv_two (s := ⟨hp, gs, dr, tk0, os0⟩) F cvOk_no h hk (Q := fun a' b' s' => wpAny (model prog w) A (subscriptTail l r a' b') Q E s') k)
theorem spliced_run {hp : Heap} {gs : _} {dr : _} {tk0 : Nat} {os0 : _} {tk' : Nat} {es : List Expr} {vs : List Value} {pos : Pos} {Q : List Value → Shared → Prop} (F : Fr h₀ L hp m) (h : Sv cs.names m NoCv tk0 es vs tk') (k : Q vs ⟨hp, gs, dr, tk', os0⟩) (hk : cs.kind = .function) :
    wpAny (model prog w) A (spliced (backTo pos (starEach es (envX cn cs L a ccd cl)))) Q E ⟨hp, gs, dr, tk0, os0⟩ := spliced_all hk es h _ _ rfl F cvOk_no k
theorem spliced_runC {hp : Heap} {gs : _} {dr : _} {tk0 : Nat} {os0 : _} {tk' : Nat} {es : List Expr} {vs : List Value} {pos : Pos} {Q : List Value → Shared → Prop} (F : Fr h₀ L hp m) (N : News h₀ L hp news) (h : Sv cs.names m (CvAt cl news) tk0 es vs tk') (k : Q vs ⟨hp, gs, dr, tk', os0⟩) (hk : cs.kind = .function) :
    wpAny (model prog w) A (spliced (backTo pos (starEach es (envX cn cs L a ccd cl)))) Q E ⟨hp, gs, dr, tk0, os0⟩ := spliced_all hk es h _ _ rfl F (cvOk_at N) k
theorem call_run {hp : Heap} {gs : _} {dr : _} {tk0 : Nat} {os0 : _} {tk' : Nat} {f : Str} {fp : Pos} {e : Expr} {es : List Expr} {vs : List Value} {pos : Pos} {fv : Value} {Q : Value → Shared → Prop} (F : Fr h₀ L hp m) (X : K.In h₀) (T : TopRead p loose mg mb h₀) (hf : nsIn K mainGlobals f = some (some fv)) (hkp : keepIn K fv = true)
    (h : Sv cs.names m NoCv tk0 (e :: es) vs tk') (k : wpAny (model prog w) A (call fv vs) Q E ⟨hp, gs, dr, tk', os0⟩) (hk : cs.kind = .function) (hx : isGlob cs f = true) :
    wpAny (model prog w) A (eval (.Call (.Name f fp) (e :: es) [] pos) (envX cn cs L a ccd cl)) Q E ⟨hp, gs, dr, tk0, os0⟩ := by
  have c := hx
  unfold isGlob at c
  simp only [Bool.and_eq_true] at c
  refine Call_ (nameX_K (s := ⟨hp, gs, dr, tk0, os0⟩) F X T hf ?_ hk (eq_of_beq c.1.2) (by simpa using c.2))
  have hpl := h.plain (pos := pos) (env := envX cn cs L a ccd cl)
  have he : notStar e = true := by cases h <;> rfl
  refine callWith_K X hkp (spliced_run F h ⟨X.keeps F.keep, k⟩ hk) (star_cons he) ?_
  rw [star_cons he] at hpl
  simpa [backTo] using hpl
theorem call_runC {hp : Heap} {gs : _} {dr : _} {tk0 : Nat} {os0 : _} {tk' : Nat} {f : Str} {fp : Pos} {e : Expr} {es : List Expr} {vs : List Value} {pos : Pos} {fv : Value} {Q : Value → Shared → Prop} (F : Fr h₀ L hp m) (N : News h₀ L hp news) (X : K.In h₀) (T : TopRead p loose mg mb h₀) (hf : nsIn K mainGlobals f = some (some fv)) (hkp : keepIn K fv = true)
    (h : Sv cs.names m (CvAt cl news) tk0 (e :: es) vs tk') (k : wpAny (model prog w) A (call fv vs) Q E ⟨hp, gs, dr, tk', os0⟩) (hk : cs.kind = .function) (hx : isGlob cs f = true) :
    wpAny (model prog w) A (eval (.Call (.Name f fp) (e :: es) [] pos) (envX cn cs L a ccd cl)) Q E ⟨hp, gs, dr, tk0, os0⟩ := by
  have c := hx
  unfold isGlob at c
  simp only [Bool.and_eq_true] at c
  refine Call_ (nameX_K (s := ⟨hp, gs, dr, tk0, os0⟩) F X T hf ?_ hk (eq_of_beq c.1.2) (by simpa using c.2))
  have hpl := h.plain (pos := pos) (env := envX cn cs L a ccd cl)
  have he : notStar e = true := by cases h <;> rfl
  refine callWith_K X hkp (spliced_runC F N h ⟨X.keeps F.keep, k⟩ hk) (star_cons he) ?_
  rw [star_cons he] at hpl
  simpa [backTo] using hpl
end
section
variable {prog : Program} {w : World} {A : Around} {E : Value → Shared → Prop} {s : Shared} {h₀ : Heap} {L a : Addr} {m mg mb : Str → Option Value} {cn : Str} {cs : Scope} {ccd : Value} {cl : List (Str × Addr)} {cv : Str → Value → Prop} {news : List (Addr × Obj)}
end
theorem tree_id {α : Type} {M : Model} {A : Around} {x : Sem α} {Q : α → Shared → Prop} {E : Value → Shared → Prop} {s : Shared} (h : wpAny M A x Q E s) : wpAny M A x Q E s := h
theorem in_nil : KBa.In [] := fun _ h => nomatch h
theorem in_cons {a : Int} {r : List Int} (h0 : 0 ≤ a) (h1 : a < 256) (h : KBa.In r) : KBa.In (a :: r) := fun n hn => by
  rcases List.mem_cons.mp hn with rfl | hn
  · exact ⟨h0, h1⟩
  · exact h n hn
section
variable {prog : Program} {w : World} {A : Around} {E : Value → Shared → Prop} {a b c : Int} {t u : Tok} {Q : Value → Shared → Prop} {hp : Heap} {gs : _} {dr : _} {tk0 : Nat} {os0 : _}
theorem add_k (e : a + b = c) (h : Q (.int c tk0) ⟨hp, gs, dr, tk0 + 1, os0⟩) : wpAny (model prog w) A (binaryOp .Add (.int a t) (.int b u)) Q E ⟨hp, gs, dr, tk0, os0⟩ := by subst e; exact PyProof.Rows.add_int h
theorem iadd_k (e : a + b = c) (h : Q (.int c tk0) ⟨hp, gs, dr, tk0 + 1, os0⟩) : wpAny (model prog w) A (inplaceOp .Add (.int a t) (.int b u)) Q E ⟨hp, gs, dr, tk0, os0⟩ := by subst e; exact PyProof.Rows.iadd_int h
theorem sub_k (e : a - b = c) (h : Q (.int c tk0) ⟨hp, gs, dr, tk0 + 1, os0⟩) : wpAny (model prog w) A (binaryOp .Sub (.int a t) (.int b u)) Q E ⟨hp, gs, dr, tk0, os0⟩ := by subst e; exact PyProof.Rows.sub_int h
theorem mul_k (e : a * b = c) (hm : IntMulOk a b) (h : Q (.int c tk0) ⟨hp, gs, dr, tk0 + 1, os0⟩) : wpAny (model prog w) A (binaryOp .Mult (.int a t) (.int b u)) Q E ⟨hp, gs, dr, tk0, os0⟩ := by subst e; exact PyProof.Rows.mul_int h hm
theorem shl_k (e : a * 2 ^ b.toNat = c) (hn : 0 ≤ b) (hn2 : b ≤ 1000000) (ha : a.natAbs < 2 ^ 64) (h : Q (.int c tk0) ⟨hp, gs, dr, tk0 + 1, os0⟩) : wpAny (model prog w) A (binaryOp .LShift (.int a t) (.int b u)) Q E ⟨hp, gs, dr, tk0, os0⟩ := by subst e; exact PyProof.Rows.lshift_int_small hn hn2 ha h
theorem pow_k (e : a ^ b.toNat = c) (hn : 0 ≤ b) (hn2 : b ≤ 1000000) (ha : a.natAbs < 2 ^ 64) (h : Q (.int c tk0) ⟨hp, gs, dr, tk0 + 1, os0⟩) : wpAny (model prog w) A (binaryOp .Pow (.int a t) (.int b u)) Q E ⟨hp, gs, dr, tk0, os0⟩ := by subst e; exact PyProof.Rows.pow_int_small hn hn2 ha h
theorem shr_k (e : a / 2 ^ b.toNat = c) (hn : 0 ≤ b) (h : Q (.int c tk0) ⟨hp, gs, dr, tk0 + 1, os0⟩) : wpAny (model prog w) A (binaryOp .RShift (.int a t) (.int b u)) Q E ⟨hp, gs, dr, tk0, os0⟩ := by
  refine PyProof.Rows.rshift_int hn ?_
  rw [Int.fdiv_eq_ediv_of_nonneg _ (Int.le_of_lt (kbt_pos _)), e]; exact h
theorem and_k (h : Q (.int (a % 256) tk0) ⟨hp, gs, dr, tk0 + 1, os0⟩) : wpAny (model prog w) A (binaryOp .BitAnd (.int a t) (.int 255 u)) Q E ⟨hp, gs, dr, tk0, os0⟩ := by
  refine PyProof.Rows.and_int ?_
  rw [bitAnd_255]; exact h
theorem or_k (hf : 0 ≤ a) (h0 : 0 ≤ b) (h1 : b < 256) (h : Q (.int (a * 256 + b) tk0) ⟨hp, gs, dr, tk0 + 1, os0⟩) : wpAny (model prog w) A (binaryOp .BitOr (.int (a * 256) t) (.int b u)) Q E ⟨hp, gs, dr, tk0, os0⟩ := by
  refine PyProof.Rows.or_int ?_
  rw [bitOr_byte hf h0 h1]; exact h
theorem fdiv_k (hb : 0 < b) (hs : b < 18446744073709551616) (h : Q (.int (a / b) tk0) ⟨hp, gs, dr, tk0 + 1, os0⟩) : wpAny (model prog w) A (binaryOp .FloorDiv (.int a t) (.int b u)) Q E ⟨hp, gs, dr, tk0, os0⟩ :=
  floordiv_int (by omega) (by rw [Int.fdiv_eq_ediv_of_nonneg _ (by omega)]; exact h) (Or.inl (noPy hb hs))
theorem fmod_k (hb : 0 < b) (h : Q (.int (a % b) tk0) ⟨hp, gs, dr, tk0 + 1, os0⟩) : wpAny (model prog w) A (binaryOp .Mod (.int a t) (.int b u)) Q E ⟨hp, gs, dr, tk0, os0⟩ :=
  mod_int' (by omega) (by rw [Int.fmod_eq_emod_of_nonneg _ (by omega)]; exact h)
end
/-! room -/
theorem rm0 {a D d R : Nat} (h : a + D < R) (e : Nat.ble d D = true) : a + d < R := Nat.lt_of_le_of_lt (Nat.add_le_add_left (Nat.le_of_ble_eq_true e) a) h
theorem rmk {a k D d R : Nat} (h : a + D < R) (e : Nat.ble (k + d) D = true) : a + k + d < R := by
  have := Nat.le_of_ble_eq_true e
  omega
section
variable {w : World} {D U : Nat} {f : Value} {args : List Value} {led : List (Addr × Obj)}
    {mean : ExcName → Option Value} {mg mb : Str → Option Value} {dp un : Nat} {gd : Option (List Code)} {cn : Str} {cs : Scope} {a : Addr} {ccd : Value} {cl : List (Str × Addr)} {outer : List Env} {A₀ : Around} {base h₀ : Heap} {L : Addr} {m : Str → Option Value} {s : Shared} {Q E : Value → Shared → Prop}
/-- a contract that gives bytes -/
theorem Ctr.useB {ks : List Int} (C : Ctr w D U f args led (fun v l => IsBy v ks ∧ led = l)) (B : Below A₀ base outer h₀) (F : Fr h₀ L s.heap m) (X : (kay.heap_1 w.params).In h₀) (N : News h₀ L s.heap led) (T : Top topProg lo mean mg mb h₀) (hk : cs.kind = .function) (hdp : dp + D < recursionLimit) (hun : un + U < cLine)
    (h : ∀ (h' : Heap) (tk' : Nat), Fr h₀ L h' m → ∀ (b : Array UInt8) (t : Tok), KBw.bInts b = ks → News h₀ L h' led → Q (.bytes b t) { s with heap := h', toks := tk' }) :
    wpAny (model pw w) (ktrTop dp un gd cn cs L a ccd cl outer) (call f args) Q E s :=
  C.use B F X N T hk hdp hun fun v l h' tk' hP F' N' => by
    obtain ⟨⟨b, t, rfl, hb⟩, rfl⟩ := hP
    exact h h' tk' F' b t hb N'
/-- a contract that gives an int -/
theorem Ctr.useI {x : Int} (C : Ctr w D U f args led (fun v l => (∃ t, v = .int x t) ∧ led = l)) (B : Below A₀ base outer h₀) (F : Fr h₀ L s.heap m) (X : (kay.heap_1 w.params).In h₀) (N : News h₀ L s.heap led) (T : Top topProg lo mean mg mb h₀) (hk : cs.kind = .function) (hdp : dp + D < recursionLimit) (hun : un + U < cLine)
    (h : ∀ (h' : Heap) (tk' : Nat), Fr h₀ L h' m → ∀ t : Tok, News h₀ L h' led → Q (.int x t) { s with heap := h', toks := tk' }) :
    wpAny (model pw w) (ktrTop dp un gd cn cs L a ccd cl outer) (call f args) Q E s :=
  C.use B F X N T hk hdp hun fun v l h' tk' hP F' N' => by
    obtain ⟨⟨t, rfl⟩, rfl⟩ := hP
    exact h h' tk' F' t N'
/-- a contract that gives one value -/
theorem Ctr.useV {x : Value} (C : Ctr w D U f args led (fun v l => v = x ∧ led = l)) (B : Below A₀ base outer h₀) (F : Fr h₀ L s.heap m) (X : (kay.heap_1 w.params).In h₀) (N : News h₀ L s.heap led) (T : Top topProg lo mean mg mb h₀) (hk : cs.kind = .function) (hdp : dp + D < recursionLimit) (hun : un + U < cLine)
    (h : ∀ (h' : Heap) (tk' : Nat), Fr h₀ L h' m → News h₀ L h' led → Q x { s with heap := h', toks := tk' }) :
    wpAny (model pw w) (ktrTop dp un gd cn cs L a ccd cl outer) (call f args) Q E s :=
  C.use B F X N T hk hdp hun fun v l h' tk' hP F' N' => by
    obtain ⟨rfl, rfl⟩ := hP
    exact h h' tk' F' N'
end

theorem Ctr.open {w : World} {D U : Nat} {f : Value} {args : List Value} {led : List (Addr × Obj)} {P : Value → List (Addr × Obj) → Prop}
  (h : ∀ (mean : ExcName → Option Value) (mg mb : Str → Option Value) (dp un : Nat) (gd : Option (List Code)) (cn : Str) (cs : Scope) (a : Addr) (ccd : Value) (cl : List (Str × Addr)) (outer : List Env) (A₀ : Around) (base h₀ : Heap) (L : Addr) (m : Str → Option Value) (hp : Heap) (gs : _) (dr : _) (tk : Nat) (os : _) (Q E : Value → Shared → Prop),
    Below A₀ base outer h₀ → Fr h₀ L hp m → (kay.heap_1 w.params).In h₀ → News h₀ L hp led → Top topProg lo mean mg mb h₀ → cs.kind = .function → dp + D < recursionLimit → un + U < cLine →
    (∀ (v : Value) (led' : List (Addr × Obj)) (h' : Heap) (tk' : Nat), P v led' → Fr h₀ L h' m → News h₀ L h' led' → Q v ⟨h', gs, dr, tk', os⟩) →
    wpAny (model pw w) (ktrTop dp un gd cn cs L a ccd cl outer) (call f args) Q E ⟨hp, gs, dr, tk, os⟩) : Ctr w D U f args led P :=
  fun mean mg mb dp un gd cn cs a ccd cl outer A₀ base h₀ L m ⟨hp, gs, dr, tk, os⟩ Q E B F X N T hk hdp hun hret => h mean mg mb dp un gd cn cs a ccd cl outer A₀ base h₀ L m hp gs dr tk os Q E B F X N T hk hdp hun hret
theorem toX {M : Model} {a : Around} {n : Str} {sc : Scope} {L f : Addr} {cd : Value} {b : List Stmt} {Q : Flow → Shared → Prop} {E : Value → Shared → Prop} {s : Shared} (h : wpAny M a (execs b (envX n sc L f cd [])) Q E s) : wpAny M a (execs b (envOf n sc L f cd)) Q E s := h
theorem letAE {M : Model} {a : Around} {e : Env} {b : List Stmt} {Q : Flow → Shared → Prop} {E : Value → Shared → Prop} {s : Shared} (h : let A := a; let v := e; wpAny M A (execs b v) Q E s) : wpAny M a (execs b e) Q E s := h
/-! rules with the state written out -/
section
variable {M : Model} {prog : Program} {w : World} {A : Around} {E : Value → Shared → Prop} {h₀ hp : Heap} {gs : _} {dr : _} {tk : Nat} {os : _} {L a : Addr} {m mg mb : Str → Option Value} {cn : Str} {cs : Scope} {ccd : Value} {cl : List (Str × Addr)} {env : Env} {K : Frag} {p : Program} {loose : List Str}
  {x : Str} {v : Value} {pos : Pos} {news : List (Addr × Obj)} {Q : Value → Shared → Prop} {k : Nat} {i : Int} {u : Str}
theorem cInt (h : Q (.int i tk) ⟨hp, gs, dr, tk + 1, os⟩) : wpAny M A (eval (.Constant (.int i) k pos) env) Q E ⟨hp, gs, dr, tk, os⟩ := wpAny_Constant_int h
theorem cStr (h : Q (.str u tk) ⟨hp, gs, dr, tk + 1, os⟩) : wpAny M A (eval (.Constant (.str u) k pos) env) Q E ⟨hp, gs, dr, tk, os⟩ := Calls.Constant_str h
theorem nameL (c : isLoc cs x = true) (F : Fr h₀ L hp m) (hv : m x = some v) (h : Q v ⟨hp, gs, dr, tk, os⟩) : wpAny M A (eval (.Name x pos) (envX cn cs L a ccd cl)) Q E ⟨hp, gs, dr, tk, os⟩ := by
  unfold isLoc at c
  simp only [Bool.and_eq_true] at c
  exact nameX_L (s := ⟨hp, gs, dr, tk, os⟩) F hv h (kindB c.1.1) (eq_of_beq c.1.2) (by simpa using c.2)
theorem nameK (c : isGlob cs x = true) (F : Fr h₀ L hp m) (X : K.In h₀) (T : TopRead p loose mg mb h₀) (e : nsIn K mainGlobals x = some (some v)) (h : Q v ⟨hp, gs, dr, tk, os⟩) : wpAny M A (eval (.Name x pos) (envX cn cs L a ccd cl)) Q E ⟨hp, gs, dr, tk, os⟩ := by
  unfold isGlob at c
  simp only [Bool.and_eq_true] at c
  exact nameX_K (s := ⟨hp, gs, dr, tk, os⟩) F X T e h (kindB c.1.1) (eq_of_beq c.1.2) (by simpa using c.2)
theorem nameB (c : isGlob cs x = true) (F : Fr h₀ L hp m) (X : K.In h₀) (T : TopRead p loose mg mb h₀) (e : nsIn K mainGlobals x = some none) (hv : bootBuiltins x = some v) (hn : x ≠ "__name__") (h : Q v ⟨hp, gs, dr, tk, os⟩) : wpAny M A (eval (.Name x pos) (envX cn cs L a ccd cl)) Q E ⟨hp, gs, dr, tk, os⟩ := by
  unfold isGlob at c
  simp only [Bool.and_eq_true] at c
  exact nameX_B (s := ⟨hp, gs, dr, tk, os⟩) F X T e hv hn h (kindB c.1.1) (eq_of_beq c.1.2) (by simpa using c.2)
theorem storeL {Q : Unit → Shared → Prop} (c : isLoc cs x = true) (F : Fr h₀ L hp m) (N : News h₀ L hp news)
    (h : ∀ h', Fr h₀ L h' (fun y => if y = x then some v else m y) → News h₀ L h' news → Q () ⟨h', gs, dr, tk + 1, os⟩) : wpAny M A (storeName (envX cn cs L a ccd cl) x v) Q E ⟨hp, gs, dr, tk, os⟩ := by
  unfold isLoc at c
  simp only [Bool.and_eq_true] at c
  exact storeX_L (s := ⟨hp, gs, dr, tk, os⟩) F N h (kindB c.1.1) (eq_of_beq c.1.2)
theorem newListE {vs : List Value} (F : Fr h₀ L hp m) (N : News h₀ L hp news) (hsz : Nat.ble vs.length 16384 = true)
    (h : ∀ l h', Fr h₀ L h' m → News h₀ L h' ((l, PySem.W.listOf vs.toArray 0) :: news) → (∀ p ∈ news, p.1 < l) → Q (.ref l) ⟨h', gs, dr, tk, os⟩) : wpAny M A (newList vs) Q E ⟨hp, gs, dr, tk, os⟩ :=
  newList_K (s := ⟨hp, gs, dr, tk, os⟩) F N h (by have := Nat.le_of_ble_eq_true hsz; rw [sizeLine_eq]; omega)
theorem newTupleE {vs : List Value} (F : Fr h₀ L hp m) (N : News h₀ L hp news) (hsz : Nat.ble vs.length 16384 = true)
    (h : ∀ D h', Fr h₀ L h' m → News h₀ L h' ((D, ({ cls := .type "tuple", data := .seq vs.toArray } : Obj)) :: news) → (∀ p ∈ news, p.1 < D) → Q (.ref D) ⟨h', gs, dr, tk, os⟩) : wpAny M A (newTuple vs) Q E ⟨hp, gs, dr, tk, os⟩ :=
  kup_newTuple (s := ⟨hp, gs, dr, tk, os⟩) F N h (by have := Nat.le_of_ble_eq_true hsz; rw [sizeLine_eq]; omega)
theorem lenB {b : Array UInt8} {t : Tok} {ks : List Int} {c : Int} (hk : KBw.bInts b = ks) (e : ((ks.length : Nat) : Int) = c) (hfit : ks.length ≤ 16777216)
    (h : Q (.int c (tk + 1)) ⟨hp, gs, dr, tk + 1 + 1, os⟩) : wpAny (model prog w) A (call (.builtin "len") [.bytes b t]) Q E ⟨hp, gs, dr, tk, os⟩ := by
  subst e
  exact KBw.len_K (s := ⟨hp, gs, dr, tk, os⟩) hk (by omega) h
end
section
variable {w : World} {D U : Nat} {f : Value} {args : List Value} {led : List (Addr × Obj)}
    {mean : ExcName → Option Value} {mg mb : Str → Option Value} {dp un : Nat} {gd : Option (List Code)} {cn : Str} {cs : Scope} {a : Addr} {ccd : Value} {cl : List (Str × Addr)} {outer : List Env} {A₀ : Around} {base h₀ hp : Heap} {L : Addr} {m : Str → Option Value} {gs : _} {dr : _} {tk : Nat} {os : _} {Q E : Value → Shared → Prop}
theorem Ctr.eB {ks : List Int} (C : Ctr w D U f args led (fun v l => IsBy v ks ∧ led = l)) (B : Below A₀ base outer h₀) (F : Fr h₀ L hp m) (X : (kay.heap_1 w.params).In h₀) (N : News h₀ L hp led) (T : Top topProg lo mean mg mb h₀) (hk : cs.kind = .function) (hdp : dp + D < recursionLimit) (hun : un + U < cLine)
    (h : ∀ (h' : Heap) (tk' : Nat), Fr h₀ L h' m → ∀ (b : Array UInt8) (t : Tok), KBw.bInts b = ks → News h₀ L h' led → Q (.bytes b t) ⟨h', gs, dr, tk', os⟩) :
    wpAny (model pw w) (ktrTop dp un gd cn cs L a ccd cl outer) (call f args) Q E ⟨hp, gs, dr, tk, os⟩ := C.useB (s := ⟨hp, gs, dr, tk, os⟩) B F X N T hk hdp hun h
theorem Ctr.eI {x : Int} (C : Ctr w D U f args led (fun v l => (∃ t, v = .int x t) ∧ led = l)) (B : Below A₀ base outer h₀) (F : Fr h₀ L hp m) (X : (kay.heap_1 w.params).In h₀) (N : News h₀ L hp led) (T : Top topProg lo mean mg mb h₀) (hk : cs.kind = .function) (hdp : dp + D < recursionLimit) (hun : un + U < cLine)
    (h : ∀ (h' : Heap) (tk' : Nat), Fr h₀ L h' m → ∀ t : Tok, News h₀ L h' led → Q (.int x t) ⟨h', gs, dr, tk', os⟩) :
    wpAny (model pw w) (ktrTop dp un gd cn cs L a ccd cl outer) (call f args) Q E ⟨hp, gs, dr, tk, os⟩ := C.useI (s := ⟨hp, gs, dr, tk, os⟩) B F X N T hk hdp hun h
theorem Ctr.eV {x : Value} (C : Ctr w D U f args led (fun v l => v = x ∧ led = l)) (B : Below A₀ base outer h₀) (F : Fr h₀ L hp m) (X : (kay.heap_1 w.params).In h₀) (N : News h₀ L hp led) (T : Top topProg lo mean mg mb h₀) (hk : cs.kind = .function) (hdp : dp + D < recursionLimit) (hun : un + U < cLine)
    (h : ∀ (h' : Heap) (tk' : Nat), Fr h₀ L h' m → News h₀ L h' led → Q x ⟨h', gs, dr, tk', os⟩) :
    wpAny (model pw w) (ktrTop dp un gd cn cs L a ccd cl outer) (call f args) Q E ⟨hp, gs, dr, tk, os⟩ := C.useV (s := ⟨hp, gs, dr, tk, os⟩) B F X N T hk hdp hun h
end
/-! pure arithmetic in one step -/
inductive Ar : Operator → Int → Int → Int → Prop
  | add {a b c : Int} : a + b = c → Ar .Add a b c
  | sub {a b c : Int} : a - b = c → Ar .Sub a b c
  | mul {a b c : Int} : IntMulOk a b → a * b = c → Ar .Mult a b c
  | fdiv {a b : Int} : 0 < b → b < 18446744073709551616 → Ar .FloorDiv a b (a / b)
  | fdivL {a b : Int} : (decide (0 < b) && decide (b < 18446744073709551616)) = true → Ar .FloorDiv a b (a / b)
  | fmodL {a b : Int} : decide (0 < b) = true → Ar .Mod a b (a % b)
  | powL {a b c : Int} : a ^ b.toNat = c → (decide (0 ≤ b) && decide (b ≤ 1000000) && decide (a.natAbs < 18446744073709551616)) = true → Ar .Pow a b c
  | fmod {a b : Int} : 0 < b → Ar .Mod a b (a % b)
  | shr {a b c : Int} : a / 2 ^ b.toNat = c → 0 ≤ b → Ar .RShift a b c
  | shl {a b c : Int} : a * 2 ^ b.toNat = c → 0 ≤ b → b ≤ 1000000 → a.natAbs < 2 ^ 64 → Ar .LShift a b c
  | pow {a b c : Int} : a ^ b.toNat = c → 0 ≤ b → b ≤ 1000000 → a.natAbs < 2 ^ 64 → Ar .Pow a b c
  | and {a : Int} : Ar .BitAnd a 255 (a % 256)
section
variable {prog : Program} {w : World} {A : Around} {E : Value → Shared → Prop} {h₀ hp : Heap} {gs : _} {dr : _} {tk tk' : Nat} {os : _} {L a : Addr} {m : Str → Option Value} {cn : Str} {cs : Scope} {ccd : Value} {cl : List (Str × Addr)} {cv : Str → Value → Prop} {news : List (Addr × Obj)}
theorem ar_run {op : Operator} {x y z : Int} {t u : Tok} {Q : Value → Shared → Prop} (h : Ar op x y z) (k : Q (.int z tk) ⟨hp, gs, dr, tk + 1, os⟩) : wpAny (model prog w) A (binaryOp op (.int x t) (.int y u)) Q E ⟨hp, gs, dr, tk, os⟩ := by
  cases h with
  | add e => with_reducible exact add_k e k
  | sub e => with_reducible exact sub_k e k
  | mul m e => with_reducible exact mul_k e m k
  | fdiv p q => with_reducible exact fdiv_k p q k
  | fdivL e =>
    rw [Bool.and_eq_true] at e
    with_reducible exact fdiv_k (of_decide_eq_true e.1) (of_decide_eq_true e.2) k
  | fmodL e => with_reducible exact fmod_k (of_decide_eq_true e) k
  | powL q e =>
    rw [Bool.and_eq_true, Bool.and_eq_true] at e
    with_reducible exact pow_k q (of_decide_eq_true e.1.1) (of_decide_eq_true e.1.2) (of_decide_eq_true e.2) k
  | fmod p => with_reducible exact fmod_k p k
  | shr e p => with_reducible exact shr_k e p k
  | shl e p q r => with_reducible exact shl_k e p q r k
  | pow e p q r => with_reducible exact pow_k e p q r k
  | and => with_reducible exact and_k k
/-- a pure expression: names, cells, written ints and strs, arithmetic -/
inductive Pe (cs : Scope) (m : Str → Option Value) (cv : Str → Value → Prop) : Nat → Expr → Value → Nat → Prop
  | int {tk : Nat} {i : Int} {k : Nat} {pos : Pos} : Pe cs m cv tk (.Constant (.int i) k pos) (.int i tk) (tk + 1)
  | str {tk : Nat} {i : Str} {k : Nat} {pos : Pos} : Pe cs m cv tk (.Constant (.str i) k pos) (.str i tk) (tk + 1)
  | loc {tk : Nat} {x : Str} {pos : Pos} {v : Value} : (cs.names.lookup x == some .local && !(x == ("__debug__" : Str))) = true → m x = some v → Pe cs m cv tk (.Name x pos) v tk
  | cell {tk : Nat} {x : Str} {pos : Pos} {v : Value} : (cs.names.lookup x == some .cell && !(x == ("__debug__" : Str))) = true → cv x v → Pe cs m cv tk (.Name x pos) v tk
  | bin {tk t1 t2 : Nat} {l r : Expr} {op : Operator} {pos : Pos} {x y z : Int} {t u : Tok} : Pe cs m cv tk l (.int x t) t1 → Pe cs m cv t1 r (.int y u) t2 → Ar op x y z → Pe cs m cv tk (.BinOp l op r pos) (.int z t2) (t2 + 1)
theorem pe_all {e : Expr} {v : Value} (h : Pe cs m cv tk e v tk') (hk : cs.kind = .function) (F : Fr h₀ L hp m) (ho : CvOk cl cv hp) : ∀ {Q : Value → Shared → Prop}, Q v ⟨hp, gs, dr, tk', os⟩ → wpAny (model prog w) A (eval e (envX cn cs L a ccd cl)) Q E ⟨hp, gs, dr, tk, os⟩ := by
  induction h with
  | int => intro Q k; with_reducible exact cInt k
  | str => intro Q k; with_reducible exact cStr k
  | loc hx hv =>
    intro Q k
    rw [Bool.and_eq_true] at hx
    have hz := hx.2
    simp only [Bool.not_eq_true'] at hz
    have hy := eq_of_beq hx.1
    with_reducible refine nameX_L (s := ⟨hp, gs, dr, _, os⟩) F hv k hk ?_ hz
    exact hy
  | cell hx hv => intro Q k; with_reducible exact name_cell hk hx ho hv k
  | bin _ _ hop ih1 ih2 =>
    intro Q k
    with_reducible exact wpAny_BinOp (ih1 (ih2 (ar_run hop k)))
theorem pe_runC {e : Expr} {v : Value} {Q : Value → Shared → Prop} (F : Fr h₀ L hp m) (N : News h₀ L hp news) (h : Pe cs m (CvAt cl news) tk e v tk') (k : Q v ⟨hp, gs, dr, tk', os⟩) (hk : (cs.kind == .function) = true) : wpAny (model prog w) A (eval e (envX cn cs L a ccd cl)) Q E ⟨hp, gs, dr, tk, os⟩ := pe_all h (kindB hk) F (cvOk_at N) k
/-- pure arguments ahead -/
inductive Ps (cs : Scope) (m : Str → Option Value) (cv : Str → Value → Prop) : Nat → List Expr → (List Value → List Value) → Nat → List Expr → Prop
  | nil {tk : Nat} {r : List Expr} : Ps cs m cv tk r (fun ws => ws) tk r
  | one {tk t1 tk' : Nat} {e : Expr} {v : Value} {r rest : List Expr} {f : List Value → List Value} : Pe cs m cv tk e v t1 → Ps cs m cv t1 r f tk' rest → Ps cs m cv tk (e :: r) (fun ws => v :: f ws) tk' rest
theorem Pe.noStar {e : Expr} {v : Value} (h : Pe cs m cv tk e v tk') : notStar e = true := by cases h <;> rfl
theorem ps_all {pos : Pos} (hk : cs.kind = .function) (F : Fr h₀ L hp m) (ho : CvOk cl cv hp) {es rest : List Expr} {f : List Value → List Value} (h : Ps cs m cv tk es f tk' rest) : ∀ {Q : List Value → Shared → Prop},
    wpAny (model prog w) A (spliced (backTo pos (starEach rest (envX cn cs L a ccd cl)))) (fun ws s₂ => Q (f ws) s₂) E ⟨hp, gs, dr, tk', os⟩ → wpAny (model prog w) A (spliced (backTo pos (starEach es (envX cn cs L a ccd cl)))) Q E ⟨hp, gs, dr, tk, os⟩ := by
  induction h with
  | nil => intro Q k; exact k
  | one h1 _ ih => intro Q k; exact spliced_more (pe_all h1 hk F ho (ih k)) (star_cons h1.noStar)
theorem args_preC {pos : Pos} {es rest : List Expr} {f : List Value → List Value} {Q : List Value → Shared → Prop} (F : Fr h₀ L hp m) (N : News h₀ L hp news) (h : Ps cs m (CvAt cl news) tk es f tk' rest) (k : wpAny (model prog w) A (spliced (backTo pos (starEach rest (envX cn cs L a ccd cl)))) (fun ws s₂ => Q (f ws) s₂) E ⟨hp, gs, dr, tk', os⟩) (hk : (cs.kind == .function) = true) : wpAny (model prog w) A (spliced (backTo pos (starEach es (envX cn cs L a ccd cl)))) Q E ⟨hp, gs, dr, tk, os⟩ := ps_all (kindB hk) F (cvOk_at N) h k
/-- comparing two ints -/
inductive Cm : CmpOp → Int → Int → Bool → Prop
  | eq {a b : Int} : Cm .Eq a b (a == b)
  | ne {a b : Int} : Cm .NotEq a b (a != b)
  | lt {a b : Int} : Cm .Lt a b (decide (a < b))
  | le {a b : Int} : Cm .LtE a b (decide (a ≤ b))
  | gt {a b : Int} : Cm .Gt a b (decide (a > b))
  | ge {a b : Int} : Cm .GtE a b (decide (a ≥ b))
theorem cm_run {s : Shared} {op : CmpOp} {x y : Int} {z : Bool} {t u : Tok} {Q : Value → Shared → Prop} (h : Cm op x y z) (k : Q (.bool z) s) : wpAny (model prog w) A (compareOp op (.int x t) (.int y u)) Q E s := by
  cases h with
  | eq => exact eq_int k
  | ne => exact ne_int k
  | lt => exact lt_int k
  | le => exact le_int k
  | gt => exact gt_int k
  | ge => exact ge_int k
theorem test_runC {l r : Expr} {op : CmpOp} {pos : Pos} {x y : Int} {z : Bool} {t u : Tok} {t1 t2 : Nat} {wh : Sem Value} {Q : Bool → Shared → Prop} (F : Fr h₀ L hp m) (N : News h₀ L hp news) (p : Pe cs m (CvAt cl news) tk l (.int x t) t1) (q : Pe cs m (CvAt cl news) t1 r (.int y u) t2) (c : Cm op x y z) (k : Q z ⟨hp, gs, dr, t2, os⟩) (hk : (cs.kind == .function) = true) (hm : behindInMarks op r = false) :
    wpAny (model prog w) A (isTrue (.Compare l [op] [r] pos) (envX cn cs L a ccd cl) wh) Q E ⟨hp, gs, dr, tk, os⟩ :=
  wpAny_isTrue_Compare1 (pe_all p (kindB hk) F (cvOk_at N) (pe_all q (kindB hk) F (cvOk_at N) (cm_run c (wpAny_truthy_bool k)))) hm
end
theorem inK {K : Frag} {h₀ h : Heap} {L : Addr} {m : Str → Option Value} (F : Fr h₀ L h m) (X : K.In h₀) : K.In h := X.keeps F.keep
theorem rmz {a D R : Nat} (h : a + D < R) : a < R := Nat.lt_of_le_of_lt (Nat.le_add_right a D) h
theorem foldQ {α : Type} {M : Model} {A : Around} {x : Sem α} {Q : α → Shared → Prop} {E : Value → Shared → Prop} {s : Shared} (h : let q := Q; wpAny M A x q E s) : wpAny M A x Q E s := h
section
variable {prog : Program} {w : World} {A : Around} {E : Value → Shared → Prop} {h₀ hp : Heap} {gs : _} {dr : _} {tk : Nat} {os : _} {L : Addr} {m : Str → Option Value} {news : List (Addr × Obj)} {Q : Value → Shared → Prop} {value slice : PySem.Expr} {b c : Array UInt8} {t u tl tu : Tok} {ks ls : List Int} {i j n : Int}
theorem addBE (hb : KBw.bInts b = ks) (hc : KBw.bInts c = ls) (hsz : ks.length + ls.length ≤ 16777216) (h : ∀ b' t' k, KBw.bInts b' = ks ++ ls → Q (.bytes b' t') ⟨hp, gs, dr, k, os⟩) : wpAny (model prog w) A (binaryOp .Add (.bytes b t) (.bytes c u)) Q E ⟨hp, gs, dr, tk, os⟩ := my_add (s := ⟨hp, gs, dr, tk, os⟩) hb hc hsz h
theorem zerosE (h0 : 0 ≤ n) (h1 : n ≤ 16777216) (h : ∀ b t k, KBw.bInts b = List.replicate n.toNat 0 → Q (.bytes b t) ⟨hp, gs, dr, k, os⟩) : wpAny (model prog w) A (call (.type "bytes") [.int n u]) Q E ⟨hp, gs, dr, tk, os⟩ := zeros_K (s := ⟨hp, gs, dr, tk, os⟩) h0 h1 h
theorem itemBE (hk : KBw.bInts b = ks) (hfit : ks.length ≤ 1099511627776) (h0 : 0 ≤ i) (h1 : i < (ks.length : Int))
    (h : ∀ t' k, 0 ≤ ks.getD i.toNat 0 → ks.getD i.toNat 0 < 256 → Q (.int (ks.getD i.toNat 0) t') ⟨hp, gs, dr, k, os⟩)
    (hs : subscripted slice false (.bytes b t) (.int i u) = operate [.bytes b t, .int i u] (getItem (.bytes b t) (.int i u)))
    (ht : ∀ r, letTemporaryGo value (.bytes b t) r = pure ()) : wpAny (model prog w) A (subscriptTail value slice (.bytes b t) (.int i u)) Q E ⟨hp, gs, dr, tk, os⟩ := KBw.item_K (s := ⟨hp, gs, dr, tk, os⟩) hk hfit h0 h1 h hs ht
theorem makeBE {D : Addr} {vs : List Value} {ns : List Int} (F : Fr h₀ L hp m) (N : News h₀ L hp news) (hh : A.handled = none) (hl : hp.IsList D vs.toArray) (hi : IntsAre vs ns) (hr : KBa.In ns) (hn : ns.length ≤ 16777216)
    (h : ∀ h' t' k, Fr h₀ L h' m → News h₀ L h' news → KBa.In ns → Q (.bytes (byteArr ns) t') ⟨h', gs, dr, k, os⟩) : wpAny (model prog w) A (call (.type "bytes") [.ref D]) Q E ⟨hp, gs, dr, tk, os⟩ := KBa.make_K (s := ⟨hp, gs, dr, tk, os⟩) F N hh hl hi hr hn h
theorem range1E (F : Fr h₀ L hp m) (N : News h₀ L hp news) (h : ∀ h' tk' t₁ u₁ v₁, IsRange h' hp.objs.size 0 n 1 t₁ u₁ v₁ → Fr h₀ L h' m → News h₀ L h' news → (∀ b o, hp.get? b = some o → h'.get? b = some o) → Q (.ref hp.objs.size) ⟨h', gs, dr, tk', os⟩) : wpAny (model prog w) A (call (.type "range") [.int n t]) Q E ⟨hp, gs, dr, tk, os⟩ := range1_rows (s := ⟨hp, gs, dr, tk, os⟩) F N h
theorem joinE {l : Addr} {vs : List Value} {n : Nat} {kss : List (List Int)} (N : News h₀ L hp news) (hm : (l, PySem.W.listOf vs.toArray n) ∈ news) (hv : BysAre vs kss) (hz : kss.flatten.length ≤ 16777216) (h : ∀ b t' k, KBw.bInts b = kss.flatten → Q (.bytes b t') ⟨hp, gs, dr, k, os⟩) :
    wpAny (model prog w) A (call (.builtin "bytes.join") [.bytes #[] t, .ref l]) Q E ⟨hp, gs, dr, tk, os⟩ := join_K (s := ⟨hp, gs, dr, tk, os⟩) N hm hv hz h
theorem lenLE {l : Addr} {vs : List Value} {n : Nat} {c : Int} (N : News h₀ L hp news) (hm : (l, PySem.W.listOf vs.toArray n) ∈ news) (e : ((vs.length : Nat) : Int) = c) (hfit : vs.length < 2 ^ 62)
    (h : ∀ t k, Q (.int c t) ⟨hp, gs, dr, k, os⟩) : wpAny (model prog w) A (call (.builtin "len") [.ref l]) Q E ⟨hp, gs, dr, tk, os⟩ := my_len_list (s := ⟨hp, gs, dr, tk, os⟩) N hm e hfit h
theorem appendE {D : Addr} {its : Array Value} {n : Nat} {x : Value} {news' : List (Addr × Obj)} (F : Fr h₀ L hp m) (N : News h₀ L hp news) (U : Upd D (PySem.W.listOf its n) (PySem.W.listOf (its.push x) (n + 1)) news news')
    (h : ∀ h', Fr h₀ L h' m → News h₀ L h' news' → Q .none ⟨h', gs, dr, tk, os⟩) (hsz : its.size ≤ sizeLine) : wpAny (model prog w) A (call (.builtin "list.append") [.ref D, x]) Q E ⟨hp, gs, dr, tk, os⟩ := append_K (s := ⟨hp, gs, dr, tk, os⟩) F N U h hsz
end
section
variable {prog : Program} {w : World} {A : Around} {E : Value → Shared → Prop} {h₀ hp : Heap} {gs : _} {dr : _} {tk : Nat} {os : _} {L a : Addr} {m mg mb : Str → Option Value} {cn : Str} {cs : Scope} {ccd : Value} {cl : List (Str × Addr)} {cv : Str → Value → Prop} {news : List (Addr × Obj)} {K : Frag} {p : Program} {loose : List Str}
/-- a call of a def of the top, its first argument not read in one step -/
theorem callGo {f : Str} {fp : Pos} {e : Expr} {es : List Expr} {pos : Pos} {fv : Value} {Q : Value → Shared → Prop} (F : Fr h₀ L hp m) (X : K.In h₀) (T : TopRead p loose mg mb h₀) (hf : nsIn K mainGlobals f = some (some fv)) (hkp : keepIn K fv = true) (hx : isGlob cs f = true)
    (hpl : (notStar e && es.all notStar) = true)
    (k : wpAny (model prog w) A (spliced (backTo pos (starEach (e :: es) (envX cn cs L a ccd cl)))) (fun vs s₁ => K.In s₁.heap ∧ wpAny (model prog w) A (call fv vs) Q E s₁) E ⟨hp, gs, dr, tk, os⟩) :
    wpAny (model prog w) A (eval (.Call (.Name f fp) (e :: es) [] pos) (envX cn cs L a ccd cl)) Q E ⟨hp, gs, dr, tk, os⟩ := by
  refine Call_ (nameK hx F X T hf ?_)
  rw [Bool.and_eq_true] at hpl
  have hp2 : ∀ es : List Expr, es.all notStar = true → (backTo pos (starEach es (envX cn cs L a ccd cl))).any (·.1) = false := by
    intro es
    induction es with
    | nil => intro _; rfl
    | cons x r ih =>
      intro h
      rw [List.all_cons, Bool.and_eq_true] at h
      exact plain_cons h.1 (ih h.2)
  exact callWith_K X hkp k (star_cons hpl.1) (hp2 _ hpl.2)
end
theorem iteD_t {p a b : Prop} [Decidable p] (hp : p) (h : a) : if decide p = true then a else b := by rw [if_pos (decide_eq_true hp)]; exact h
theorem iteD_f {p a b : Prop} [Decidable p] (hp : ¬ p) (h : b) : if decide p = true then a else b := by rw [if_neg (by simpa using hp)]; exact h
theorem iteE_t {x y : Int} {a b : Prop} (hp : x = y) (h : a) : if (x == y) = true then a else b := by rw [if_pos (by simpa using hp)]; exact h
theorem iteE_f {x y : Int} {a b : Prop} (hp : x ≠ y) (h : b) : if (x == y) = true then a else b := by rw [if_neg (by simpa using hp)]; exact h
theorem iteN_t {x y : Int} {a b : Prop} (hp : x ≠ y) (h : a) : if (x != y) = true then a else b := by rw [if_pos (by simpa using hp)]; exact h
theorem iteN_f {x y : Int} {a b : Prop} (hp : x = y) (h : b) : if (x != y) = true then a else b := by rw [if_neg (by simpa using hp)]; exact h
/-! contracts by the def's body -/
section
variable {w : World} {D U : Nat} {f : Addr} {args : List Value} {led : List (Addr × Obj)} {P : Value → List (Addr × Obj) → Prop} {name qual : Str} {params : Arguments} {bd : List Stmt} {scope : Scope} {dV kV doc pm cdv ct oc : Value} {an od : Option Addr} {osl : Array (Option Value)} {binds : List (Str × Value)}
theorem Ctr.body (ho : (kay.heap_1 w.params).lookup f = some ⟨oc, od, .func (fnOf name qual params bd scope dV kV doc pm an cdv ct), osl⟩) (hcd : codeIn (kay.heap_1 w.params) cdv qual = true)
    (hb : ∀ s, BindsTo s (fnOf name qual params bd scope dV kV doc pm an cdv ct) ⟨args, []⟩ binds) (hl : (binds.all fun y => scope.names.lookup y.1 == some .local) = true)
    (hc : (!scope.isCoroutine && !scope.isGenerator && scope.kind == .function && scope.names.all fun x => x.2 != .cell) = true)
    (h : ∀ (mean : ExcName → Option Value) (mg mb : Str → Option Value) (dp un : Nat) (gd : Option (List Code)) (outer : List Env) (A₀ : Around) (base g : Heap) (L1 : Addr) (hp1 : Heap) (gs : _) (dr : _) (tk : Nat) (os : _) (Q E : Value → Shared → Prop),
      Below A₀ base outer g → Fr g L1 hp1 (fun y => binds.reverse.lookup y) → (kay.heap_1 w.params).In g → News g L1 hp1 led → Top topProg lo mean mg mb g → dp + D < recursionLimit → un + U < cLine →
      (∀ (v : Value) (led' : List (Addr × Obj)) (h' : Heap) (tk' : Nat) {m' : Str → Option Value}, P v led' → Fr g L1 h' m' → News g L1 h' led' → Q v ⟨h', gs, dr, tk', os⟩) → PassesOwn (model pw w) (ktrTop dp un gd qual scope L1 f cdv [] outer) (envX qual scope L1 f cdv []) E →
      let A := ktrTop dp un gd qual scope L1 f cdv [] outer; let v := envX qual scope L1 f cdv []; let q : Flow → Shared → Prop := fun fl s' => Q (match fl with | .ret x => x | _ => .none) s'
      wpAny (model pw w) A (execs bd v) q E ⟨hp1, gs, dr, tk, os⟩) : Ctr w (D + 1) (U + 3) (.ref f) args led P := by
  refine Ctr.open ?_
  intro mean mg mb dp un gd cn cs a ccd cl outer A₀ base h₀ L m hp gs dr tk os Q E B F X N T hk hdp hun hret
  simp only [Bool.and_eq_true, Bool.not_eq_true'] at hc
  refine wpAny_call (code_def (binds := binds) B F X N T rfl rfl hk ho hcd ?_ (hb _) ?_ ?_ hc.1.1.1 hc.1.1.2 (kindB hc.1.2) ?_)
  · show dp < recursionLimit
    omega
  · intro y hy
    exact eq_of_beq (List.all_eq_true.mp hl y hy)
  · intro g L1 h1 FG F1 N1 B1 X1 T1
    exact h mean mg mb (dp + 1) (un + 3) gd (envX cn cs L a ccd cl :: outer) _ base g L1 h1 gs dr _ os (fun v s' => LeaveK h₀ L m g _ v s') _ B1 F1 X1 N1 T1 (by omega) (by omega) (fun v led' h' tk' m' hP F' N' => leaveK_ F' N' fun Fh Nh => hret v led' h' tk' hP Fh Nh) PassesOwn.leaving
  · intro x hx
    have := List.all_eq_true.mp hc.2 x hx
    simpa using this
theorem Ctr.bodyC (ho : (kay.heap_1 w.params).lookup f = some ⟨oc, od, .func (fnOf name qual params bd scope dV kV doc pm an cdv ct), osl⟩) (hcd : codeIn (kay.heap_1 w.params) cdv qual = true)
    (hb : ∀ s, BindsTo s (fnOf name qual params bd scope dV kV doc pm an cdv ct) ⟨args, []⟩ binds) (hl : (binds.all fun y => scope.names.lookup y.1 == some .local || scope.names.lookup y.1 == some .cell) = true)
    (hc : (!scope.isCoroutine && !scope.isGenerator && scope.kind == .function && decide ((cellsFrom 0 scope.names []).map (·.1)).Nodup) = true)
    (h : ∀ (mean : ExcName → Option Value) (mg mb : Str → Option Value) (dp un : Nat) (gd : Option (List Code)) (outer : List Env) (A₀ : Around) (base g : Heap) (L1 : Addr) (hp1 : Heap) (gs : _) (dr : _) (tk : Nat) (os : _) (Q E : Value → Shared → Prop) (cells : List (Addr × Obj)),
      Below A₀ base outer g → Fr g L1 hp1 (bindL (envOfC qual scope L1 f cdv).kindOf binds fun _ => none) → (kay.heap_1 w.params).In g → News g L1 hp1 (cells ++ led) → CellsAre (bindC (envOfC qual scope L1 f cdv).kindOf binds fun _ => none) (cellsFrom (L1 + 1) scope.names []) cells → (∀ p ∈ led, p.1 < L1) → Top topProg lo mean mg mb g → dp + D < recursionLimit → un + U < cLine →
      (∀ (v : Value) (led' : List (Addr × Obj)) (h' : Heap) (tk' : Nat) {m' : Str → Option Value}, P v led' → Fr g L1 h' m' → News g L1 h' led' → Q v ⟨h', gs, dr, tk', os⟩) → PassesOwn (model pw w) (ktrTop dp un gd qual scope L1 f cdv (cellsFrom (L1 + 1) scope.names []) outer) (envX qual scope L1 f cdv (cellsFrom (L1 + 1) scope.names [])) E →
      let A := ktrTop dp un gd qual scope L1 f cdv (cellsFrom (L1 + 1) scope.names []) outer; let v := envX qual scope L1 f cdv (cellsFrom (L1 + 1) scope.names []); let q : Flow → Shared → Prop := fun fl s' => Q (match fl with | .ret x => x | _ => .none) s'
      wpAny (model pw w) A (execs bd v) q E ⟨hp1, gs, dr, tk, os⟩) : Ctr w (D + 1) (U + 3) (.ref f) args led P := by
  refine Ctr.open ?_
  intro mean mg mb dp un gd cn cs a ccd cl outer A₀ base h₀ L m hp gs dr tk os Q E B F X N T hk hdp hun hret
  simp only [Bool.and_eq_true, Bool.not_eq_true'] at hc
  refine wpAny_call (code_defC (binds := binds) B F X N T rfl rfl hk ho hcd ?_ (hb _) hl (of_decide_eq_true hc.2) ?_ hc.1.1.1 hc.1.1.2 (kindB hc.1.2))
  · show dp < recursionLimit
    omega
  · intro g L1 h1 tk1 cells FG F1 N1 Y1 B1 X1 T1 l1
    exact h mean mg mb (dp + 1) (un + 3) gd (envX cn cs L a ccd cl :: outer) _ base g L1 h1 gs dr tk1 os (fun v s' => LeaveK h₀ L m g _ v s') _ cells B1 F1 X1 N1 Y1 l1 T1 (by omega) (by omega) (fun v led' h' tk' m' hP F' N' => leaveK_ F' N' fun Fh Nh => hret v led' h' tk' hP Fh Nh) PassesOwn.leaving
end
end

local macro_rules | `(tactic| walk_at $s:str) => `(tactic| k_extra $(Lean.Syntax.mkStrLit ("m " ++ s.getString)))
local macro_rules | `(tactic| passes_own) => `(tactic| assumption)
local macro_rules | `(tactic| k_ne) => `(tactic| k_extra "m k_ne")
local macro_rules | `(tactic| k_all) => `(tactic| k_extra "m k_all")
local macro_rules | `(tactic| k_in) => `(tactic| k_extra "m k_in")
theorem rows_2 : True := by
  k_with "m my_fill" => (
  (have hf : PySem.Challenge.rw_pb0553_01 = PySem.Challenge.rw_pb0553_01 ∧ kay.heap_1 = kay.heap_1 := by (k_fill; exact ⟨rfl, rfl⟩)); clear hf)
  k_with "m my_plain" => (first | with_reducible exact plain_nil | (refine plain_cons (Eq.refl true) ?_; k_extra "m my_plain"))
  k_with "m callWith ref" => (k_here; k_dflt ((with_reducible refine' callWith_K ?z9k1 ?z9k2 ?_ ?z9ke ?z9kp); (case z9k1 => k_asm); (case z9k2 => k_is); (case z9ke => exact star_cons (Eq.refl true)); (case z9kp => k_extra "m my_plain"); k_whole))
  k_with "m spliced" => (k_here; (first | ((with_reducible refine' spliced_more ?_ (star_cons ?z9h)); (case z9h => eq_refl)) | (with_reducible refine spliced_none ?_)))
  k_with "m spliced" => (k_here; (first | (with_reducible show wpAny _ _ (spliced (backTo _ (starEach (Expr.Name _ _ :: _) _))) _ _ _) | (with_reducible show wpAny _ _ (spliced (backTo _ (starEach (Expr.Constant _ _ _ :: _) _))) _ _ _)); k_dflt (first | ((first | (with_reducible refine' spliced_pre ?z9F (Pv.one ?z9a ?z9b) ?_ ?z9k) | (k_extra "m my_ex"; refine' spliced_pre ?z9F (Pv.one ?z9a ?z9b) ?_ ?z9k)); (case z9F => k_asm); (case z9k => eq_refl); (case z9a => k_extra "m my_sv"); (case z9b => k_extra "m my_pv"); k_whole) | ((first | (with_reducible refine' spliced_preC ?z9F ?z9N (Pv.one ?z9a ?z9b) ?_ ?z9k) | (k_extra "m my_ex"; refine' spliced_preC ?z9F ?z9N (Pv.one ?z9a ?z9b) ?_ ?z9k)); (case z9F => k_asm); (case z9N => k_asm); (case z9k => eq_refl); (case z9a => k_extra "m my_sv"); (case z9b => k_extra "m my_pv"); k_whole)); (try dsimp only))
  k_with "m spliced" => (k_here; (k_extra "m my_fq"); (first | ((with_reducible refine' spliced_more ?_ (star_cons ?z9h)); (case z9h => eq_refl)) | (with_reducible refine spliced_none ?_)))
  k_with "m spliced" => (k_here; (k_extra "m my_gs"); k_dflt (first | ((first | (with_reducible refine' args_runC ?z9F ?z9N (Ps.one ?z9a ?z9b) ?z9e ?_ ?z9k) | (k_extra "m my_ex"; refine' args_runC ?z9F ?z9N (Ps.one ?z9a ?z9b) ?z9e ?_ ?z9k)); (case z9F => k_asm); (case z9N => k_asm); (case z9k => eq_refl); (case z9a => k_extra "m my_pe"); (case z9b => k_extra "m my_ps"); (case z9e => (dsimp only; exact rfl)); k_whole) | ((first | (with_reducible refine' args_preC ?z9F ?z9N (Ps.one ?z9a ?z9b) ?_ ?z9k) | (k_extra "m my_ex"; refine' args_preC ?z9F ?z9N (Ps.one ?z9a ?z9b) ?_ ?z9k)); (case z9F => k_asm); (case z9N => k_asm); (case z9k => eq_refl); (case z9a => k_extra "m my_pe"); (case z9b => k_extra "m my_ps"); k_whole; (try dsimp only))))
  k_with "m eval BinOp" => (k_here; (first | (with_reducible show wpAny _ _ (eval (Expr.BinOp (Expr.Name _ _) _ (Expr.Constant _ _ _) _) _) _ _ _) | (with_reducible show wpAny _ _ (eval (Expr.BinOp (Expr.Name _ _) _ (Expr.Name _ _) _) _) _ _ _) | (with_reducible show wpAny _ _ (eval (Expr.BinOp (Expr.Constant _ _ _) _ (Expr.Name _ _) _) _) _ _ _)); first | (k_dflt ((first | (with_reducible refine' BinOp_run ?z9F ?z9S ?_ ?z9k) | (k_extra "m my_ex"; refine' BinOp_run ?z9F ?z9S ?_ ?z9k)); (case z9F => k_asm); (case z9k => eq_refl); (case z9S => k_extra "m my_sv"); k_whole)) | (k_dflt ((first | (with_reducible refine' BinOp_runC ?z9F ?z9N ?z9S ?_ ?z9k) | (k_extra "m my_ex"; refine' BinOp_runC ?z9F ?z9N ?z9S ?_ ?z9k)); (case z9F => k_asm); (case z9N => k_asm); (case z9k => eq_refl); (case z9S => k_extra "m my_sv"); k_whole)))
  k_with "m eval BinOp" => (k_here; k_dflt (first | ((first | (with_reducible refine' pe_runC ?z9F ?z9N ?z9p ?_ ?z9k) | (k_extra "m my_ex"; refine' pe_runC ?z9F ?z9N ?z9p ?_ ?z9k)); (case z9F => k_asm); (case z9N => k_asm); (case z9k => eq_refl); (case z9p => k_extra "m my_pe"); k_whole)))
  k_with "m eval Compare" => (k_here; (first | (with_reducible show wpAny _ _ (eval (Expr.Compare (Expr.Name _ _) _ [(Expr.Constant _ _ _)] _) _) _ _ _) | (with_reducible show wpAny _ _ (eval (Expr.Compare (Expr.Name _ _) _ [(Expr.Name _ _)] _) _) _ _ _) | (with_reducible show wpAny _ _ (eval (Expr.Compare (Expr.Constant _ _ _) _ [(Expr.Name _ _)] _) _) _ _ _)); first | (k_dflt ((first | (with_reducible refine' Compare_run ?z9F ?z9S ?_ ?z9k) | (k_extra "m my_ex"; refine' Compare_run ?z9F ?z9S ?_ ?z9k)); (case z9F => k_asm); (case z9k => eq_refl); (case z9S => k_extra "m my_sv"); k_whole)) | (k_dflt ((first | (with_reducible refine' Compare_runC ?z9F ?z9N ?z9S ?_ ?z9k) | (k_extra "m my_ex"; refine' Compare_runC ?z9F ?z9N ?z9S ?_ ?z9k)); (case z9F => k_asm); (case z9N => k_asm); (case z9k => eq_refl); (case z9S => k_extra "m my_sv"); k_whole)))
  k_with "m isTrue Compare" => (k_here; (first | (with_reducible show wpAny _ _ (isTrue (Expr.Compare (Expr.Name _ _) _ [(Expr.Constant _ _ _)] _) _ _) _ _ _) | (with_reducible show wpAny _ _ (isTrue (Expr.Compare (Expr.Name _ _) _ [(Expr.Name _ _)] _) _ _) _ _ _) | (with_reducible show wpAny _ _ (isTrue (Expr.Compare (Expr.Constant _ _ _) _ [(Expr.Name _ _)] _) _ _) _ _ _)); first | (k_dflt ((first | (with_reducible refine' isCompare_run ?z9F ?z9S ?_ ?z9k) | (k_extra "m my_ex"; refine' isCompare_run ?z9F ?z9S ?_ ?z9k)); (case z9F => k_asm); (case z9k => eq_refl); (case z9S => k_extra "m my_sv"); k_whole)) | (k_dflt ((first | (with_reducible refine' isCompare_runC ?z9F ?z9N ?z9S ?_ ?z9k) | (k_extra "m my_ex"; refine' isCompare_runC ?z9F ?z9N ?z9S ?_ ?z9k)); (case z9F => k_asm); (case z9N => k_asm); (case z9k => eq_refl); (case z9S => k_extra "m my_sv"); k_whole)))
  k_with "m isTrue Compare" => (k_here; k_dflt (first | ((first | (with_reducible refine' test_runC ?z9F ?z9N ?z9p ?z9q ?z9c ?_ ?z9k ?z9m) | (k_extra "m my_ex"; refine' test_runC ?z9F ?z9N ?z9p ?z9q ?z9c ?_ ?z9k ?z9m)); (case z9F => k_asm); (case z9N => k_asm); (case z9k => eq_refl); (case z9p => k_extra "m my_pe"); (case z9q => k_extra "m my_pe"); (case z9c => constructor); (case z9m => with_unfolding_all exact (Eq.refl false)); k_whole)))
  k_with "m eval Subscript" => (k_here; (first | (with_reducible show wpAny _ _ (eval (Expr.Subscript (Expr.Name _ _) (Expr.Constant _ _ _) _) _) _ _ _) | (with_reducible show wpAny _ _ (eval (Expr.Subscript (Expr.Name _ _) (Expr.Name _ _) _) _) _ _ _) | (with_reducible show wpAny _ _ (eval (Expr.Subscript (Expr.Constant _ _ _) (Expr.Name _ _) _) _) _ _ _)); first | (k_dflt ((first | (with_reducible refine' Subscript_run ?z9F ?z9S ?_ ?z9k) | (k_extra "m my_ex"; refine' Subscript_run ?z9F ?z9S ?_ ?z9k)); (case z9F => k_asm); (case z9k => eq_refl); (case z9S => k_extra "m my_sv"); k_whole)) | (k_dflt ((first | (with_reducible refine' Subscript_runC ?z9F ?z9N ?z9S ?_ ?z9k) | (k_extra "m my_ex"; refine' Subscript_runC ?z9F ?z9N ?z9S ?_ ?z9k)); (case z9F => k_asm); (case z9N => k_asm); (case z9k => eq_refl); (case z9S => k_extra "m my_sv"); k_whole)))
  k_with "m eval Call" => (k_here; (first | (with_reducible show wpAny _ _ (eval (Expr.Call (Expr.Name _ _) (Expr.Name _ _ :: _) [] _) _) _ _ _) | (with_reducible show wpAny _ _ (eval (Expr.Call (Expr.Name _ _) (Expr.Constant _ _ _ :: _) [] _) _) _ _ _)); k_dflt (first
  | ((first | (with_reducible refine' call_run ?z9F ?z9X ?z9T ?z9e ?z9p ?z9S ?_ ?z9k ?z9x) | (k_extra "m my_ex"; refine' call_run ?z9F ?z9X ?z9T ?z9e ?z9p ?z9S ?_ ?z9k ?z9x)); (case z9F => k_asm); (case z9S => k_extra "m my_sv"); (case z9x => kernel_rfl); (case z9X => k_asm); (case z9T => k_asm); (case z9k => eq_refl); (case z9e => k_is); (case z9p => k_is); k_whole)
  | ((first | (with_reducible refine' call_runC ?z9F ?z9N ?z9X ?z9T ?z9e ?z9p ?z9S ?_ ?z9k ?z9x) | (k_extra "m my_ex"; refine' call_runC ?z9F ?z9N ?z9X ?z9T ?z9e ?z9p ?z9S ?_ ?z9k ?z9x)); (case z9F => k_asm); (case z9N => k_asm); (case z9S => k_extra "m my_sv"); (case z9x => kernel_rfl); (case z9X => k_asm); (case z9T => k_asm); (case z9k => eq_refl); (case z9e => k_is); (case z9p => k_is); k_whole)))
  k_with "m eval Call" => (k_here; (with_reducible show wpAny _ _ (eval (Expr.Call (Expr.Name _ _) (_ :: _) [] _) _) _ _ _); k_dflt ((first | (with_reducible refine' callGo ?z9F ?z9X ?z9T ?z9e ?z9p ?z9x ?z9l ?_) | (k_extra "m my_ex"; refine' callGo ?z9F ?z9X ?z9T ?z9e ?z9p ?z9x ?z9l ?_)); (case z9x => kernel_rfl); (case z9F => k_asm); (case z9X => k_asm); (case z9T => k_asm); (case z9l => eq_refl); (case z9e => k_is); (case z9p => k_is); k_whole))
  k_with "m eval Call" => (k_here; (first | (with_reducible show wpAny _ _ (eval (Expr.Call (Expr.Name _ _) (Expr.Name _ _ :: _) [] _) _) _ _ _) | (with_reducible show wpAny _ _ (eval (Expr.Call (Expr.Name _ _) (Expr.Constant _ _ _ :: _) [] _) _) _ _ _)); k_dflt (first
  | ((first | (with_reducible refine' call_run ?z9F ?z9X ?z9T ?z9e ?z9p ?z9S ?_ ?z9k ?z9x) | (k_extra "m my_ex"; refine' call_run ?z9F ?z9X ?z9T ?z9e ?z9p ?z9S ?_ ?z9k ?z9x)); (case z9F => k_asm); (case z9S => k_extra "m my_sv"); (case z9x => kernel_rfl); (case z9X => k_asm); (case z9T => k_asm); (case z9k => eq_refl); (case z9e => k_is); (case z9p => k_is); k_whole)
  | ((first | (with_reducible refine' call_runC ?z9F ?z9N ?z9X ?z9T ?z9e ?z9p ?z9S ?_ ?z9k ?z9x) | (k_extra "m my_ex"; refine' call_runC ?z9F ?z9N ?z9X ?z9T ?z9e ?z9p ?z9S ?_ ?z9k ?z9x)); (case z9F => k_asm); (case z9N => k_asm); (case z9S => k_extra "m my_sv"); (case z9x => kernel_rfl); (case z9X => k_asm); (case z9T => k_asm); (case z9k => eq_refl); (case z9e => k_is); (case z9p => k_is); k_whole)))
  k_with "m my_rm" => (first | (refine' rm0 ?z9h ?z9e; (case z9h => assumption); (case z9e => eq_refl)) | (refine' rmk ?z9h ?z9e; (case z9h => assumption); (case z9e => eq_refl)) | omega | ((dsimp only [ktrTop]); first | (refine' rm0 ?z9h ?z9e; (case z9h => assumption); (case z9e => eq_refl)) | (refine' rmk ?z9h ?z9e; (case z9h => assumption); (case z9e => eq_refl)) | omega))
  k_with "m k_ne" => (refine neN ?_; (try dsimp only); first | assumption | exact Ne.symm (by assumption) | exact Nat.ne_of_gt (by assumption) | exact Nat.ne_of_lt (by assumption) | exact Nat.ne_of_gt (And.left (by assumption)) | exact Nat.ne_of_lt (And.left (by assumption)) | exact Nat.ne_of_beq_eq_false rfl | omega)
  k_with "m my_fold" => (first | k_fold | (with_reducible refine tree_id ?_; k_fold) | skip)
  k_with "m my_pv" => (first | (refine' Pv.one ?z9a ?z9b; (case z9a => k_extra "m my_sv"); (case z9b => k_extra "m my_pv")) | exact Pv.nil)
  k_with "m my_sv" => (first | exact Sv.nil | (refine' Sv.int ?z9r; (case z9r => k_extra "m my_sv")) | (refine' Sv.str ?z9r; (case z9r => k_extra "m my_sv")) | (refine' Sv.loc ?z9a ?z9v ?z9r; (case z9v => eq_refl); (case z9a => kernel_rfl); (case z9r => k_extra "m my_sv")) | (refine' Sv.cell ?z9a (CvAt.of ?z9v ?z9b ?z9d) ?z9r; (case z9v => eq_refl); (case z9a => kernel_rfl!); (case z9b => k_mem); (case z9d => assumption); (case z9r => k_extra "m my_sv")))
  k_with "m my_lit" => (first | exact rfl | omega)
  k_with "m my_num" => (first | (simp only [Int.reduceMul, Int.reducePow, Int.reduceAdd, Int.reduceSub, Int.reduceToNat, Int.reduceDiv, Int.reduceMod, Int.reduceNeg, Nat.reducePow, Nat.reduceMul]; exact rfl) | exact rfl)
  k_with "m my_num" => (first | (dsimp only [Int.reduceMul, Int.reducePow, Int.reduceAdd, Int.reduceSub, Int.reduceToNat, Int.reduceDiv, Int.reduceMod, Int.reduceNeg, Nat.reducePow, Nat.reduceMul] <;> exact rfl) | exact rfl)
  k_with "m binaryOp FloorDiv int int" => (k_dflt (with_reducible refine fdiv_k (by omega) (by omega) ?_))
  k_with "m binaryOp Mod int int" => (k_dflt (with_reducible refine fmod_k (by omega) ?_))
  k_with "m binaryOp Add int int" => (k_dflt (with_reducible refine' add_k ?z9e ?_; (case z9e => k_extra "m my_num")))
  k_with "m inplaceOp Add int int" => (k_dflt (with_reducible refine' iadd_k ?z9e ?_; (case z9e => k_extra "m my_num")))
  k_with "m binaryOp Sub int int" => (k_dflt (with_reducible refine' sub_k ?z9e ?_; (case z9e => k_extra "m my_num")))
  k_with "m binaryOp Mult int int" => (k_dflt (with_reducible refine' mul_k ?z9e ?z9m ?_; (case z9e => k_extra "m my_num"); (case z9m => first | exact PySem.IntMulOk.of_left (PySem.intBits_le_64 (by omega) (by omega)) | exact PySem.IntMulOk.of_right (PySem.intBits_le_64 (by omega) (by omega)) | mul_fits | decide)))
  k_with "m binaryOp LShift int int" => (k_dflt (with_reducible refine' shl_k ?z9e ?z9a ?z9b ?z9d ?_; (case z9e => k_extra "m my_num"); (case z9a => omega); (case z9b => omega); (case z9d => omega)))
  k_with "m binaryOp RShift int int" => (k_dflt (with_reducible refine' shr_k ?z9e ?z9a ?_; (case z9e => k_extra "m my_num"); (case z9a => omega)))
  k_with "m binaryOp Pow int int" => (k_dflt (with_reducible refine' pow_k ?z9e ?z9a ?z9b ?z9d ?_; (case z9e => k_extra "m my_num"); (case z9a => omega); (case z9b => omega); (case z9d => omega)))
  k_with "m binaryOp BitAnd int int" => (k_dflt (with_reducible refine and_k ?_))
  k_with "m binaryOp BitOr int int" => (k_dflt (with_reducible refine or_k ?z9a ?z9b ?z9c ?_; (case z9a => omega); (case z9b => omega); (case z9c => omega)))
  k_with "m my_dec" => ((try simp only [Bool.not_eq_true', Bool.not_eq_false', decide_eq_true_eq, decide_eq_false_iff_not, Bool.not_eq_true, beq_iff_eq, bne_iff_ne, ne_eq, Bool.and_eq_true, Bool.or_eq_true, decide_not, Bool.not_not]); omega)
  k_with "m ite" => (k_here; k_dflt (first
  | with_reducible refine ite_tt ?_ | with_reducible refine ite_ff ?_
  | (with_reducible refine ite_pos ?z9hc ?_; (case z9hc => k_extra "m my_dec")) | (with_reducible refine ite_neg ?z9hc ?_; (case z9hc => k_extra "m my_dec"))))
  k_with "m ite" => (k_here; k_dflt (first | with_reducible refine ite_tt ?_ | with_reducible refine ite_ff ?_ | (with_reducible refine' iteD_t ?z9hc ?_; (case z9hc => first | assumption | omega)) | (with_reducible refine' iteD_f ?z9hc ?_; (case z9hc => omega)) | (with_reducible refine' iteE_t ?z9hc ?_; (case z9hc => first | assumption | omega)) | (with_reducible refine' iteE_f ?z9hc ?_; (case z9hc => first | assumption | omega)) | (with_reducible refine' iteN_t ?z9hc ?_; (case z9hc => first | assumption | omega)) | (with_reducible refine' iteN_f ?z9hc ?_; (case z9hc => first | assumption | omega))))
  k_with "m my_in" => (first | exact in_nil | (refine' in_cons ?z9a ?z9b ?z9c; (case z9a => first | decide | omega); (case z9b => first | decide | omega); (case z9c => k_extra "m my_in")))
  k_with "m call type:bytes" => (k_here; (with_reducible show wpAny _ _ (call (Value.type "bytes") [Value.ref _]) _ _ _); (k_extra "m my_fq"); k_dflt ((with_reducible refine' makeBE ?z9kbaF ?z9kbaN ?z9kbah ?z9kbal ?z9kbai ?z9kbar ?z9kban ?_); (case z9kbaF => k_asm); (case z9kbaN => k_asm); (case z9kbah => rfl); (case z9kbal => kba_isList); (case z9kbai => first | l_ints | l_intsW); (case z9kbar => k_extra "m my_in"); (case z9kban => kba_size)); intro _ _ _ _ _ _)
  k_with "m call type:bytes" => (k_here; (with_reducible show wpAny _ _ (call (Value.type "bytes") [Value.int _ _]) _ _ _); (k_extra "m my_fq"); k_dflt ((with_reducible refine' zerosE ?z9k0 ?z9k1 ?_); (case z9k0 => omega); (case z9k1 => omega)); intro _ _ _ _)
  k_with "m my_sub" => (first
  | exact fun _ h => h | exact fun _ h => .tail _ h | exact fun _ h => .tail _ (.tail _ h) | exact fun _ h => .tail _ (.tail _ (.tail _ h)) | exact fun _ h => .tail _ (.tail _ (.tail _ (.tail _ h)))
  | (intro _ hp; (simp only [List.mem_cons, List.mem_append, List.not_mem_nil, or_false, false_or] at hp ⊢); first | assumption | ((repeat' (rcases hp with hp | hp)) <;> simp only [hp, true_or, or_true])))
  k_with "m my_news" => (first | assumption | (refine' cb_drop ?z9kN ?z9kS; (case z9kN => k_asm); (case z9kS => k_extra "m my_sub")))
  k_with "m my_ent" => ((try dsimp only); (try (with_reducible refine toX ?_)); (refine letAE ?_; intro _ _); (try k_fold))
  k_with "m my_stop" => (
  (fail_if_success (with_reducible show wpAny _ _ (eval (Expr.ListComp _ _ _ _) _) _ _ _))
  (fail_if_success (with_reducible show wpAny _ _ (pyIter _) _ _ _))
  (fail_if_success (with_reducible show wpAny _ _ (exec (Stmt.For _ _ _ _ _) _) _ _ _))
  (fail_if_success (with_reducible show wpAny _ _ (exec (Stmt.While _ _ _ _) _) _ _ _)))
  k_with "m my_walk" => (repeat' (first | (k_unfold; (try dsimp only)) | (k_extra "m my_stop"; first | walk1 | (dsimp only; walk1) | (dsimp only; k_unfold; (try dsimp only)) | (dsimp only [List.cons_append, List.nil_append]; walk1))))
  k_with "m eval Name" => (k_here; (with_reducible show wpAny _ _ (eval (Expr.Name _ _) (compEnvC _ _ _ _)) _ _ _); k_dflt (refine ld_freeC (by k_asm) (by rfl) (by k_mem) (by assumption) ?_))
  k_with "m eval Name" => (k_here; k_dflt (first | ((first | (with_reducible refine' nameL ?z9c ?z9F ?z9v ?_) | (k_extra "m my_ex"; refine' nameL ?z9c ?z9F ?z9v ?_)); (case z9F => k_asm); (case z9v => eq_refl); (case z9c => kernel_rfl); k_whole) | ((first | (with_reducible refine' nameK ?z9c ?z9F ?z9X ?z9T ?z9e ?_) | (k_extra "m my_ex"; refine' nameK ?z9c ?z9F ?z9X ?z9T ?z9e ?_)); (case z9c => kernel_rfl); (case z9F => k_asm); (case z9X => k_asm); (case z9T => k_asm); (case z9e => k_is); k_whole) | ((first | (with_reducible refine' nameB ?z9c ?z9F ?z9X ?z9T ?z9e ?z9v ?z9n ?_) | (k_extra "m my_ex"; refine' nameB ?z9c ?z9F ?z9X ?z9T ?z9e ?z9v ?z9n ?_)); (case z9c => kernel_rfl); (case z9F => k_asm); (case z9X => k_asm); (case z9T => k_asm); (case z9e => k_is); (case z9v => boot_by_name); (case z9n => decide); k_whole)))
  k_with "m my_for" => (k_dflt (refine For_invVF (by k_asm) (by rfl) (by rfl) ?_))
  k_with "m my_len" => (first | exact Nat.le_of_ble_eq_true rfl | ((try simp only [List.length_append, List.length_cons, List.length_nil, List.length_take, List.length_drop, List.length_replicate]); omega))
  k_with "m my_ints" => (first | assumption | exact KBa.ints_make (by assumption) | exact KBw.ints_list _)
  k_with "m subscriptTail" => (k_here; (with_reducible show wpAny _ _ (subscriptTail _ (Expr.Slice _ _ none _) (Value.bytes _ _) (Value.ref _)) _ _ _); (k_extra "m my_fq"); (k_dflt (first
  | ((with_reducible refine' my_slice_ij (s := ⟨_, _, _, _, _⟩) ?z9kF ?z9kN ?z9ka ?z9kb ?z9kc ?z9kd ?z9ke ?_ ?z9hs ?z9ht); (case z9hs => with_unfolding_all rfl); (case z9ht => (intro _; with_unfolding_all rfl)); (case z9kF => k_asm); (case z9kN => k_asm); (case z9ka => k_extra "m my_ints"); (case z9kb => omega); (case z9kc => omega); (case z9kd => k_extra "m my_len"); (case z9ke => k_extra "m my_len"))
  | ((with_reducible refine' my_slice_j (s := ⟨_, _, _, _, _⟩) ?z9kF ?z9kN ?z9ka ?z9kb ?z9kd ?z9ke ?_ ?z9hs ?z9ht); (case z9hs => with_unfolding_all rfl); (case z9ht => (intro _; with_unfolding_all rfl)); (case z9kF => k_asm); (case z9kN => k_asm); (case z9ka => k_extra "m my_ints"); (case z9kb => omega); (case z9kd => k_extra "m my_len"); (case z9ke => k_extra "m my_len"))
  | ((with_reducible refine' my_slice_neg (s := ⟨_, _, _, _, _⟩) ?z9kF ?z9kN ?z9ka ?z9ke ?_ ?z9hs ?z9ht); (case z9hs => with_unfolding_all rfl); (case z9ht => (intro _; with_unfolding_all rfl)); (case z9kF => k_asm); (case z9kN => k_asm); (case z9ka => k_extra "m my_ints"); (case z9ke => k_extra "m my_len"))
  | ((with_reducible refine' my_slice_i (s := ⟨_, _, _, _, _⟩) ?z9kF ?z9kN ?z9ka ?z9kb ?z9kd ?z9ke ?_ ?z9hs ?z9ht); (case z9hs => with_unfolding_all rfl); (case z9ht => (intro _; with_unfolding_all rfl)); (case z9kF => k_asm); (case z9kN => k_asm); (case z9ka => k_extra "m my_ints"); (case z9kb => omega); (case z9kd => k_extra "m my_len"); (case z9ke => k_extra "m my_len")))); intro _ _ _ _ _ _ _)
  k_with "m subscriptTail" => (k_here; (with_reducible show wpAny _ _ (subscriptTail _ _ (Value.bytes _ _) (Value.int _ _)) _ _ _); (k_extra "m my_fq"); k_dflt ((with_reducible refine' itemBE ?z9ka ?z9kb ?z9kc ?z9kd ?_ ?z9hs ?z9ht); (case z9hs => with_unfolding_all rfl); (case z9ht => (intro _; with_unfolding_all rfl)); (case z9ka => k_extra "m my_ints"); (case z9kb => k_extra "m my_len"); (case z9kc => omega); (case z9kd => k_extra "m my_len")); intro _ _ _ _)
  k_with "m k_all" => (assumption)
  k_with "m my_ksep" => (skip)
  k_with "m k_in" => ((with_reducible refine' inK ?z9F ?z9X); (case z9F => k_asm); (case z9X => assumption))
  k_with "m eval Constant int" => (k_dflt (with_reducible refine cInt ?_))
  k_with "m eval Constant str" => (k_dflt (with_reducible refine cStr ?_))
  k_with "m call builtin:list.append" => (k_here; (with_reducible show wpAny _ _ (call (Value.builtin _) [Value.ref _, _]) _ _ _); (k_extra "m my_fq"); k_dflt ((with_reducible refine' appendE ?z9k1 ?z9k2 ?z9k3 ?_ ?z9z); (case z9k1 => k_asm); (case z9k2 => k_asm); (case z9k3 => k_upd); (case z9z => first | (simp only [PySem.sizeLine_eq]; omega) | size_fits); k_whole); intro _ _ _; (try k_sweep))
  k_with "m my_fq" => (first | (fail_if_success k_fold) | (with_reducible refine foldQ ?_; intro _))
  k_with "m my_rz" => ((with_reducible refine' rmz ?z9h); (case z9h => assumption))
  k_with "m my_ar" => (first | (refine' Ar.add ?z9e; (case z9e => k_extra "m my_num")) | (refine' Ar.sub ?z9e; (case z9e => k_extra "m my_num")) | (refine' Ar.fdivL ?z9c; (case z9c => eq_refl)) | (refine' Ar.fmodL ?z9c; (case z9c => eq_refl)) | (refine' Ar.powL ?z9e ?z9c; (case z9e => k_extra "m my_num"); (case z9c => eq_refl)) | exact Ar.and | (refine' Ar.mul ?z9m ?z9e; (case z9e => k_extra "m my_num"); (case z9m => first | exact PySem.IntMulOk.of_left (PySem.intBits_le_64 (by omega) (by omega)) | exact PySem.IntMulOk.of_right (PySem.intBits_le_64 (by omega) (by omega)) | mul_fits | decide)) | (refine' Ar.fdiv ?z9a ?z9b; (case z9a => omega); (case z9b => omega)) | (refine' Ar.fmod ?z9a; (case z9a => omega)) | (refine' Ar.shr ?z9e ?z9a; (case z9e => k_extra "m my_num"); (case z9a => omega)) | (refine' Ar.shl ?z9e ?z9a ?z9b ?z9d; (case z9e => k_extra "m my_num"); (case z9a => omega); (case z9b => omega); (case z9d => omega)) | (refine' Ar.pow ?z9e ?z9a ?z9b ?z9d; (case z9e => k_extra "m my_num"); (case z9a => omega); (case z9b => omega); (case z9d => omega)))
  k_with "m my_pe" => (first | exact Pe.int | exact Pe.str | (refine' Pe.loc ?z9a ?z9v; (case z9v => eq_refl); (case z9a => kernel_rfl)) | (refine' Pe.cell ?z9a (CvAt.of ?z9v ?z9b ?z9d); (case z9v => eq_refl); (case z9a => kernel_rfl!); (case z9b => k_mem); (case z9d => assumption)) | ((with_reducible show Pe _ _ _ _ (Expr.BinOp _ _ _ _) _ _); exact Pe.bin (by k_extra "m my_pe") (by k_extra "m my_pe") (by k_extra "m my_ar")))
  k_with "m my_ps" => (first | (refine' Ps.one ?z9a ?z9b; (case z9a => k_extra "m my_pe"); (case z9b => k_extra "m my_ps")) | exact Ps.nil)
  k_with "m my_ex" => (first | (with_reducible show wpAny _ _ (spliced (backTo _ (starEach _ (envOf _ _ _ _ _)))) _ _ _) | (with_reducible show wpAny _ _ (eval _ (envOf _ _ _ _ _)) _ _ _) | (with_reducible show wpAny _ _ (isTrue _ (envOf _ _ _ _ _) _) _ _ _) | (with_reducible show wpAny _ _ (storeName (envOf _ _ _ _ _) _ _) _ _ _) | (with_reducible show wpAny _ _ (spliced (backTo _ (starEach _ (envOfC _ _ _ _ _)))) _ _ _) | (with_reducible show wpAny _ _ (eval _ (envOfC _ _ _ _ _)) _ _ _) | (with_reducible show wpAny _ _ (isTrue _ (envOfC _ _ _ _ _) _) _ _ _) | (with_reducible show wpAny _ _ (storeName (envOfC _ _ _ _ _) _ _) _ _ _))
  k_with "m my_gs" => (first | (with_reducible show wpAny _ _ (spliced (backTo _ (starEach (Expr.Constant _ _ _ :: _) _))) _ _ _) | (with_reducible show wpAny _ _ (spliced (backTo _ (starEach (Expr.Name _ _ :: _) _))) _ _ _) | (with_reducible show wpAny _ _ (spliced (backTo _ (starEach (Expr.BinOp _ _ _ _ :: _) _))) _ _ _))
  k_with "m storeName" => (k_here; (k_extra "m my_fq"); k_dflt ((first | (with_reducible refine' storeL ?z9c ?z9F ?z9N ?_) | (k_extra "m my_ex"; refine' storeL ?z9c ?z9F ?z9N ?_)); (case z9c => kernel_rfl!); (case z9F => k_asm); (case z9N => k_asm); k_whole); intro _ _ _; (try k_sweep))
  k_with "m newTuple" => (k_here; (k_extra "m my_fq"); k_dflt ((with_reducible refine' newTupleE ?z9F ?z9N ?z9z ?_); (case z9F => k_asm); (case z9N => k_asm); (case z9z => kernel_rfl!); k_whole); intro _ _ _ _ l1; (first | (replace l1 := allLt_of l1; dsimp only [AllLt] at l1; fail_if_success (simp only [and_true] at l1)) | k_lt l1); (revert l1; intro _); (try k_sweep))
  k_with "m newList" => (k_here; (k_extra "m my_fq"); k_dflt ((with_reducible refine' newListE ?z9F ?z9N ?z9z ?_); (case z9F => k_asm); (case z9N => k_asm); (case z9z => kernel_rfl!); k_whole); intro _ _ _ _ l1; (first | (replace l1 := allLt_of l1; dsimp only [AllLt] at l1; fail_if_success (simp only [and_true] at l1)) | k_lt l1); (revert l1; intro _); (try k_sweep))
  k_with "m subscriptTail Name Constant ref int" => (k_here; k_dflt (refine' my_item ?z9kN ?z9km ?z9k0 ?z9k1 ?z9kx ?_ ?z9ks; (case z9kN => k_asm); (case z9km => k_mem); (case z9k0 => decide); (case z9k1 => decide); (case z9kx => eq_refl); (case z9ks => with_unfolding_all rfl)))
  k_with "m my_lenlit" => (first | (simp only [List.length_cons, List.length_nil, Nat.zero_add, Nat.reduceAdd, Int.Nat.cast_ofNat_Int, Nat.cast_ofNat]; exact rfl) | exact rfl)
  k_with "m call builtin:len" => (k_here; (with_reducible show wpAny _ _ (call (Value.builtin "len") [Value.ref _]) _ _ _); (k_extra "m my_fq"); k_dflt ((with_reducible refine' lenLE ?z9kN ?z9km ?z9ke ?z9kf ?_); (case z9kN => k_asm); (case z9km => first | k_mem | (k_memK; done) | exact List.Mem.tail _ (by assumption)); (case z9ke => eq_refl); (case z9kf => first | omega | k_extra "m my_len")); intro _ _)
  k_with "m call builtin:len" => (k_here; (with_reducible show wpAny _ _ (call (Value.builtin "len") [Value.bytes _ _]) _ _ _); k_dflt ((with_reducible refine' lenB ?z9kN ?z9ke ?z9kf ?_); (case z9kN => k_extra "m my_ints"); (case z9ke => eq_refl); (case z9kf => k_extra "m my_len")))
  k_with "m binaryOp Add bytes bytes" => (k_here; (with_reducible show wpAny _ _ (binaryOp Operator.Add (Value.bytes _ _) (Value.bytes _ _)) _ _ _); (k_extra "m my_fq"); k_dflt ((with_reducible refine' addBE ?z9ka ?z9kb ?z9kc ?_); (case z9ka => k_extra "m my_ints"); (case z9kb => k_extra "m my_ints"); (case z9kc => k_extra "m my_len")); intro _ _ _ _)
  k_with "m getMethod type:Exception" => (k_here; refine' method_type ?z9F ?z9X ?z9m (by decide +kernel) ?z9e ?z9h ?_; (case z9F => k_asm); (case z9X => k_asm); (case z9m => first | rfl | kernel_rfl); (case z9e => k_dflt k_is); (case z9h => k_handed))
  k_with "m call builtin:Exception.__init__" => (k_here; k_dflt (refine' exc_init_K PySem.F.excBase_Exception ?z9hc ?z9kF ?z9kN ?z9kX ?z9kC ?z9ks ?_; (case z9kF => k_asm); (case z9kN => k_asm); (case z9kX => k_asm); (case z9kC => k_is); (case z9hc => decide +kernel); (case z9ks => assumption)); intro _ _ _ _)
  k_with "m setAttr ref" => (k_here; (with_reducible show wpAny _ _ (setAttr (Value.ref _) (Str.ofString "message") _) _ _ _); k_dflt (refine' exc_set_K ?z9kF ?z9kN ?z9kX ?z9ks ?z9h1 ?z9h2 ?z9h5 ?z9h3 ?z9h4 ?_; (case z9kF => k_asm); (case z9kN => k_asm); (case z9kX => k_asm); (case z9ks => assumption); (case z9h1 => k_is); (case z9h2 => k_is); (case z9h5 => eq_refl); (case z9h3 => k_is); (case z9h4 => k_is)); intro _ _ _ _ _)
  trivial

section
theorem fillx1 : True := by
  k_extra "m my_fill"
  trivial
set_option maxHeartbeats 2000000 in
theorem c_forminit (w : World) (e : Addr) (t0 : Addr) (msg : Str) (tm : Tok) (rest : List (Addr × Obj)) (hsep : ∀ p ∈ rest, p.1 ≠ e) :
    Ctr w 10 80 (.ref 28) [.ref e, .str msg tm] ((e, { cls := .ref 44, data := excData (.ref t0) }) :: rest) (fun v l => v = .none ∧ ∃ oe a0, oe.cls = .ref 44 ∧ oe.data = excData a0 ∧ (e, oe) :: rest = l) := by
  refine' Ctr.body (binds := [(Str.ofString "self", Value.ref e), (Str.ofString "message", Value.str msg tm)]) ?z8o ?z8c ?z8b ?z8l ?z8k ?_
  case z8o => k_is
  case z8c => k_is
  case z8b => exact fun _ => BindsTo.of_eq (by kernel_rfl)
  case z8l => kernel_rfl
  case z8k => kernel_rfl
  intro mean mg mb dp un gd outer A₀ base g1 L1 hp1 gsq drq tkq osq Q E B1 F1 X1 N1 T1 hdp hun hret hE9
  intro _ _ _
  k_extra "m my_walk"
  exact hret _ _ _ _ ⟨rfl, _, _, rfl, rfl, rfl⟩ (by k_asm) (by k_extra "m my_news")
end

section
set_option maxHeartbeats 2000000 in
theorem c_form (w : World) (msg : Str) (tm : Tok) (led : List (Addr × Obj)) :
    Ctr w 14 100 (.ref 44) [.str msg tm] led (fun v l => ∃ e oe a0, v = .ref e ∧ oe.cls = .ref 44 ∧ oe.data = excData a0 ∧ (∀ p ∈ led, p.1 ≠ e) ∧ (e, oe) :: led = l) := by
  intro mean mg mb dp un gd cn cs a ccd cl outer A₀ base h₀ L m s Q E B F X N T hk hdp hun hret
  obtain ⟨hp, g, d, t, os⟩ := s
  refine' my_call_exc PySem.F.excBase_Exception ?q1 ?q2 ?q3 (fI := 28) (X.keeps F.keep) ?q4 ((X.keeps F.keep) _ _ ?q5) ?q6 ?q8 ?q9
  case q5 => k_is
  case q1 => decide +kernel
  case q2 => decide +kernel
  case q3 => decide +kernel
  case q4 => k_is
  case q6 => k_is
  case q9 => show 1 ≤ sizeLine; rw [sizeLine_eq]; decide
  intro h' e hm
  obtain ⟨t0, he, _, _⟩ := hm.there
  have hL : L ≠ e := fun z => by
    obtain ⟨⟨oL, es, ep, q, r⟩, _, _⟩ := F
    have := hm.new
    rw [← z] at this
    rw [this] at q; cases q
  have h0 : h₀.get? e = none := by
    cases q : h₀.get? e with
    | none => rfl
    | some o => have := F.keep _ _ q; dsimp only at this; rw [hm.new] at this; cases this
  have sep : ∀ p ∈ led, p.1 ≠ e := fun p hp z => by
    have := (N p hp).1
    rw [z] at this
    dsimp only at this
    rw [hm.new] at this; cases this
  have w1 : (Code.builtin "type.__call__" ⟨[Value.ref 44, Value.str msg tm], []⟩).weight = 1 := rfl
  have w2 : (Code.builtin "type.__call__" ⟨[Value.ref 44, Value.str msg tm], []⟩).cUnits = 1 := rfl
  refine (c_forminit w e t0 msg tm led sep).use (s := ⟨h', g, d, t, os⟩) B (F.keeps hm.keeps) X ?_ T hk (by (try dsimp only [ktrTop]); omega) (by (try dsimp only [ktrTop]); omega) ?_
  · intro p hp
    rcases List.mem_cons.mp hp with rfl | hp
    · exact ⟨he, Ne.symm hL, h0⟩
    · obtain ⟨a, b, c⟩ := N p hp
      exact ⟨hm.keeps _ _ a, b, c⟩
  · rintro v l h9 tk9 ⟨rfl, oe, a0, e1, e2, rfl⟩ F9 N9
    exact ⟨rfl, hret _ _ _ _ ⟨e, oe, a0, rfl, e1, e2, sep, rfl⟩ F9 N9⟩
/-- a contract of a call that raises FormError -/
def CtrE (w : World) (D U : Nat) (f : Value) (args : List Value) (led : List (Addr × Obj)) : Prop :=
  ∀ (mean : ExcName → Option Value) (mg mb : Str → Option Value) (dp un : Nat) (gd : Option (List Code)) (cn : Str) (cs : Scope) (a : Addr) (ccd : Value) (cl : List (Str × Addr)) (outer : List Env) (A₀ : Around) (base h₀ : Heap) (L : Addr) (m : Str → Option Value) (s : Shared) (Q E : Value → Shared → Prop),
    Below A₀ base outer h₀ → Fr h₀ L s.heap m → (kay.heap_1 w.params).In h₀ → News h₀ L s.heap led → Top topProg lo mean mg mb h₀ → cs.kind = .function → dp + D < recursionLimit → un + U < cLine →
    (∀ (e : Addr) (h' G : Heap) (tk' : Nat), Fr h₀ L G m → RaisedSN base G (envX cn cs L a ccd cl :: outer) e (.ref 44) led h' → G.UpToSlots h' → E (.ref e) { s with heap := h', toks := tk' }) →
    wpAny (model pw w) (ktrTop dp un gd cn cs L a ccd cl outer) (call f args) Q E s
theorem CtrE.use {w : World} {D U : Nat} {f : Value} {args : List Value} {led : List (Addr × Obj)} (C : CtrE w D U f args led)
    {mean : ExcName → Option Value} {mg mb : Str → Option Value} {dp un : Nat} {gd : Option (List Code)} {cn : Str} {cs : Scope} {a : Addr} {ccd : Value} {cl : List (Str × Addr)} {outer : List Env} {A₀ : Around} {base h₀ : Heap} {L : Addr} {m : Str → Option Value} {s : Shared} {Q E : Value → Shared → Prop}
    (B : Below A₀ base outer h₀) (F : Fr h₀ L s.heap m) (X : (kay.heap_1 w.params).In h₀) (N : News h₀ L s.heap led) (T : Top topProg lo mean mg mb h₀) (hk : cs.kind = .function) (hdp : dp + D < recursionLimit) (hun : un + U < cLine)
    (h : ∀ (e : Addr) (h' G : Heap) (tk' : Nat), Fr h₀ L G m → RaisedSN base G (envX cn cs L a ccd cl :: outer) e (.ref 44) led h' → G.UpToSlots h' → E (.ref e) { s with heap := h', toks := tk' }) :
    wpAny (model pw w) (ktrTop dp un gd cn cs L a ccd cl outer) (call f args) Q E s := C _ _ _ _ _ _ _ _ _ _ _ _ _ _ _ _ _ _ _ _ B F X N T hk hdp hun h
section
variable {M : Model} {A : Around} {E : Value → Shared → Prop} {s' : Shared} {base g g₂ : Heap} {outer : List Env} {L a e : Addr} {m : Str → Option Value} {name : Str} {scope : Scope} {cd : Value} {cl : List (Str × Addr)} {Q : Unit → Shared → Prop} {news : List (Addr × Obj)} {oe : Obj} {a0 : Value}
theorem ktsX_mem {b : Addr} (hm : b ∈ (envX name scope L a cd cl :: outer).filterMap (·.frame)) : b = L ∨ b ∈ outer.filterMap (·.frame) := by
  obtain ⟨env, he, hf⟩ := List.mem_filterMap.mp hm
  rcases List.mem_cons.mp he with rfl | he
  · exact .inl (Option.some.inj hf).symm
  · exact .inr (List.mem_filterMap.mpr ⟨env, he, hf⟩)
theorem my_leave_first (K : Below A base outer g) (F : Fr g L s'.heap m) (N : News g L s'.heap ((e, oe) :: news)) (hsep : ∀ p ∈ news, p.1 ≠ e) (hd0 : oe.data = excData a0)
    (hQ : ∀ h', RaisedSN base g outer e oe.cls news h' → g.UpToSlots h' → Q () { s' with heap := h' }) (hk : scope.kind = .function) :
    wpAny M (A.deeper (envX name scope L a cd cl)) (leaving (envX name scope L a cd cl) (.ref e)) Q E s' := by
  obtain ⟨he, heL, heg⟩ := N _ (List.mem_cons_self ..)
  dsimp only at he heL heg
  have K' := pushX (env := envX name scope L a cd cl) K F rfl hk
  have hbe : base.get? e = none := fresh_of_stays K.stays heg
  have hin : ∀ env ∈ (envX name scope L a cd cl :: outer), ∀ b, env.frame = some b → b ∈ e :: (envX name scope L a cd cl :: outer).filterMap (·.frame) := fun env he b hb => List.mem_cons_of_mem _ (List.mem_filterMap.mpr ⟨env, he, hb⟩)
  have st : base.StaysIn (hideAll s'.heap (e :: (envX name scope L a cd cl :: outer).filterMap (·.frame))) := fun b o q => hideAll_get _ (K'.stays b o q) fun hm => by
    rcases List.mem_cons.mp hm with rfl | hm
    · rw [hbe] at q; cases q
    · rw [(K'.frames.mem hm).1] at q; cases q
  have sg : ∀ b o, g.get? b = some o → b ∉ outer.filterMap (·.frame) → (hideAll s'.heap (e :: (envX name scope L a cd cl :: outer).filterMap (·.frame))).get? b = some o := fun b o q nm => hideAll_get _ (F.keep b o q) fun hm => by
    rcases List.mem_cons.mp hm with rfl | hm
    · rw [heg] at q; cases q
    rcases ktsX_mem hm with z | z
    · rw [z, kts_self F] at q
      cases q
    · exact nm z
  have hl : ∀ q ∈ news, (hideAll s'.heap (e :: (envX name scope L a cd cl :: outer).filterMap (·.frame))).get? q.1 = some q.2 ∧ g.get? q.1 = none ∧ base.get? q.1 = none := fun q hq => by
    have N' := N q (List.mem_cons_of_mem _ hq)
    refine ⟨hideAll_get _ N'.1 fun hm => ?_, N'.2.2, fresh_of_stays K.stays N'.2.2⟩
    rcases List.mem_cons.mp hm with z | hm
    · exact hsep q hq z
    obtain ⟨env, he, hf⟩ := List.mem_filterMap.mp hm
    rcases List.mem_cons.mp he with rfl | he
    · exact N'.2.1 (Option.some.inj hf).symm
    · obtain ⟨o, ho, _⟩ := (K.frames.mem (List.mem_filterMap.mpr ⟨env, he, hf⟩)).2
      rw [N'.2.2] at ho; cases ho
  refine wpAny_leaving_firstW (a0 := a0) K'.stack (funFrames_hide K'.frames hin) rfl he (fun b o hb => of_hideAll _ hb) (hideAll_none _ (List.mem_cons_self ..)) hd0 rfl rfl fun h' hL => ?_
  obtain ⟨k1, ⟨_, _, k2⟩, k3, k4⟩ := hL
  exact hQ h' ⟨_, a0, st, sg, hl, k1, hideAll_none _ (List.mem_cons_self ..), k2, k3⟩ ((Heap.UpToSlots.of_keeps F.keep).trans k4)
theorem my_leave_on {cls : Value} (K : Below A base outer g) (F : Fr g L g₂ m) (R : RaisedSN base g₂ (envX name scope L a cd cl :: outer) e cls news s'.heap) (hsm : g₂.UpToSlots s'.heap)
    (hQ : ∀ h', RaisedSN base g outer e cls news h' → g.UpToSlots h' → Q () { s' with heap := h' }) :
    wpAny M (A.deeper (envX name scope L a cd cl)) (leaving (envX name scope L a cd cl) (.ref e)) Q E s' := by
  obtain ⟨B, a0, hB, hBG, hl, hfl⟩ := R
  exact wpAny_leaves_onW (Around.frames_deeper K.stack) rfl hfl fun h' x1 x2 =>
    have R : RaisedSN base g outer e cls news h' := ⟨B, a0, hB, fun b o q nm => hBG b o (F.keep b o q) (fun hm => by
      rcases ktsX_mem hm with z | z
      · rw [z, kts_self F] at q
        cases q
      · exact nm z), fun q hq => ⟨(hl q hq).1, kts_none F.keep (hl q hq).2.1, (hl q hq).2.2⟩, x1⟩
    hQ h' R ((Heap.UpToSlots.of_keeps F.keep).trans (hsm.trans x2))
end
end

section
set_option maxHeartbeats 2000000 in
theorem c_two (w : World) (x : Int) (tx : Tok) (led : List (Addr × Obj)) (h0 : 0 ≤ x) (h1 : x < 65536) :
    Ctr w 10 80 (.ref 307) [.int x tx] led (fun v l => IsBy v [x / 256, x % 256] ∧ led = l) := by
  k_extra "m my_fill"
  refine' Ctr.body (binds := [(Str.ofString "number", Value.int x tx)]) ?z8o ?z8c ?z8b ?z8l ?z8k ?_
  case z8o => k_is
  case z8c => k_is
  case z8b => exact fun _ => BindsTo.of_eq (by kernel_rfl)
  case z8l => kernel_rfl
  case z8k => kernel_rfl
  intro mean mg mb dp un gd outer A₀ base g1 L1 hp1 gsq drq tkq osq Q E B1 F1 X1 N1 T1 hdp hun hret hE9
  intro _ _ _
  k_extra "m my_walk"
  exact hret _ led _ _ ⟨⟨_, _, rfl, KBa.ints_make (by assumption)⟩, rfl⟩ (by k_asm) (by k_extra "m my_news")
set_option maxHeartbeats 2000000 in
theorem c_four (w : World) (x : Int) (tx : Tok) (led : List (Addr × Obj)) (h0 : 0 ≤ x) (h1 : x < 4294967296) :
    Ctr w 10 80 (.ref 300) [.int x tx] led (fun v l => IsBy v [x / 16777216, x / 65536 % 256, x / 256 % 256, x % 256] ∧ led = l) := by
  refine' Ctr.body (binds := [(Str.ofString "number", Value.int x tx)]) ?z8o ?z8c ?z8b ?z8l ?z8k ?_
  case z8o => k_is
  case z8c => k_is
  case z8b => exact fun _ => BindsTo.of_eq (by kernel_rfl)
  case z8l => kernel_rfl
  case z8k => kernel_rfl
  intro mean mg mb dp un gd outer A₀ base g1 L1 hp1 gsq drq tkq osq Q E B1 F1 X1 N1 T1 hdp hun hret hE9
  intro _ _ _
  k_extra "m my_walk"
  exact hret _ led _ _ ⟨⟨_, _, rfl, KBa.ints_make (by assumption)⟩, rfl⟩ (by k_asm) (by k_extra "m my_news")
set_option maxHeartbeats 2000000 in
theorem c_num2 (w : World) (x : Int) (tx t2 : Tok) (led : List (Addr × Obj)) (h0 : 0 ≤ x) (h1 : x < 65536) :
    Ctr w 10 80 (.ref 63) [.int x tx, .int 2 t2] led (fun v l => IsBy v [x / 256, x % 256] ∧ led = l) := by
  refine' Ctr.bodyC (binds := [(Str.ofString "number", Value.int x tx), (Str.ofString "many", Value.int 2 t2)]) ?z8o ?z8c ?z8b ?z8l ?z8k ?_
  case z8o => k_is
  case z8c => k_is
  case z8b => exact fun _ => BindsTo.of_eq (by kernel_rfl)
  case z8l => kernel_rfl
  case z8k => kernel_rfl
  intro mean mg mb dp un gd outer A₀ base g1 L1 hp1 gsq drq tkq osq Q E cells1 B1 F1 X1 N1 Y1 l1 T1 hdp hun hret hE9
  intro _ _ _
  obtain ⟨o1, rfl, d1⟩ := CellsAre.one Y1
  k_extra "m my_walk"
  k_dflt (refine comp_gen (by k_asm) (by rfl) (by decide) (by rfl) (by decide) (by rfl) ?_ (fun _ => rfl))
  k_extra "m my_walk"
  k_dflt (refine comp_range (n := 2) (news := (L1 + 1, o1) :: led) (fun i ys news => news = (L1 + 1, o1) :: led ∧ IntsAre ys ([x / 256, x % 256].take i)) (by rfl) (by k_asm) (by k_extra "m my_news") (by assumption) (by decide) (by decide) (by decide) ⟨rfl, .nil⟩ ?_ ?_)
  · intro g i ys news₁ v I oI C oC D m₂ h tk E' hi hl hJ hP hC hx F' N' off ne
    (try dsimp only)
    k_extra "m my_fq"
    obtain ⟨t, rfl⟩ := hP
    obtain ⟨rfl, hys⟩ := hJ
    rcases (by omega : i = 0 ∨ i = 1) with rfl | rfl
    · have hx' : m₂ (Str.ofString "place") = some (.int 1 t) := hx
      clear hx
      k_extra "m my_walk"
      refine CompEnd.intro F' N' _ (fun _ h => h) off trivial ⟨rfl, ?_⟩
      have hv : x / 256 = x / 256 % 256 := by omega
      exact hv ▸ hys.append (.cons _ _ .nil)
    · have hx' : m₂ (Str.ofString "place") = some (.int 0 t) := hx
      clear hx
      k_extra "m my_walk"
      refine CompEnd.intro F' N' _ (fun _ h => h) off trivial ⟨rfl, ?_⟩
      have hv : x % 256 = x / 1 % 256 := by omega
      exact hv ▸ hys.append (.cons _ _ .nil)
  · intro ys news' hl hJ
    obtain ⟨rfl, hys⟩ := hJ
    have hys' : IntsAre ys [x / 256, x % 256] := hys
    intro D h tk F' N' off
    dsimp only
    k_extra "m my_walk"
    exact hret _ led _ _ ⟨⟨_, _, rfl, KBa.ints_make (by assumption)⟩, rfl⟩ (by k_asm) (by k_extra "m my_news")
set_option maxHeartbeats 2000000 in
theorem c_num4 (w : World) (x : Int) (tx t2 : Tok) (led : List (Addr × Obj)) (h0 : 0 ≤ x) (h1 : x < 4294967296) :
    Ctr w 10 80 (.ref 63) [.int x tx, .int 4 t2] led (fun v l => IsBy v [x / 16777216, x / 65536 % 256, x / 256 % 256, x % 256] ∧ led = l) := by
  refine' Ctr.bodyC (binds := [(Str.ofString "number", Value.int x tx), (Str.ofString "many", Value.int 4 t2)]) ?z8o ?z8c ?z8b ?z8l ?z8k ?_
  case z8o => k_is
  case z8c => k_is
  case z8b => exact fun _ => BindsTo.of_eq (by kernel_rfl)
  case z8l => kernel_rfl
  case z8k => kernel_rfl
  intro mean mg mb dp un gd outer A₀ base g1 L1 hp1 gsq drq tkq osq Q E cells1 B1 F1 X1 N1 Y1 l1 T1 hdp hun hret hE9
  intro _ _ _
  obtain ⟨o1, rfl, d1⟩ := CellsAre.one Y1
  k_extra "m my_walk"
  k_dflt (refine comp_gen (by k_asm) (by rfl) (by decide) (by rfl) (by decide) (by rfl) ?_ (fun _ => rfl))
  k_extra "m my_walk"
  k_dflt (refine comp_range (n := 4) (news := (L1 + 1, o1) :: led) (fun i ys news => news = (L1 + 1, o1) :: led ∧ IntsAre ys ([x / 16777216, x / 65536 % 256, x / 256 % 256, x % 256].take i)) (by rfl) (by k_asm) (by k_extra "m my_news") (by assumption) (by decide) (by decide) (by decide) ⟨rfl, .nil⟩ ?_ ?_)
  · intro g i ys news₁ v I oI C oC D m₂ h tk E' hi hl hJ hP hC hx F' N' off ne
    (try dsimp only)
    k_extra "m my_fq"
    obtain ⟨t, rfl⟩ := hP
    obtain ⟨rfl, hys⟩ := hJ
    rcases (by omega : i = 0 ∨ i = 1 ∨ i = 2 ∨ i = 3) with rfl | rfl | rfl | rfl
    · have hx' : m₂ (Str.ofString "place") = some (.int 3 t) := hx
      clear hx
      k_extra "m my_walk"
      refine CompEnd.intro F' N' _ (fun _ h => h) off trivial ⟨rfl, ?_⟩
      have hv : x / 16777216 = x / 16777216 % 256 := by omega
      exact hv ▸ hys.append (.cons _ _ .nil)
    · have hx' : m₂ (Str.ofString "place") = some (.int 2 t) := hx
      clear hx
      k_extra "m my_walk"
      refine CompEnd.intro F' N' _ (fun _ h => h) off trivial ⟨rfl, ?_⟩
      have hv : x / 65536 % 256 = x / 65536 % 256 := by omega
      exact hv ▸ hys.append (.cons _ _ .nil)
    · have hx' : m₂ (Str.ofString "place") = some (.int 1 t) := hx
      clear hx
      k_extra "m my_walk"
      refine CompEnd.intro F' N' _ (fun _ h => h) off trivial ⟨rfl, ?_⟩
      have hv : x / 256 % 256 = x / 256 % 256 := by omega
      exact hv ▸ hys.append (.cons _ _ .nil)
    · have hx' : m₂ (Str.ofString "place") = some (.int 0 t) := hx
      clear hx
      k_extra "m my_walk"
      refine CompEnd.intro F' N' _ (fun _ h => h) off trivial ⟨rfl, ?_⟩
      have hv : x % 256 = x / 1 % 256 := by omega
      exact hv ▸ hys.append (.cons _ _ .nil)
  · intro ys news' hl hJ
    obtain ⟨rfl, hys⟩ := hJ
    have hys' : IntsAre ys [x / 16777216, x / 65536 % 256, x / 256 % 256, x % 256] := hys
    intro D h tk F' N' off
    dsimp only
    k_extra "m my_walk"
    exact hret _ led _ _ ⟨⟨_, _, rfl, KBa.ints_make (by assumption)⟩, rfl⟩ (by k_asm) (by k_extra "m my_news")
end

theorem rows_3 : True := by
  k_with "m call ref" => ((with_reducible show wpAny _ _ (call (Value.ref 63) [Value.int _ _, Value.int 2 _]) _ _ _); (((k_extra "m my_fq"); k_dflt (refine' (Ctr.eB (c_num2 _ _ _ _ _ (by omega) (by omega))) ?z9k1 ?z9k2 ?z9k3 ?z9k4 ?z9k5 ?z9k6 ?z9k7 ?z9k8 ?_; (case z9k1 => k_asm); (case z9k2 => k_asm); (case z9k3 => k_asm); (case z9k4 => k_asm); (case z9k5 => k_asm); (case z9k6 => first | exact rfl | assumption); (case z9k7 => k_extra "m my_rm"); (case z9k8 => k_extra "m my_rm"))); k_whole); intro _ _ _ _ _ _ _; (try dsimp only))
  k_with "m call ref" => ((with_reducible show wpAny _ _ (call (Value.ref 63) [Value.int _ _, Value.int 4 _]) _ _ _); (((k_extra "m my_fq"); k_dflt (refine' (Ctr.eB (c_num4 _ _ _ _ _ (by omega) (by omega))) ?z9k1 ?z9k2 ?z9k3 ?z9k4 ?z9k5 ?z9k6 ?z9k7 ?z9k8 ?_; (case z9k1 => k_asm); (case z9k2 => k_asm); (case z9k3 => k_asm); (case z9k4 => k_asm); (case z9k5 => k_asm); (case z9k6 => first | exact rfl | assumption); (case z9k7 => k_extra "m my_rm"); (case z9k8 => k_extra "m my_rm"))); k_whole); intro _ _ _ _ _ _ _; (try dsimp only))
  trivial

section
set_option maxHeartbeats 2000000 in
theorem c_put16 (w : World) (x : Int) (tx : Tok) (led : List (Addr × Obj)) (h0 : 0 ≤ x) (h1 : x < 65536) :
    Ctr w 12 90 (.ref 77) [.int x tx] led (fun v l => IsBy v [x / 256, x % 256] ∧ led = l) := by
  k_extra "m my_fill"
  refine' Ctr.body (binds := [(Str.ofString "number", Value.int x tx)]) ?z8o ?z8c ?z8b ?z8l ?z8k ?_
  case z8o => k_is
  case z8c => k_is
  case z8b => exact fun _ => BindsTo.of_eq (by kernel_rfl)
  case z8l => kernel_rfl
  case z8k => kernel_rfl
  intro mean mg mb dp un gd outer A₀ base g1 L1 hp1 gsq drq tkq osq Q E B1 F1 X1 N1 T1 hdp hun hret hE9
  intro _ _ _
  k_extra "m my_walk"
  exact hret _ led _ _ ⟨⟨_, _, rfl, by assumption⟩, rfl⟩ (by k_asm) (by k_extra "m my_news")
set_option maxHeartbeats 2000000 in
theorem c_put32 (w : World) (x : Int) (tx : Tok) (led : List (Addr × Obj)) (h0 : 0 ≤ x) (h1 : x < 4294967296) :
    Ctr w 12 90 (.ref 84) [.int x tx] led (fun v l => IsBy v [x / 16777216, x / 65536 % 256, x / 256 % 256, x % 256] ∧ led = l) := by
  refine' Ctr.body (binds := [(Str.ofString "number", Value.int x tx)]) ?z8o ?z8c ?z8b ?z8l ?z8k ?_
  case z8o => k_is
  case z8c => k_is
  case z8b => exact fun _ => BindsTo.of_eq (by kernel_rfl)
  case z8l => kernel_rfl
  case z8k => kernel_rfl
  intro mean mg mb dp un gd outer A₀ base g1 L1 hp1 gsq drq tkq osq Q E B1 F1 X1 N1 T1 hdp hun hret hE9
  intro _ _ _
  k_extra "m my_walk"
  exact hret _ led _ _ ⟨⟨_, _, rfl, by assumption⟩, rfl⟩ (by k_asm) (by k_extra "m my_news")
set_option maxHeartbeats 2000000 in
theorem c_mac (w : World) (x : Int) (tx : Tok) (led : List (Addr × Obj)) :
    Ctr w 12 90 (.ref 265) [.int x tx] led (fun v l => (∃ t, v = .int (1101088686080 + x % 8388608) t) ∧ led = l) := by
  refine' Ctr.body (binds := [(Str.ofString "group", Value.int x tx)]) ?z8o ?z8c ?z8b ?z8l ?z8k ?_
  case z8o => k_is
  case z8c => k_is
  case z8b => exact fun _ => BindsTo.of_eq (by kernel_rfl)
  case z8l => kernel_rfl
  case z8k => kernel_rfl
  intro mean mg mb dp un gd outer A₀ base g1 L1 hp1 gsq drq tkq osq Q E B1 F1 X1 N1 T1 hdp hun hret hE9
  intro _ _ _
  k_extra "m my_walk"
  exact hret _ led _ _ ⟨⟨_, rfl⟩, rfl⟩ (by k_asm) (by k_extra "m my_news")
set_option maxHeartbeats 2000000 in
theorem c_kept (w : World) (x : Int) (tx : Tok) (led : List (Addr × Obj)) :
    Ctr w 12 90 (.ref 272) [.int x tx] led (fun v l => v = .bool (decide (x / 256 = 14680064)) ∧ led = l) := by
  refine' Ctr.body (binds := [(Str.ofString "group", Value.int x tx)]) ?z8o ?z8c ?z8b ?z8l ?z8k ?_
  case z8o => k_is
  case z8c => k_is
  case z8b => exact fun _ => BindsTo.of_eq (by kernel_rfl)
  case z8l => kernel_rfl
  case z8k => kernel_rfl
  intro mean mg mb dp un gd outer A₀ base g1 L1 hp1 gsq drq tkq osq Q E B1 F1 X1 N1 T1 hdp hun hret hE9
  intro _ _ _
  k_extra "m my_walk"
  exact hret _ led _ _ ⟨congrArg Value.bool (by rw [Bool.beq_eq_decide_eq]), rfl⟩ (by k_asm) (by k_extra "m my_news")
def timeOf (c : Int) : Int := if c < 128 then c else (c % 16 + 16) * 2 ^ (c / 16 % 8 + 3).toNat
set_option maxHeartbeats 2000000 in
theorem c_time (w : World) (x : Int) (tx : Tok) (led : List (Addr × Obj)) (h0 : 0 ≤ x) (h1 : x < 256) :
    Ctr w 12 90 (.ref 120) [.int x tx] led (fun v l => (∃ t, v = .int (timeOf x) t) ∧ led = l) := by
  refine' Ctr.body (binds := [(Str.ofString "code", Value.int x tx)]) ?z8o ?z8c ?z8b ?z8l ?z8k ?_
  case z8o => k_is
  case z8c => k_is
  case z8b => exact fun _ => BindsTo.of_eq (by kernel_rfl)
  case z8l => kernel_rfl
  case z8k => kernel_rfl
  intro mean mg mb dp un gd outer A₀ base g1 L1 hp1 gsq drq tkq osq Q E B1 F1 X1 N1 T1 hdp hun hret hE9
  intro _ _ _
  k_extra "m my_walk"
  · exact hret _ led _ _ ⟨⟨_, by rw [timeOf, if_pos (by assumption)]⟩, rfl⟩ (by k_asm) (by k_extra "m my_news")
  · exact hret _ led _ _ ⟨⟨_, by rw [timeOf, if_neg (by assumption)]⟩, rfl⟩ (by k_asm) (by k_extra "m my_news")
end

theorem rows_4 : True := by
  k_with "m call ref" => ((with_reducible show wpAny _ _ (call (Value.ref 70) [Value.bytes _ _, Value.int _ _, Value.int 2 _]) _ _ _); (((k_extra "m my_fq"); k_dflt (refine' (Ctr.eI (c_get2 _ _ _ _ _ _ _ _ (by assumption) (by omega) (by omega) (by omega))) ?z9k1 ?z9k2 ?z9k3 ?z9k4 ?z9k5 ?z9k6 ?z9k7 ?z9k8 ?_; (case z9k1 => k_asm); (case z9k2 => k_asm); (case z9k3 => k_asm); (case z9k4 => k_asm); (case z9k5 => k_asm); (case z9k6 => first | exact rfl | assumption); (case z9k7 => k_extra "m my_rm"); (case z9k8 => k_extra "m my_rm"))); k_whole); intro _ _ _ _ _; (try dsimp only))
  k_with "m call ref" => ((with_reducible show wpAny _ _ (call (Value.ref 70) [Value.bytes _ _, Value.int _ _, Value.int 4 _]) _ _ _); (((k_extra "m my_fq"); k_dflt (refine' (Ctr.eI (c_get4 _ _ _ _ _ _ _ _ (by assumption) (by omega) (by omega) (by omega))) ?z9k1 ?z9k2 ?z9k3 ?z9k4 ?z9k5 ?z9k6 ?z9k7 ?z9k8 ?_; (case z9k1 => k_asm); (case z9k2 => k_asm); (case z9k3 => k_asm); (case z9k4 => k_asm); (case z9k5 => k_asm); (case z9k6 => first | exact rfl | assumption); (case z9k7 => k_extra "m my_rm"); (case z9k8 => k_extra "m my_rm"))); k_whole); intro _ _ _ _ _; (try dsimp only))
  trivial

section
def nth (ks : List Int) (i : Int) : Int := ks.getD i.toNat 0
def g2 (ks : List Int) (i : Int) : Int := nth ks i * 256 + nth ks (i + 1)
def g4 (ks : List Int) (i : Int) : Int := ((nth ks i * 256 + nth ks (i + 1)) * 256 + nth ks (i + 2)) * 256 + nth ks (i + 3)
theorem pick2 {ks : List Int} {i : Int} (h0 : 0 ≤ i) (h1 : i + 2 ≤ ks.length) : (ks.drop i.toNat).take (i + 2 - i).toNat = [nth ks i, nth ks (i + 1)] := by
  have e : (i + 2 - i).toNat = 2 := by omega
  rw [e]
  have hl : i.toNat + 2 ≤ ks.length := by omega
  have d : ∀ k, k < ks.length → ks.drop k = ks.getD k 0 :: ks.drop (k + 1) := fun k hk => by
    rw [List.drop_eq_getElem_cons hk, List.getD_eq_getElem?_getD, List.getElem?_eq_getElem hk]; rfl
  have t : ∀ k : Nat, (i + (k : Int)).toNat = i.toNat + k := fun k => by omega
  rw [d (i.toNat) (by omega), d (i.toNat + 1) (by omega)]
  simp only [List.take_succ_cons, List.take_zero, nth]
  rw [show (i + 1).toNat = i.toNat + 1 from t 1]
set_option maxHeartbeats 2000000 in
theorem c_get2 (w : World) (b : Array UInt8) (tb : Tok) (ks : List Int) (i : Int) (ta t2 : Tok) (led : List (Addr × Obj)) (hb : KBw.bInts b = ks) (hlen : ks.length ≤ 70000) (h0 : 0 ≤ i) (h1 : i + 2 ≤ ks.length) :
    Ctr w 10 80 (.ref 70) [.bytes b tb, .int i ta, .int 2 t2] led (fun v l => (∃ t, v = .int (g2 ks i) t) ∧ led = l) := by
  refine' Ctr.body (binds := [(Str.ofString "octets", Value.bytes b tb), (Str.ofString "at", Value.int i ta), (Str.ofString "many", Value.int 2 t2)]) ?z8o ?z8c ?z8b ?z8l ?z8k ?_
  case z8o => k_is
  case z8c => k_is
  case z8b => exact fun _ => BindsTo.of_eq (by kernel_rfl)
  case z8l => kernel_rfl
  case z8k => kernel_rfl
  intro mean mg mb dp un gd outer A₀ base g1 L1 hp1 gsq drq tkq osq Q E B1 F1 X1 N1 T1 hdp hun hret hE9
  intro _ _ _
  k_extra "m my_walk"
  k_extra "m my_for"
  k_extra "m my_walk"
  rw [pick2 h0 h1] at *
  k_dflt (refine for_bytes (fun j m1 news => led = news ∧ ∃ t f, m1 (Str.ofString "found") = some (.int f t) ∧ 0 ≤ f ∧ (∃ B : Nat, f < (B : Int) ∧ B = 256 ^ j) ∧ f = ([nth ks i, nth ks (i + 1)].take j).foldl (fun a k => a * 256 + k) 0) (by assumption) (by rfl) (by k_asm) (by k_asm) ⟨rfl, _, _, rfl, by decide, ⟨1, by decide, rfl⟩, rfl⟩ ?_ ?_)
  · intro I j k t m1 news h tk oI hk hk0 hk1 hJ off F' N'
    (try dsimp only)
    k_extra "m my_fq"
    obtain ⟨rfl, u, f, hm, hf0, ⟨B, hfB, hB⟩, hf⟩ := hJ
    have hj : j < 2 := by have := (List.getElem?_eq_some_iff.mp hk).1; simpa using this
    have hB3 : B ≤ 256 ^ 3 := by rw [hB]; exact Nat.pow_le_pow_right (by decide) (by omega)
    have F2 := fr_set (x := Str.ofString "found") F' hm
    clear F'
    k_extra "m my_fold"
    k_extra "m my_walk"
    refine turn_next (by k_asm) (by k_asm) (fun _ h => h) off ⟨rfl, _, _, rfl, by omega, ⟨B * 256, by omega, by rw [hB, Nat.pow_succ]⟩, ?_⟩
    rw [List.take_add_one, hk, List.foldl_append, ← hf]; rfl
  · intro m1 news h tk hJ F' N'
    obtain ⟨rfl, u, f, hm, hf0, _, hf⟩ := hJ
    have F2 := fr_set (x := Str.ofString "found") F' hm
    clear F'
    dsimp only
    k_extra "m my_walk"
    have he : f = g2 ks i := by
      rw [hf]
      simp only [List.length_cons, List.length_nil, List.take_succ_cons, List.take_zero, List.foldl_cons, List.foldl_nil, g2, Int.zero_mul, Int.zero_add]
    exact hret _ led _ _ ⟨⟨_, by rw [he]⟩, rfl⟩ (by k_asm) (by k_extra "m my_news")
theorem pick4 {ks : List Int} {i : Int} (h0 : 0 ≤ i) (h1 : i + 4 ≤ ks.length) : (ks.drop i.toNat).take (i + 4 - i).toNat = [nth ks i, nth ks (i + 1), nth ks (i + 2), nth ks (i + 3)] := by
  have e : (i + 4 - i).toNat = 4 := by omega
  rw [e]
  have hl : i.toNat + 4 ≤ ks.length := by omega
  have d : ∀ k, k < ks.length → ks.drop k = ks.getD k 0 :: ks.drop (k + 1) := fun k hk => by
    rw [List.drop_eq_getElem_cons hk, List.getD_eq_getElem?_getD, List.getElem?_eq_getElem hk]; rfl
  have t : ∀ k : Nat, (i + (k : Int)).toNat = i.toNat + k := fun k => by omega
  rw [d (i.toNat) (by omega), d (i.toNat + 1) (by omega), d (i.toNat + 1 + 1) (by omega), d (i.toNat + 1 + 1 + 1) (by omega)]
  simp only [List.take_succ_cons, List.take_zero, nth]
  rw [show (i + 1).toNat = i.toNat + 1 from t 1, show (i + 2).toNat = i.toNat + 2 from t 2, show (i + 3).toNat = i.toNat + 3 from t 3]
set_option maxHeartbeats 2000000 in
theorem c_get4 (w : World) (b : Array UInt8) (tb : Tok) (ks : List Int) (i : Int) (ta t2 : Tok) (led : List (Addr × Obj)) (hb : KBw.bInts b = ks) (hlen : ks.length ≤ 70000) (h0 : 0 ≤ i) (h1 : i + 4 ≤ ks.length) :
    Ctr w 10 80 (.ref 70) [.bytes b tb, .int i ta, .int 4 t2] led (fun v l => (∃ t, v = .int (g4 ks i) t) ∧ led = l) := by
  refine' Ctr.body (binds := [(Str.ofString "octets", Value.bytes b tb), (Str.ofString "at", Value.int i ta), (Str.ofString "many", Value.int 4 t2)]) ?z8o ?z8c ?z8b ?z8l ?z8k ?_
  case z8o => k_is
  case z8c => k_is
  case z8b => exact fun _ => BindsTo.of_eq (by kernel_rfl)
  case z8l => kernel_rfl
  case z8k => kernel_rfl
  intro mean mg mb dp un gd outer A₀ base g1 L1 hp1 gsq drq tkq osq Q E B1 F1 X1 N1 T1 hdp hun hret hE9
  intro _ _ _
  k_extra "m my_walk"
  k_extra "m my_for"
  k_extra "m my_walk"
  rw [pick4 h0 h1] at *
  k_dflt (refine for_bytes (fun j m1 news => led = news ∧ ∃ t f, m1 (Str.ofString "found") = some (.int f t) ∧ 0 ≤ f ∧ (∃ B : Nat, f < (B : Int) ∧ B = 256 ^ j) ∧ f = ([nth ks i, nth ks (i + 1), nth ks (i + 2), nth ks (i + 3)].take j).foldl (fun a k => a * 256 + k) 0) (by assumption) (by rfl) (by k_asm) (by k_asm) ⟨rfl, _, _, rfl, by decide, ⟨1, by decide, rfl⟩, rfl⟩ ?_ ?_)
  · intro I j k t m1 news h tk oI hk hk0 hk1 hJ off F' N'
    (try dsimp only)
    k_extra "m my_fq"
    obtain ⟨rfl, u, f, hm, hf0, ⟨B, hfB, hB⟩, hf⟩ := hJ
    have hj : j < 4 := by have := (List.getElem?_eq_some_iff.mp hk).1; simpa using this
    have hB3 : B ≤ 256 ^ 3 := by rw [hB]; exact Nat.pow_le_pow_right (by decide) (by omega)
    have F2 := fr_set (x := Str.ofString "found") F' hm
    clear F'
    k_extra "m my_fold"
    k_extra "m my_walk"
    refine turn_next (by k_asm) (by k_asm) (fun _ h => h) off ⟨rfl, _, _, rfl, by omega, ⟨B * 256, by omega, by rw [hB, Nat.pow_succ]⟩, ?_⟩
    rw [List.take_add_one, hk, List.foldl_append, ← hf]; rfl
  · intro m1 news h tk hJ F' N'
    obtain ⟨rfl, u, f, hm, hf0, _, hf⟩ := hJ
    have F2 := fr_set (x := Str.ofString "found") F' hm
    clear F'
    dsimp only
    k_extra "m my_walk"
    have he : f = g4 ks i := by
      rw [hf]
      simp only [List.length_cons, List.length_nil, List.take_succ_cons, List.take_zero, List.foldl_cons, List.foldl_nil, g4, Int.zero_mul, Int.zero_add]
    exact hret _ led _ _ ⟨⟨_, by rw [he]⟩, rfl⟩ (by k_asm) (by k_extra "m my_news")
set_option maxHeartbeats 2000000 in
theorem c_get16 (w : World) (b : Array UInt8) (tb : Tok) (ks : List Int) (i : Int) (ta : Tok) (led : List (Addr × Obj)) (hb : KBw.bInts b = ks) (hlen : ks.length ≤ 70000) (h0 : 0 ≤ i) (h1 : i + 2 ≤ ks.length) :
    Ctr w 12 90 (.ref 91) [.bytes b tb, .int i ta] led (fun v l => (∃ t, v = .int (g2 ks i) t) ∧ led = l) := by
  refine' Ctr.body (binds := [(Str.ofString "octets", Value.bytes b tb), (Str.ofString "at", Value.int i ta)]) ?z8o ?z8c ?z8b ?z8l ?z8k ?_
  case z8o => k_is
  case z8c => k_is
  case z8b => exact fun _ => BindsTo.of_eq (by kernel_rfl)
  case z8l => kernel_rfl
  case z8k => kernel_rfl
  intro mean mg mb dp un gd outer A₀ base g1 L1 hp1 gsq drq tkq osq Q E B1 F1 X1 N1 T1 hdp hun hret hE9
  intro _ _ _
  k_extra "m my_walk"
  exact hret _ led _ _ ⟨⟨_, rfl⟩, rfl⟩ (by k_asm) (by k_extra "m my_news")
set_option maxHeartbeats 2000000 in
theorem c_get32 (w : World) (b : Array UInt8) (tb : Tok) (ks : List Int) (i : Int) (ta : Tok) (led : List (Addr × Obj)) (hb : KBw.bInts b = ks) (hlen : ks.length ≤ 70000) (h0 : 0 ≤ i) (h1 : i + 4 ≤ ks.length) :
    Ctr w 12 90 (.ref 98) [.bytes b tb, .int i ta] led (fun v l => (∃ t, v = .int (g4 ks i) t) ∧ led = l) := by
  refine' Ctr.body (binds := [(Str.ofString "octets", Value.bytes b tb), (Str.ofString "at", Value.int i ta)]) ?z8o ?z8c ?z8b ?z8l ?z8k ?_
  case z8o => k_is
  case z8c => k_is
  case z8b => exact fun _ => BindsTo.of_eq (by kernel_rfl)
  case z8l => kernel_rfl
  case z8k => kernel_rfl
  intro mean mg mb dp un gd outer A₀ base g1 L1 hp1 gsq drq tkq osq Q E B1 F1 X1 N1 T1 hdp hun hret hE9
  intro _ _ _
  k_extra "m my_walk"
  exact hret _ led _ _ ⟨⟨_, rfl⟩, rfl⟩ (by k_asm) (by k_extra "m my_news")
end

theorem rows_5 : True := by
  k_with "m call ref" => ((with_reducible show wpAny _ _ (call (Value.ref 286) [Value.ref _, Value.int _ _]) _ _ _); ((k_extra "m my_fq"); k_dflt (refine' (Ctr.useU (Ctr.upd (P := IntP 0 _) (fun r hr _ => c_take _ _ _ _ r _ hr ?z9q1 ?z9q2 ?z9q3) ?z9q6)) ?z9k1 ?z9k2 ?z9k3 ?z9k4 ?z9k5 ?z9k6 ?z9k7 ?z9k8 ?_; (case z9k1 => k_asm); (case z9k2 => k_asm); (case z9k3 => k_asm); (case z9k4 => k_asm); (case z9k5 => k_asm); (case z9k6 => first | exact rfl | assumption); (case z9k7 => k_extra "m my_rm"); (case z9k8 => k_extra "m my_rm"))); (case z9q6 => k_updF); (case z9q1 => k_dflt omega); (case z9q2 => k_dflt omega); (case z9q3 => assumption); k_whole; intro _ _ _ _ _ _ _ _ _ N8; (revert N8; (try dsimp only); intro _))
  trivial

section
def SrcObj (o : Obj) : Prop := ∃ a ta b tb n, o = PySem.W.listOf #[.int a ta, .int b tb] n ∧ 0 ≤ a ∧ 0 ≤ b ∧ b < 2147483647
def IntP (lo hi : Int) (v : Value) (o : Obj) : Prop := (∃ x t, v = .int x t ∧ lo ≤ x ∧ x < hi) ∧ SrcObj o
theorem Ctr.useU {w : World} {D U : Nat} {f : Value} {args : List Value} {led : List (Addr × Obj)} {l9 hi : Int} {g : Obj → List (Addr × Obj)}
    {mean : ExcName → Option Value} {mg mb : Str → Option Value} {dp un : Nat} {gd : Option (List Code)} {cn : Str} {cs : Scope} {a : Addr} {ccd : Value} {cl : List (Str × Addr)} {outer : List Env} {A₀ : Around} {base h₀ : Heap} {L : Addr} {m : Str → Option Value} {s : Shared} {Q E : Value → Shared → Prop}
    (C : Ctr w D U f args led (fun v l => ∃ o', IntP l9 hi v o' ∧ g o' = l)) (B : Below A₀ base outer h₀) (F : Fr h₀ L s.heap m) (X : (kay.heap_1 w.params).In h₀) (N : News h₀ L s.heap led) (T : Top topProg lo mean mg mb h₀) (hk : cs.kind = .function) (hdp : dp + D < recursionLimit) (hun : un + U < cLine)
    (h : ∀ (h' : Heap) (tk' : Nat), Fr h₀ L h' m → ∀ o', SrcObj o' → ∀ (x : Int) (t : Tok), l9 ≤ x → x < hi → News h₀ L h' (g o') → Q (.int x t) { s with heap := h', toks := tk' }) :
    wpAny (model pw w) (ktrTop dp un gd cn cs L a ccd cl outer) (call f args) Q E s :=
  C.use B F X N T hk hdp hun fun v l h' tk' hP F' N' => by
    obtain ⟨o', ⟨⟨x, t, rfl, h1, h2⟩, hS⟩, rfl⟩ := hP
    exact h h' tk' F' o' hS x t h1 h2 N'
set_option maxHeartbeats 2000000 in
theorem c_take (w : World) (src : Addr) (top : Int) (tt : Tok) (rest : List (Addr × Obj)) (o : Obj) (hsep : ∀ p ∈ rest, p.1 ≠ src) (ht0 : 0 < top) (ht1 : top ≤ 4294967296) (ho : SrcObj o) :
    Ctr w 10 80 (.ref 286) [.ref src, .int top tt] ((src, o) :: rest) (fun v l => ∃ o', IntP 0 top v o' ∧ (src, o') :: rest = l) := by
  obtain ⟨av, ta, bv, tb, n, rfl, ha0, hb0, hb1⟩ := ho
  refine' Ctr.body (binds := [(Str.ofString "source", Value.ref src), (Str.ofString "top", Value.int top tt)]) ?z8o ?z8c ?z8b ?z8l ?z8k ?_
  case z8o => k_is
  case z8c => k_is
  case z8b => exact fun _ => BindsTo.of_eq (by kernel_rfl)
  case z8l => kernel_rfl
  case z8k => kernel_rfl
  intro mean mg mb dp un gd outer A₀ base g1 L1 hp1 gsq drq tkq osq Q E B1 F1 X1 N1 T1 hdp hun hret hE9
  intro _ _ _
  k_extra "m my_walk"
  · refine hret _ _ _ _ ⟨_, ⟨⟨_, _, rfl, Int.emod_nonneg _ (by omega), Int.emod_lt_of_pos _ ht0⟩, ⟨_, _, _, _, _, rfl, ?_, ?_, ?_⟩⟩, rfl⟩ (by k_asm) (by k_asm)
    · exact Int.ediv_nonneg ha0 (by omega)
    · exact hb0
    · exact hb1
  · refine hret _ _ _ _ ⟨_, ⟨⟨_, _, rfl, Int.emod_nonneg _ (by omega), Int.emod_lt_of_pos _ ht0⟩, ⟨_, _, _, _, _, rfl, ?_, ?_, ?_⟩⟩, rfl⟩ (by k_asm) (by k_asm)
    · exact ha0
    · omega
    · omega
def MemP (vs : List Value) (v : Value) (o : Obj) : Prop := v ∈ vs ∧ SrcObj o
set_option maxHeartbeats 2000000 in
theorem c_one (w : World) (src th : Addr) (vs : List Value) (n : Nat) (rest : List (Addr × Obj)) (o : Obj) (hsep : ∀ p ∈ rest, p.1 ≠ src) (hth : (th, PySem.W.listOf vs.toArray n) ∈ rest) (hv0 : 0 < vs.length) (hv1 : vs.length < 1000) (ho : SrcObj o) :
    Ctr w 12 90 (.ref 293) [.ref src, .ref th] ((src, o) :: rest) (fun v l => ∃ o', MemP vs v o' ∧ (src, o') :: rest = l) := by
  refine' Ctr.body (binds := [(Str.ofString "source", Value.ref src), (Str.ofString "things", Value.ref th)]) ?z8o ?z8c ?z8b ?z8l ?z8k ?_
  case z8o => k_is
  case z8c => k_is
  case z8b => exact fun _ => BindsTo.of_eq (by kernel_rfl)
  case z8l => kernel_rfl
  case z8k => kernel_rfl
  intro mean mg mb dp un gd outer A₀ base g1 L1 hp1 gsq drq tkq osq Q E B1 F1 X1 N1 T1 hdp hun hret hE9
  intro _ _ _
  k_extra "m my_walk"
  refine my_item_any (by k_asm) (.tail _ hth) (by omega) (by omega) (by omega) (fun v hv => ?_) (by with_unfolding_all rfl)
  k_extra "m my_walk"
  exact hret v _ _ _ ⟨_, ⟨hv, by assumption⟩, rfl⟩ (by k_asm) (by k_asm)
set_option maxHeartbeats 2000000 in
theorem c_group (w : World) (src : Addr) (rest : List (Addr × Obj)) (o : Obj) (hsep : ∀ p ∈ rest, p.1 ≠ src) (ho : SrcObj o) :
    Ctr w 14 100 (.ref 319) [.ref src] ((src, o) :: rest) (fun v l => ∃ o', IntP 3758096384 4026531840 v o' ∧ (src, o') :: rest = l) := by
  refine' Ctr.body (binds := [(Str.ofString "source", Value.ref src)]) ?z8o ?z8c ?z8b ?z8l ?z8k ?_
  case z8o => k_is
  case z8c => k_is
  case z8b => exact fun _ => BindsTo.of_eq (by kernel_rfl)
  case z8l => kernel_rfl
  case z8k => kernel_rfl
  intro mean mg mb dp un gd outer A₀ base g1 L1 hp1 gsq drq tkq osq Q E B1 F1 X1 N1 T1 hdp hun hret hE9
  intro _ _ _
  k_extra "m my_walk"
  (((k_extra "m my_fq"); k_dflt (refine' (Ctr.use (Ctr.upd (P := MemP _) (fun r hr ha => c_one _ _ _ _ _ r _ hr (ha _ ?q1 ?q2) ?q3 ?q4 ?q5) ?q6)) ?z9k1 ?z9k2 ?z9k3 ?z9k4 ?z9k5 ?z9k6 ?z9k7 ?z9k8 ?_; (case z9k1 => k_asm); (case z9k2 => k_asm); (case z9k3 => k_asm); (case z9k4 => k_asm); (case z9k5 => k_asm); (case z9k6 => first | exact rfl | assumption); (case z9k7 => k_extra "m my_rm"); (case z9k8 => k_extra "m my_rm"))))
  case q6 => k_updF
  case q1 => k_mem
  case q2 => k_ne
  case q3 => simp only [List.length_cons, List.length_nil]; omega
  case q4 => simp only [List.length_cons, List.length_nil]; omega
  case q5 => assumption
  k_whole
  intro v8 l8 h8 tk8 hP8 F8 N8
  obtain ⟨o8, ⟨hv8, hS8⟩, rfl⟩ := hP8
  (try dsimp only at N8)
  (try dsimp only)
  obtain ⟨x, t, rfl, hx0, hx1⟩ : ∃ x t, v8 = .int x t ∧ 0 ≤ x ∧ x < 268435456 := by
    simp only [List.mem_cons, List.not_mem_nil, or_false] at hv8
    rcases hv8 with rfl | rfl | rfl | rfl | rfl <;> exact ⟨_, _, rfl, by omega, by omega⟩
  k_extra "m my_walk"
  exact hret _ _ _ _ ⟨_, ⟨⟨_, _, rfl, by omega, by omega⟩, hS8⟩, rfl⟩ (by k_asm) (by k_extra "m my_news")
set_option maxHeartbeats 2000000 in
theorem c_address (w : World) (src : Addr) (rest : List (Addr × Obj)) (o : Obj) (hsep : ∀ p ∈ rest, p.1 ≠ src) (ho : SrcObj o) :
    Ctr w 14 100 (.ref 326) [.ref src] ((src, o) :: rest) (fun v l => ∃ o', IntP 0 4294967296 v o' ∧ (src, o') :: rest = l) := by
  refine' Ctr.body (binds := [(Str.ofString "source", Value.ref src)]) ?z8o ?z8c ?z8b ?z8l ?z8k ?_
  case z8o => k_is
  case z8c => k_is
  case z8b => exact fun _ => BindsTo.of_eq (by kernel_rfl)
  case z8l => kernel_rfl
  case z8k => kernel_rfl
  intro mean mg mb dp un gd outer A₀ base g1 L1 hp1 gsq drq tkq osq Q E B1 F1 X1 N1 T1 hdp hun hret hE9
  intro _ _ _
  k_extra "m my_walk"
  (((k_extra "m my_fq"); k_dflt (refine' (Ctr.use (Ctr.upd (P := MemP _) (fun r hr ha => c_one _ _ _ _ _ r _ hr (ha _ ?q1 ?q2) ?q3 ?q4 ?q5) ?q6)) ?z9k1 ?z9k2 ?z9k3 ?z9k4 ?z9k5 ?z9k6 ?z9k7 ?z9k8 ?_; (case z9k1 => k_asm); (case z9k2 => k_asm); (case z9k3 => k_asm); (case z9k4 => k_asm); (case z9k5 => k_asm); (case z9k6 => first | exact rfl | assumption); (case z9k7 => k_extra "m my_rm"); (case z9k8 => k_extra "m my_rm"))))
  case q6 => k_updF
  case q1 => k_mem
  case q2 => k_ne
  case q3 => simp only [List.length_cons, List.length_nil]; omega
  case q4 => simp only [List.length_cons, List.length_nil]; omega
  case q5 => assumption
  k_whole
  intro v8 l8 h8 tk8 hP8 F8 N8
  obtain ⟨o8, ⟨hv8, hS8⟩, rfl⟩ := hP8
  (try dsimp only at N8)
  (try dsimp only)
  obtain ⟨x, t, rfl, hx0, hx1⟩ : ∃ x t, v8 = .int x t ∧ 0 ≤ x ∧ x < 4294967296 := by
    simp only [List.mem_cons, List.not_mem_nil, or_false] at hv8
    rcases hv8 with rfl | rfl | rfl <;> exact ⟨_, _, rfl, by omega, by omega⟩
  k_extra "m my_walk"
  exact hret _ _ _ _ ⟨_, ⟨⟨_, _, rfl, by omega, by omega⟩, hS8⟩, rfl⟩ (by k_asm) (by k_extra "m my_news")
end

section
def wt (k : Nat) : Int := if k % 2 = 0 then 256 else 1
def wsum (ks : List Int) : Nat → Int
  | 0 => 0
  | n + 1 => wsum ks n + ks.getD n 0 * wt n
theorem byte_at {ks : List Int} (h : ∀ k ∈ ks, 0 ≤ k ∧ k < 256) (i : Nat) : 0 ≤ ks.getD i 0 ∧ ks.getD i 0 < 256 := by
  rw [List.getD_eq_getElem?_getD]
  cases e : ks[i]? with
  | none => exact ⟨by decide, by decide⟩
  | some k => exact h k (List.mem_of_getElem? e)
theorem wsum_bound {ks : List Int} (h : ∀ k ∈ ks, 0 ≤ k ∧ k < 256) : ∀ n : Nat, 0 ≤ wsum ks n ∧ wsum ks n ≤ 65280 * (n : Int)
  | 0 => ⟨Int.le_refl 0, Int.le_refl 0⟩
  | n + 1 => by
    obtain ⟨a, b⟩ := wsum_bound h n
    obtain ⟨c, d⟩ := byte_at h n
    unfold wsum wt
    split <;> omega
theorem wsum_past {ks : List Int} {n : Nat} (h : ks.length ≤ n) : wsum ks n = wsum ks ks.length := by
  induction n with
  | zero => have : ks.length = 0 := by omega
            rw [this]
  | succ n ih =>
    rcases Nat.lt_or_ge n ks.length with h1 | h1
    · have : ks.length = n + 1 := by omega
      rw [this]
    · rw [wsum, ih h1, List.getD_eq_getElem?_getD, List.getElem?_eq_none h1, Option.getD_none, Int.zero_mul, Int.add_zero]
theorem wsum_two (ks : List Int) (j : Nat) : wsum ks (2 * (j + 1)) = wsum ks (2 * j) + (ks.getD (2 * j) 0 * 256 + ks.getD (2 * j + 1) 0) := by
  show wsum ks (2 * j + 1 + 1) = _
  rw [wsum, wsum, wt, wt, if_pos (by omega), if_neg (by omega)]
  omega
theorem getD_pad (ks : List Int) (n i : Nat) : (ks ++ List.replicate n 0).getD i 0 = ks.getD i 0 := by
  rw [List.getD_eq_getElem?_getD, List.getD_eq_getElem?_getD]
  rcases Nat.lt_or_ge i ks.length with h | h
  · rw [List.getElem?_append_left h]
  · rw [List.getElem?_append_right h, List.getElem?_eq_none h, List.getElem?_replicate]
    split <;> rfl
def Summed (S r : Int) : Prop := 0 ≤ r ∧ r ≤ 65535 ∧ r % 65535 = S % 65535 ∧ (0 < S → 0 < r) ∧ (S = 0 → r = 0)
theorem small_two {b : Int} (h0 : 0 ≤ b) (h1 : b < 2 ^ 40) : Builtin.Range.small 0 b 2 = true := by
  have hr := rangeSize_pos (show (1 : Int) ≤ 2 by decide) h0
  unfold Builtin.Range.small
  rw [hr]
  simp only [Builtin.Range.rangeFitsLong, Bool.and_eq_true, Bool.or_eq_true, decide_eq_true_eq]
  refine ⟨⟨⟨⟨⟨by decide, by decide⟩, ⟨by omega, by omega⟩⟩, by decide⟩, ⟨by omega, by omega⟩⟩, .inr ?_⟩
  rw [if_pos (by decide)]
  simp only [Bool.and_eq_true, decide_eq_true_eq]
  omega
set_option maxHeartbeats 2000000 in
theorem c_words (w : World) (b : Array UInt8) (tb : Tok) (ks : List Int) (led : List (Addr × Obj)) (hb : KBw.bInts b = ks) (hlen : ks.length ≤ 70000) :
    Ctr w 10 80 (.ref 106) [.bytes b tb] led (fun v l => (∃ t r, v = .int r t ∧ Summed (wsum ks ks.length) r) ∧ led = l) := by
  have hin : ∀ k ∈ ks, 0 ≤ k ∧ k < 256 := fun k hk => KBw.ints_in (hb ▸ hk)
  refine' Ctr.body (binds := [(Str.ofString "octets", Value.bytes b tb)]) ?z8o ?z8c ?z8b ?z8l ?z8k ?_
  case z8o => k_is
  case z8c => k_is
  case z8b => exact fun _ => BindsTo.of_eq (by kernel_rfl)
  case z8l => kernel_rfl
  case z8k => kernel_rfl
  intro mean mg mb dp un gd outer A₀ base g1 L1 hp1 gsq drq tkq osq Q E B1 F1 X1 N1 T1 hdp hun hret hE9
  intro _ _ _
  k_extra "m my_walk"
  k_extra "m my_for"
  k_extra "m my_walk"
  have e2 : (ks.length : Int) % 2 = ((ks.length % 2 : Nat) : Int) := by omega
  have e1 : (((ks ++ List.replicate ((ks.length : Int) % 2).toNat 0).length : Nat) : Int) = 2 * (((ks.length + 1) / 2 : Nat) : Int) := by
    rw [List.length_append, List.length_replicate, e2]; omega
  k_dflt (refine for_range (n := (ks.length + 1) / 2) (news := led) (fun j m1 news => led = news ∧ (∃ b' t', m1 (Str.ofString "even") = some (.bytes b' t') ∧ KBw.bInts b' = ks ++ List.replicate ((ks.length : Int) % 2).toNat 0) ∧ ∃ t f, m1 (Str.ofString "total") = some (.int f t) ∧ 0 ≤ f ∧ f ≤ 130560 * (j : Int) ∧ f = wsum ks (2 * j)) (by rfl) (by k_asm) (by k_extra "m my_news") (by assumption) ?_ ?_ ⟨rfl, ⟨_, _, rfl, by assumption⟩, _, _, rfl, Int.le_refl 0, Int.le_refl 0, rfl⟩ ?_ ?_)
  · rw [e1]; exact small_two (by omega) (by omega)
  · rw [e1, rangeSize_pos (by decide) (by omega)]; omega
  · intro I j t m1 news h tk oI hk hJ off F' N'
    (try dsimp only)
    k_extra "m my_fq"
    obtain ⟨rfl, ⟨b7, t7, hm7, hb7⟩, u, f, hm, hf0, hf1, hf⟩ := hJ
    have F2 := fr_set (x := Str.ofString "even") (fr_set (x := Str.ofString "total") F' hm) hm7
    clear F'
    k_extra "m my_fold"
    k_extra "m my_walk"
    refine turn_next (by k_asm) (by k_asm) (fun _ h => h) off ⟨rfl, ⟨_, _, rfl, hb7⟩, _, _, rfl, by omega, by omega, ?_⟩
    rw [wsum_two, hf, getD_pad, getD_pad]
    congr 3 <;> congr 1 <;> omega
  · intro m1 news h tk hJ F' N'
    obtain ⟨rfl, _, u, f, hm, hf0, hf1, hf⟩ := hJ
    rw [wsum_past (by omega)] at hf
    have F2 := fr_set (x := Str.ofString "total") F' hm
    clear F'
    dsimp only
    k_extra "m my_walk"
    refine While_inv (n₀ := f.toNat) (fun n m2 nw => led = nw ∧ ∃ t f, m2 (Str.ofString "total") = some (.int f t) ∧ 0 ≤ f ∧ f.toNat = n ∧ f % 65535 = wsum ks ks.length % 65535 ∧ (0 < wsum ks ks.length → 0 < f) ∧ (wsum ks ks.length = 0 → f = 0)) F2 N' ⟨rfl, u, f, ?_, by omega, rfl, by rw [hf], by omega, by omega⟩ ?_
    · rfl
    · intro n m2 nw h3 tk3 F3 N3 hJ3
      obtain ⟨rfl, u3, f3, hm3, hf30, hf31, hf32, hf33, hf34⟩ := hJ3
      have F4 := fr_set (x := Str.ofString "total") F3 hm3
      clear F3
      k_extra "m my_walk"
      · exact WhileStep.intro (by k_asm) (by k_asm) (n' := (f3 % 65536 + f3 / 65536).toNat) (by omega) ⟨rfl, _, _, rfl, by omega, rfl, by omega, by omega, by omega⟩
      · exact hret _ _ _ _ ⟨⟨_, _, rfl, hf30, by omega, by omega, hf33, hf34⟩, rfl⟩ (by k_asm) (by k_extra "m my_news")
end

theorem rows_6 : True := by
  k_with "m call ref" => ((with_reducible show wpAny _ _ (call (Value.ref 77) [Value.int _ _]) _ _ _); (((k_extra "m my_fq"); k_dflt (refine' (Ctr.eB (c_put16 _ _ _ _ (by omega) (by omega))) ?z9k1 ?z9k2 ?z9k3 ?z9k4 ?z9k5 ?z9k6 ?z9k7 ?z9k8 ?_; (case z9k1 => k_asm); (case z9k2 => k_asm); (case z9k3 => k_asm); (case z9k4 => k_asm); (case z9k5 => k_asm); (case z9k6 => first | exact rfl | assumption); (case z9k7 => k_extra "m my_rm"); (case z9k8 => k_extra "m my_rm"))); k_whole); intro _ _ _ _ _ _ _; (try dsimp only))
  k_with "m call ref" => ((with_reducible show wpAny _ _ (call (Value.ref 84) [Value.int _ _]) _ _ _); (((k_extra "m my_fq"); k_dflt (refine' (Ctr.eB (c_put32 _ _ _ _ (by omega) (by omega))) ?z9k1 ?z9k2 ?z9k3 ?z9k4 ?z9k5 ?z9k6 ?z9k7 ?z9k8 ?_; (case z9k1 => k_asm); (case z9k2 => k_asm); (case z9k3 => k_asm); (case z9k4 => k_asm); (case z9k5 => k_asm); (case z9k6 => first | exact rfl | assumption); (case z9k7 => k_extra "m my_rm"); (case z9k8 => k_extra "m my_rm"))); k_whole); intro _ _ _ _ _ _ _; (try dsimp only))
  k_with "m call ref" => ((with_reducible show wpAny _ _ (call (Value.ref 307) [Value.int _ _]) _ _ _); (((k_extra "m my_fq"); k_dflt (refine' (Ctr.eB (c_two _ _ _ _ (by omega) (by omega))) ?z9k1 ?z9k2 ?z9k3 ?z9k4 ?z9k5 ?z9k6 ?z9k7 ?z9k8 ?_; (case z9k1 => k_asm); (case z9k2 => k_asm); (case z9k3 => k_asm); (case z9k4 => k_asm); (case z9k5 => k_asm); (case z9k6 => first | exact rfl | assumption); (case z9k7 => k_extra "m my_rm"); (case z9k8 => k_extra "m my_rm"))); k_whole); intro _ _ _ _ _ _ _; (try dsimp only))
  k_with "m call ref" => ((with_reducible show wpAny _ _ (call (Value.ref 300) [Value.int _ _]) _ _ _); (((k_extra "m my_fq"); k_dflt (refine' (Ctr.eB (c_four _ _ _ _ (by omega) (by omega))) ?z9k1 ?z9k2 ?z9k3 ?z9k4 ?z9k5 ?z9k6 ?z9k7 ?z9k8 ?_; (case z9k1 => k_asm); (case z9k2 => k_asm); (case z9k3 => k_asm); (case z9k4 => k_asm); (case z9k5 => k_asm); (case z9k6 => first | exact rfl | assumption); (case z9k7 => k_extra "m my_rm"); (case z9k8 => k_extra "m my_rm"))); k_whole); intro _ _ _ _ _ _ _; (try dsimp only))
  k_with "m call ref" => ((with_reducible show wpAny _ _ (call (Value.ref 91) [Value.bytes _ _, Value.int _ _]) _ _ _); (((k_extra "m my_fq"); k_dflt (refine' (Ctr.eI (c_get16 _ _ _ _ _ _ _ (by k_extra "m my_ints") (by k_extra "m my_len") (by omega) (by k_extra "m my_len"))) ?z9k1 ?z9k2 ?z9k3 ?z9k4 ?z9k5 ?z9k6 ?z9k7 ?z9k8 ?_; (case z9k1 => k_asm); (case z9k2 => k_asm); (case z9k3 => k_asm); (case z9k4 => k_asm); (case z9k5 => k_asm); (case z9k6 => first | exact rfl | assumption); (case z9k7 => k_extra "m my_rm"); (case z9k8 => k_extra "m my_rm"))); k_whole); intro _ _ _ _ _; (try dsimp only))
  k_with "m call ref" => ((with_reducible show wpAny _ _ (call (Value.ref 98) [Value.bytes _ _, Value.int _ _]) _ _ _); (((k_extra "m my_fq"); k_dflt (refine' (Ctr.eI (c_get32 _ _ _ _ _ _ _ (by k_extra "m my_ints") (by k_extra "m my_len") (by omega) (by k_extra "m my_len"))) ?z9k1 ?z9k2 ?z9k3 ?z9k4 ?z9k5 ?z9k6 ?z9k7 ?z9k8 ?_; (case z9k1 => k_asm); (case z9k2 => k_asm); (case z9k3 => k_asm); (case z9k4 => k_asm); (case z9k5 => k_asm); (case z9k6 => first | exact rfl | assumption); (case z9k7 => k_extra "m my_rm"); (case z9k8 => k_extra "m my_rm"))); k_whole); intro _ _ _ _ _; (try dsimp only))
  k_with "m call ref" => ((with_reducible show wpAny _ _ (call (Value.ref 265) [Value.int _ _]) _ _ _); (((k_extra "m my_fq"); k_dflt (refine' (Ctr.eI (c_mac _ _ _ _)) ?z9k1 ?z9k2 ?z9k3 ?z9k4 ?z9k5 ?z9k6 ?z9k7 ?z9k8 ?_; (case z9k1 => k_asm); (case z9k2 => k_asm); (case z9k3 => k_asm); (case z9k4 => k_asm); (case z9k5 => k_asm); (case z9k6 => first | exact rfl | assumption); (case z9k7 => k_extra "m my_rm"); (case z9k8 => k_extra "m my_rm"))); k_whole); intro _ _ _ _ _; (try dsimp only))
  k_with "m call ref" => ((with_reducible show wpAny _ _ (call (Value.ref 272) [Value.int _ _]) _ _ _); (((k_extra "m my_fq"); k_dflt (refine' (Ctr.eV (c_kept _ _ _ _)) ?z9k1 ?z9k2 ?z9k3 ?z9k4 ?z9k5 ?z9k6 ?z9k7 ?z9k8 ?_; (case z9k1 => k_asm); (case z9k2 => k_asm); (case z9k3 => k_asm); (case z9k4 => k_asm); (case z9k5 => k_asm); (case z9k6 => first | exact rfl | assumption); (case z9k7 => k_extra "m my_rm"); (case z9k8 => k_extra "m my_rm"))); k_whole); intro _ _ _ _; (try dsimp only))
  k_with "m call ref" => ((with_reducible show wpAny _ _ (call (Value.ref 120) [Value.int _ _]) _ _ _); (((k_extra "m my_fq"); k_dflt (refine' (Ctr.eI (c_time _ _ _ _ (by omega) (by omega))) ?z9k1 ?z9k2 ?z9k3 ?z9k4 ?z9k5 ?z9k6 ?z9k7 ?z9k8 ?_; (case z9k1 => k_asm); (case z9k2 => k_asm); (case z9k3 => k_asm); (case z9k4 => k_asm); (case z9k5 => k_asm); (case z9k6 => first | exact rfl | assumption); (case z9k7 => k_extra "m my_rm"); (case z9k8 => k_extra "m my_rm"))); k_whole); intro _ _ _ _ _; (try dsimp only))
  k_with "m call ref" => ((with_reducible show wpAny _ _ (call (Value.ref 319) [Value.ref _]) _ _ _); ((k_extra "m my_fq"); k_dflt (refine' (Ctr.useU (Ctr.upd (P := IntP 3758096384 4026531840) (fun r hr _ => c_group _ _ r _ hr ?z9q3) ?z9q6)) ?z9k1 ?z9k2 ?z9k3 ?z9k4 ?z9k5 ?z9k6 ?z9k7 ?z9k8 ?_; (case z9k1 => k_asm); (case z9k2 => k_asm); (case z9k3 => k_asm); (case z9k4 => k_asm); (case z9k5 => k_asm); (case z9k6 => first | exact rfl | assumption); (case z9k7 => k_extra "m my_rm"); (case z9k8 => k_extra "m my_rm"))); (case z9q6 => k_updF); (case z9q3 => assumption); k_whole; intro _ _ _ _ _ _ _ _ _ N8; (revert N8; (try dsimp only); intro _))
  k_with "m call ref" => ((with_reducible show wpAny _ _ (call (Value.ref 326) [Value.ref _]) _ _ _); ((k_extra "m my_fq"); k_dflt (refine' (Ctr.useU (Ctr.upd (P := IntP 0 4294967296) (fun r hr _ => c_address _ _ r _ hr ?z9q3) ?z9q6)) ?z9k1 ?z9k2 ?z9k3 ?z9k4 ?z9k5 ?z9k6 ?z9k7 ?z9k8 ?_; (case z9k1 => k_asm); (case z9k2 => k_asm); (case z9k3 => k_asm); (case z9k4 => k_asm); (case z9k5 => k_asm); (case z9k6 => first | exact rfl | assumption); (case z9k7 => k_extra "m my_rm"); (case z9k8 => k_extra "m my_rm"))); (case z9q6 => k_updF); (case z9q3 => assumption); k_whole; intro _ _ _ _ _ _ _ _ _ N8; (revert N8; (try dsimp only); intro _))
  k_with "m call ref" => ((with_reducible show wpAny _ _ (call (Value.ref 106) [Value.bytes _ _]) _ _ _); ((((k_extra "m my_fq"); k_dflt (refine' (Ctr.use (c_words _ _ _ _ _ (by k_extra "m my_ints") (by k_extra "m my_len"))) ?z9k1 ?z9k2 ?z9k3 ?z9k4 ?z9k5 ?z9k6 ?z9k7 ?z9k8 ?_; (case z9k1 => k_asm); (case z9k2 => k_asm); (case z9k3 => k_asm); (case z9k4 => k_asm); (case z9k5 => k_asm); (case z9k6 => first | exact rfl | assumption); (case z9k7 => k_extra "m my_rm"); (case z9k8 => k_extra "m my_rm"))); k_whole)); intro _ _ _ _ hP8 _ _; obtain ⟨⟨_, _, e8, hr8⟩, e9⟩ := hP8; subst e8; subst e9; (have hr80 := hr8.1); (have hr81 := hr8.2.1); (have hr82 := hr8.2.2.1); (have hr83 := hr8.2.2.2.1); (revert hr8 hr80 hr81 hr82 hr83; intro _ _ _ _ _); (try dsimp only))
  trivial

section
def chk (S : Int) : Int := if 0 < S then (65535 - S % 65535) % 65535 else 65535
def summed (ks : List Int) (p : Int) : List Int := ks.take p.toNat ++ [chk (wsum ks ks.length) / 256, chk (wsum ks ks.length) % 256] ++ ks.drop (p + 2).toNat
theorem chk_of {S r : Int} (h0 : 0 ≤ S) (h : Summed S r) : 65535 - r = chk S := by
  obtain ⟨h1, h2, h3, h4, h5⟩ := h
  unfold chk
  split <;> omega
theorem chk_in {S : Int} (h0 : 0 ≤ S) : 0 ≤ chk S ∧ chk S < 65536 := by
  unfold chk
  split <;> omega
set_option maxHeartbeats 2000000 in
theorem c_withsum (w : World) (b : Array UInt8) (tb : Tok) (ks : List Int) (p : Int) (tp : Tok) (led : List (Addr × Obj)) (hb : KBw.bInts b = ks) (hlen : ks.length ≤ 70000) (_h0 : 0 ≤ p) (h1 : p + 2 ≤ ks.length) :
    Ctr w 14 100 (.ref 113) [.bytes b tb, .int p tp] led (fun v l => IsBy v (summed ks p) ∧ led = l) := by
  refine' Ctr.body (binds := [(Str.ofString "octets", Value.bytes b tb), (Str.ofString "place", Value.int p tp)]) ?z8o ?z8c ?z8b ?z8l ?z8k ?_
  case z8o => k_is
  case z8c => k_is
  case z8b => exact fun _ => BindsTo.of_eq (by kernel_rfl)
  case z8l => kernel_rfl
  case z8k => kernel_rfl
  intro mean mg mb dp un gd outer A₀ base g1 L1 hp1 gsq drq tkq osq Q E B1 F1 X1 N1 T1 hdp hun hret hE9
  intro _ _ _
  k_extra "m my_walk"
  refine hret _ led _ _ ⟨⟨_, _, rfl, ?_⟩, rfl⟩ (by k_asm) (by k_extra "m my_news")
  have hS : 0 ≤ wsum ks ks.length := (wsum_bound (fun k hk => KBw.ints_in (hb ▸ hk)) _).1
  rw [chk_of hS (by assumption)] at *
  assumption
theorem timeOf_inj : ∀ i j : Nat, i < 256 → j < 256 → timeOf i = timeOf j → i = j := by
  have step : ∀ i : Nat, i < 255 → timeOf i < timeOf (i + 1 : Nat) := by decide +kernel
  have mono : ∀ k i : Nat, i + k < 255 → timeOf i < timeOf (i + k + 1 : Nat) := by
    intro k
    induction k with
    | zero => intro i h; exact step i h
    | succ k ih => intro i h; exact Int.lt_trans (ih i (by omega)) (step (i + k + 1) h)
  intro i j hi hj e
  rcases Nat.lt_trichotomy i j with h | h | h
  · have := mono (j - i - 1) i (by omega)
    rw [show i + (j - i - 1) + 1 = j by omega] at this
    omega
  · exact h
  · have := mono (i - j - 1) j (by omega)
    rw [show j + (i - j - 1) + 1 = i by omega] at this
    omega
set_option maxHeartbeats 2000000 in
theorem c_code (w : World) (x c : Int) (tx : Tok) (led : List (Addr × Obj)) (h0 : 0 ≤ c) (h1 : c < 256) (hx : timeOf c = x) :
    Ctr w 14 100 (.ref 127) [.int x tx] led (fun v l => (∃ t, v = .int c t) ∧ led = l) := by
  refine' Ctr.body (binds := [(Str.ofString "time", Value.int x tx)]) ?z8o ?z8c ?z8b ?z8l ?z8k ?_
  case z8o => k_is
  case z8c => k_is
  case z8b => exact fun _ => BindsTo.of_eq (by kernel_rfl)
  case z8l => kernel_rfl
  case z8k => kernel_rfl
  intro mean mg mb dp un gd outer A₀ base g1 L1 hp1 gsq drq tkq osq Q E B1 F1 X1 N1 T1 hdp hun hret hE9
  intro _ _ _
  k_extra "m my_walk"
  k_extra "m my_for"
  k_extra "m my_walk"
  k_dflt (refine for_range (n := 256) (news := led) (fun j m1 news => led = news ∧ (j : Int) ≤ c ∧ m1 (Str.ofString "time") = some (.int x tx)) (by rfl) (by k_asm) (by k_extra "m my_news") (by assumption) (by decide) (by decide) ⟨rfl, h0, rfl⟩ ?_ ?_)
  · intro I j t m1 news h tk oI hk hJ off F' N'
    (try dsimp only)
    k_extra "m my_fq"
    obtain ⟨rfl, hjc, hm⟩ := hJ
    have F2 := fr_set (x := Str.ofString "time") F' hm
    clear F'
    k_extra "m my_fold"
    k_extra "m my_walk"
    · have hj : (j : Int) = c := by
        have := timeOf_inj j c.toNat hk (by omega) (by rw [Int.toNat_of_nonneg h0, hx]; rename timeOf _ = _ => hq; rw [show (0 + (j : Int) * 1) = j by omega] at hq; first | exact hq | simpa using hq)
        omega
      (try dsimp only)
      (try (k_unfold; (try dsimp only)))
      (try (with_reducible_and_instances unfold MyTurnPost))
      (try dsimp only)
      k_extra "m my_walk"
      exact hret _ led _ _ ⟨⟨_, congrArg (Value.int · _) (show 0 + (j : Int) * 1 = c by omega)⟩, rfl⟩ (by k_asm) (by k_extra "m my_news")
    · have hj : (j : Int) ≠ c := by
        rintro rfl
        rename ¬ (_ = _) => hq
        rw [show (0 + (j : Int) * 1) = j by omega] at hq
        revert hq
        simp [hx]
      exact turn_next (by k_asm) (by k_asm) (fun _ h => h) off ⟨rfl, by omega, rfl⟩
  · intro m1 news h tk hJ F' N'
    obtain ⟨rfl, hjc, hm⟩ := hJ
    omega
end

section
def MyRaisable (K : Frag) (C : Addr) (E : Value → Shared → Prop) (v : Value) (s₁ : Shared) : Prop :=
  ∃ e oe a0, v = .ref e ∧ K.In s₁.heap ∧ s₁.heap.get? e = some oe ∧ oe.cls = .ref C ∧ oe.data = excData a0 ∧ E (.ref e) s₁
theorem my_Raise0 {K : Frag} {prog : Program} {w : World} {A : Around} {env : Env} {E : Value → Shared → Prop} {s : Shared} {e : Expr} {pos : Pos} {Q : Flow → Shared → Prop}
    {nm q : Str} {C N : Addr} {bs bm : List Value} {hdct : Bool} {sn : List Str} {sub : List Value} {ab : Bool} {col : Option Bool} {dd : Option Addr} {k0 k1 k2 k3 k5 : Option Value} {newId : String}
    (hK : K.lookup C = some (excClassObj nm q C N bs bm hdct sn sub ab col dd k0 k1 k2 k3 k5 newId)) (hcB : (Value.ref C :: bm).contains (.type "BaseException") = true) (hh : A.handled = none)
    (h : wpAny (model prog w) A (eval e env) (MyRaisable K C E) E s) : wpAny (model prog w) A (exec (.Raise (some e) none pos) env) Q E s := by
  show wpAny (model prog w) A (do standAt pos; raiseStmt env (some (do let v ← eval e env; standAt pos; pure v)) none) Q E s
  refine wpAny_bind (wpAny_standAt ?_)
  refine my_raiseStmt (nm := nm) (q := q) (C := C) (N := N) (bs := bs) (bm := bm) (hdct := hdct) (sn := sn) (sub := sub) (ab := ab) (col := col) (dd := dd) (k0 := k0) (k1 := k1) (k2 := k2) (k3 := k3) (k5 := k5) (newId := newId) hcB hh ?_
  refine wpAny_bind (wpAny_mono h (fun v s₁ h₁ => wpAny_bind (wpAny_standAt (wpAny_pure ?_))) fun _ _ x => x)
  obtain ⟨x, oe, a0, rfl, hX, he, hcls, hdat, hE⟩ := h₁
  exact ⟨x, oe, rfl, hX _ _ hK, he, hcls, ⟨a0, hdat⟩, hE⟩
theorem my_Raise1 {w : World} {A : Around} {env : Env} {E : Value → Shared → Prop} {s : Shared} {e : Expr} {pos : Pos} {Q : Flow → Shared → Prop} (hh : A.handled = none)
    (h : wpAny (model pw w) A (eval e env) (MyRaisable (kay.heap_1 w.params) 44 E) E s) : wpAny (model pw w) A (exec (.Raise (some e) none pos) env) Q E s := by
  refine' my_Raise0 ?hK ?hcB hh h
  case hK => k_is
  case hcB => decide +kernel
end

theorem rows_7 : True := by
  k_with "m call builtin:sum" => (k_here; k_dflt (refine' sum_ints ?z9kF ?z9kN ?z9kh ?z9kl ?z9ki ?_; (case z9kF => k_asm); (case z9kN => k_asm); (case z9kh => rfl); (case z9kl => exact News.isList (by k_asm) (by k_mem)); (case z9ki => assumption)); intro _ _ _ _ _)
  trivial

section
theorem wsum_list (ks : List Int) : ∀ n : Nat, ((List.range n).map (fun k => ks.getD k 0 * wt k)).sum = wsum ks n
  | 0 => rfl
  | n + 1 => by rw [List.range_succ, List.map_append, List.sum_append, wsum_list ks n]; simp [wsum]
set_option maxHeartbeats 2000000 in
theorem c_summed (w : World) (b : Array UInt8) (tb : Tok) (ks : List Int) (p : Int) (tp : Tok) (led : List (Addr × Obj)) (hb : KBw.bInts b = ks) (hlen : ks.length ≤ 70000) (h0 : 0 ≤ p) (h1 : p + 2 ≤ ks.length) :
    Ctr w 14 100 (.ref 312) [.bytes b tb, .int p tp] led (fun v l => IsBy v (summed ks p) ∧ led = l) := by
  have hin : ∀ k ∈ ks, 0 ≤ k ∧ k < 256 := fun k hk => KBw.ints_in (hb ▸ hk)
  have hS := wsum_bound hin ks.length
  refine' Ctr.bodyC (binds := [(Str.ofString "octets", Value.bytes b tb), (Str.ofString "place", Value.int p tp)]) ?z8o ?z8c ?z8b ?z8l ?z8k ?_
  case z8o => k_is
  case z8c => k_is
  case z8b => exact fun _ => BindsTo.of_eq (by kernel_rfl)
  case z8l => kernel_rfl
  case z8k => kernel_rfl
  intro mean mg mb dp un gd outer A₀ base g1 L1 hp1 gsq drq tkq osq Q E cells1 B1 F1 X1 N1 Y1 l1 T1 hdp hun hret hE9
  intro _ _ _
  obtain ⟨o1, rfl, d1⟩ := CellsAre.one Y1
  k_extra "m my_walk"
  k_dflt (refine comp_gen (by k_asm) (by rfl) (by decide) (by rfl) (by decide) (by rfl) ?_ (fun _ => rfl))
  k_extra "m my_walk"
  k_dflt (refine comp_range (n := ks.length) (news := (L1 + 1, o1) :: led) (fun i ys news => news = (L1 + 1, o1) :: led ∧ IntsAre ys ((List.range i).map (fun k => ks.getD k 0 * wt k))) (by rfl) (by k_asm) (by k_extra "m my_news") (by assumption) ?_ ?_ ?_ ⟨rfl, .nil⟩ ?_ ?_)
  · exact small_one (by omega) (by omega) (by omega) (by omega)
  · rw [rangeSize_one]; split <;> omega
  · rw [sizeLine_eq]; omega
  · intro g i ys news₁ v I oI C oC D m₂ h tk E' hi hl hJ hP hC hx F' N' off ne
    (try dsimp only)
    k_extra "m my_fq"
    obtain ⟨t, rfl⟩ := hP
    obtain ⟨rfl, hys⟩ := hJ
    k_extra "m my_fold"
    k_extra "m my_walk"
    all_goals
      refine CompEnd.intro F' N' _ (fun _ h => h) off trivial ⟨rfl, ?_⟩
      have ei : (0 + (i : Int) * 1).toNat = i := by omega
      rw [List.range_succ, List.map_append, ei]
      rename_i hpar _ _
      first
        | (have hw : wt i = 256 := if_pos (by omega)
           rw [← hw]; exact hys.append (.cons _ _ .nil))
        | (have hw : wt i = 1 := if_neg (by omega)
           rw [← hw]; exact hys.append (.cons _ _ .nil))
  · intro ys news' hl hJ
    obtain ⟨rfl, hys⟩ := hJ
    intro D h tk F' N' off
    dsimp only
    k_extra "m my_walk"
    · refine hret _ led _ _ ⟨⟨_, _, rfl, ?_⟩, rfl⟩ (by k_asm) (by k_extra "m my_news")
      have hc : chk (wsum ks ks.length) = (65535 - wsum ks ks.length % 65535) % 65535 := if_pos (by rw [← wsum_list]; assumption)
      rw [wsum_list] at *
      rw [summed, hc]
      assumption
    · refine hret _ led _ _ ⟨⟨_, _, rfl, ?_⟩, rfl⟩ (by k_asm) (by k_extra "m my_news")
      have hc : chk (wsum ks ks.length) = 65535 := if_neg (by rw [← wsum_list]; assumption)
      rw [summed, hc]
      assumption
end

theorem rows_8 : True := by
  k_with "m subscriptTail" => (k_here; (with_reducible show wpAny _ _ (subscriptTail _ (Expr.Slice _ _ none _) (Value.bytes _ _) (Value.ref _)) _ _ _); (k_extra "m my_fq"); (k_dflt (first
  | ((with_reducible refine' my_slice_ij (s := ⟨_, _, _, _, _⟩) ?z9kF ?z9kN ?z9ka ?z9kb ?z9kc ?z9kd ?z9ke ?_ ?z9hs ?z9ht); (case z9hs => with_unfolding_all rfl); (case z9ht => (intro _; with_unfolding_all rfl)); (case z9kF => k_asm); (case z9kN => k_asm); (case z9ka => k_extra "m my_ints"); (case z9kb => omega); (case z9kc => omega); (case z9kd => k_extra "m my_len"); (case z9ke => k_extra "m my_len"))
  | ((with_reducible refine' my_slice_j (s := ⟨_, _, _, _, _⟩) ?z9kF ?z9kN ?z9ka ?z9kb ?z9kd ?z9ke ?_ ?z9hs ?z9ht); (case z9hs => with_unfolding_all rfl); (case z9ht => (intro _; with_unfolding_all rfl)); (case z9kF => k_asm); (case z9kN => k_asm); (case z9ka => k_extra "m my_ints"); (case z9kb => omega); (case z9kd => k_extra "m my_len"); (case z9ke => k_extra "m my_len"))
  | ((with_reducible refine' my_slice_neg (s := ⟨_, _, _, _, _⟩) ?z9kF ?z9kN ?z9ka ?z9ke ?_ ?z9hs ?z9ht); (case z9hs => with_unfolding_all rfl); (case z9ht => (intro _; with_unfolding_all rfl)); (case z9kF => k_asm); (case z9kN => k_asm); (case z9ka => k_extra "m my_ints"); (case z9ke => k_extra "m my_len"))
  | ((with_reducible refine' my_slice_i (s := ⟨_, _, _, _, _⟩) ?z9kF ?z9kN ?z9ka ?z9kb ?z9kd ?z9ke ?_ ?z9hs ?z9ht); (case z9hs => with_unfolding_all rfl); (case z9ht => (intro _; with_unfolding_all rfl)); (case z9kF => k_asm); (case z9kN => k_asm); (case z9ka => k_extra "m my_ints"); (case z9kb => omega); (case z9kd => k_extra "m my_len"); (case z9ke => k_extra "m my_len")))); intro _ _ _ _ _ _ _)
  k_with "m subscriptTail" => (k_here; (with_reducible show wpAny _ _ (subscriptTail _ _ (Value.bytes _ _) (Value.int _ _)) _ _ _); (k_extra "m my_fq"); k_dflt ((with_reducible refine' itemBE ?z9ka ?z9kb ?z9kc ?z9kd ?_ ?z9hs ?z9ht); (case z9hs => with_unfolding_all rfl); (case z9ht => (intro _; with_unfolding_all rfl)); (case z9ka => k_extra "m my_ints"); (case z9kb => k_extra "m my_len"); (case z9kc => omega); (case z9kd => k_extra "m my_len")); intro _ _ _ _)
  k_with "m subscriptTail" => (k_here; k_dflt (refine' my_item_scr ?z9kH ?z9kF ?z9ki ?z9k0 ?z9k1 ?z9kf ?_; (case z9kH => assumption); (case z9kF => k_asm); (case z9ki => assumption); (case z9k0 => omega); (case z9k1 => k_extra "m my_dec"); (case z9kf => omega)); intro _ _)
  k_with "m call builtin:len" => (k_here; (with_reducible show wpAny _ _ (call (Value.builtin "len") [Value.ref _]) _ _ _); (k_extra "m my_fq"); k_dflt ((with_reducible refine' lenLE ?z9kN ?z9km ?z9ke ?z9kf ?_); (case z9kN => k_asm); (case z9km => first | k_mem | (k_memK; done) | exact List.Mem.tail _ (by assumption)); (case z9ke => eq_refl); (case z9kf => first | omega | k_extra "m my_len")); intro _ _)
  k_with "m call builtin:len" => (k_here; (with_reducible show wpAny _ _ (call (Value.builtin "len") [Value.bytes _ _]) _ _ _); k_dflt ((with_reducible refine' lenB ?z9kN ?z9ke ?z9kf ?_); (case z9kN => k_extra "m my_ints"); (case z9ke => eq_refl); (case z9kf => k_extra "m my_len")))
  k_with "m call builtin:len" => (k_here; k_dflt (refine' my_len_scr ?z9kH ?z9kF ?z9kf ?_; (case z9kH => assumption); (case z9kF => k_asm); (case z9kf => omega)); intro _ _)
  trivial

section
def turned (ks : List Int) (k d : Int) : List Int := ks.take k.toNat ++ [(nth ks k + 1 + d) % 256] ++ ks.drop (k + 1).toNat
def TurnP (ks : List Int) (v : Value) (o : Obj) : Prop := (∃ k d, IsBy v (turned ks k d) ∧ 0 ≤ k ∧ k < ks.length ∧ 0 ≤ d ∧ d < 254) ∧ SrcObj o
set_option maxHeartbeats 2000000 in
theorem c_turned (w : World) (src : Addr) (b : Array UInt8) (tb : Tok) (ks : List Int) (rest : List (Addr × Obj)) (o : Obj) (hsep : ∀ p ∈ rest, p.1 ≠ src) (hb : KBw.bInts b = ks) (hlen : ks.length ≤ 70000) (h1 : 0 < ks.length) (ho : SrcObj o) :
    Ctr w 14 100 (.ref 350) [.ref src, .bytes b tb] ((src, o) :: rest) (fun v l => ∃ o', TurnP ks v o' ∧ (src, o') :: rest = l) := by
  refine Ctr.open ?_
  intro mean mg mb dp un gd cn cs a ccd cl outer A₀ base h₀ L m hpq gsq drq tkq osq Q E B F X N T hk hdp hun hret
  (
  refine wpAny_call ?_
  k_dflt (refine' code_def (binds := [(Str.ofString "source", Value.ref src), (Str.ofString "octets", Value.bytes b tb)]) ?z9k1 ?z9k2 ?z9k3 ?z9k4 ?z9k5 ?z9kA ?z9kF ?z9kK ?z9k6 ?z9k7 ?z9k8 ?z9k9 ?z9kB ?_ ?z9c2 ?z9c3 ?z9c4 ?z9c5; (case z9kA => eq_refl); (case z9kF => eq_refl); (case z9kK => assumption); (case z9k1 => k_asm); (case z9k2 => k_asm); (case z9k3 => k_asm); (case z9k4 => k_asm); (case z9k5 => k_asm); (case z9k6 => k_is); (case z9k7 => k_is); (case z9k8 => ktr_room); (case z9k9 => exact BindsTo.of_eq (by kernel_rfl)); (case z9c5 => decide); (case z9kB => exact locs rfl); (case z9c2 => eq_refl); (case z9c3 => eq_refl); (case z9c4 => eq_refl); k_whole))
  intro g1 L1 hp1 FG F1 N1 B1 X1 T1
  k_extra "m my_ent"
  k_extra "m my_walk"
  have hfin : ∀ b' : Array UInt8, ∀ k d : Int, KBw.bInts b' = ks.take k.toNat ++ [(ks.getD k.toNat 0 + 1 + d) % 256] ++ ks.drop (k + 1).toNat → ∀ t, 0 ≤ k → k < ks.length → 0 ≤ d → d < 254 → ∀ o', SrcObj o' → TurnP ks (.bytes b' t) o' :=
    fun b' k d e t a1 a2 a3 a4 o' a5 => ⟨⟨k, d, ⟨b', t, rfl, e⟩, a1, a2, a3, a4⟩, a5⟩
  exact hret _ _ _ _ ⟨_, hfin _ _ _ (by assumption) _ (by assumption) (by assumption) (by assumption) (by assumption) _ (by assumption), rfl⟩ (by k_asm) (by k_extra "m my_news")
def CtrS (w : World) (D U : Nat) (f : Value) (args : List Value) (H : Heap → Prop) (led : List (Addr × Obj)) (P : Value → List (Addr × Obj) → Prop) : Prop :=
  ∀ (mean : ExcName → Option Value) (mg mb : Str → Option Value) (dp un : Nat) (gd : Option (List Code)) (cn : Str) (cs : Scope) (a : Addr) (ccd : Value) (cl : List (Str × Addr)) (outer : List Env) (A₀ : Around) (base h₀ : Heap) (L : Addr) (m : Str → Option Value) (s : Shared) (Q E : Value → Shared → Prop),
    H h₀ → Below A₀ base outer h₀ → Fr h₀ L s.heap m → (kay.heap_1 w.params).In h₀ → News h₀ L s.heap led → Top topProg lo mean mg mb h₀ → cs.kind = .function → dp + D < recursionLimit → un + U < cLine →
    (∀ (v : Value) (led' : List (Addr × Obj)) (h' : Heap) (tk' : Nat), P v led' → Fr h₀ L h' m → News h₀ L h' led' → Q v { s with heap := h', toks := tk' }) →
    wpAny (model pw w) (ktrTop dp un gd cn cs L a ccd cl outer) (call f args) Q E s
section
variable {prog : Program} {w : World} {A : Around} {E : Value → Shared → Prop} {s : Shared} {value slice : PySem.Expr} {l L : Addr} {g : Heap} {m : Str → Option Value} {vs : List Value} {ns : List Int} {k : Int} {u : Tok} {Q : Value → Shared → Prop}
theorem scr_at (HG : g.IsList l vs.toArray) (F : Fr g L s.heap m) : s.heap.IsList l vs.toArray := by obtain ⟨o, a, b, c⟩ := HG; exact ⟨o, F.keep _ _ a, b, c⟩
theorem my_len_scr (HG : g.IsList l vs.toArray) (F : Fr g L s.heap m) (hfit : vs.length < 2 ^ 62) (h : ∀ t k, Q (.int ((vs.length : Nat) : Int) t) { s with toks := k }) :
    wpAny (model prog w) A (call (.builtin "len") [.ref l]) Q E s := by
  have e' : vs.toArray.size = vs.length := by simp
  refine PyProof.Rows.len_list (scr_at HG F) (by rw [e']; omega) ?_
  rw [e']; exact h _ _
end
set_option maxHeartbeats 2000000 in
theorem c_pool (w : World) (scr : Addr) (vs : List Value) (ns : List Int) (k : Int) (tk0 : Tok) (led : List (Addr × Obj)) (hi : IntsAre vs ns) (h0 : 0 ≤ k) (h1 : k < 2) (hlen : vs.length ≤ 63) :
    CtrS w 14 100 (.ref 279) [.ref scr, .int k tk0] (fun h => h.IsList scr vs.toArray) led (fun v l => ∃ src o, v = .ref src ∧ SrcObj o ∧ (∀ p ∈ led, p.1 < src) ∧ (src, o) :: led = l) := by
  intro mean mg mb dp un gd cn cs a ccd cl outer A₀ base h₀ L m s Q E HH B F X N T hk hdp hun hret
  (
  refine wpAny_call ?_
  k_dflt (refine' code_def (binds := [(Str.ofString "script", Value.ref scr), (Str.ofString "k", Value.int k tk0)]) ?z9k1 ?z9k2 ?z9k3 ?z9k4 ?z9k5 ?z9kA ?z9kF ?z9kK ?z9k6 ?z9k7 ?z9k8 ?z9k9 ?z9kB ?_ ?z9c2 ?z9c3 ?z9c4 ?z9c5; (case z9kA => eq_refl); (case z9kF => eq_refl); (case z9kK => assumption); (case z9k1 => k_asm); (case z9k2 => k_asm); (case z9k3 => k_asm); (case z9k4 => k_asm); (case z9k5 => k_asm); (case z9k6 => k_is); (case z9k7 => k_is); (case z9k8 => ktr_room); (case z9k9 => exact BindsTo.of_eq (by kernel_rfl)); (case z9c5 => decide); (case z9kB => exact locs rfl); (case z9c2 => eq_refl); (case z9c3 => eq_refl); (case z9c4 => eq_refl); k_whole))
  intro g1 L1 hp1 FG F1 N1 B1 X1 T1
  k_extra "m my_ent"
  have HH1 : g1.IsList scr vs.toArray := by obtain ⟨o, a, b, c⟩ := HH; exact ⟨o, FG.keep _ _ a, b, c⟩
  clear HH
  k_extra "m my_walk"
  all_goals
    refine hret _ _ _ _ ⟨_, _, rfl, ⟨_, _, _, _, _, rfl, ?_, ?_, ?_⟩, by assumption, rfl⟩ (by k_asm) (by k_asm)
    · refine Int.mul_nonneg ?_ ?_ <;> split <;> omega
    · exact Int.emod_nonneg _ (by omega)
    · exact Int.emod_lt_of_pos _ (by omega)
end

theorem rows_9 : True := by
  k_with "m subscriptTail" => (k_here; (with_reducible show wpAny _ _ (subscriptTail _ (Expr.Slice _ _ none _) (Value.bytes _ _) (Value.ref _)) _ _ _); (k_extra "m my_fq"); (k_dflt (first
  | ((with_reducible refine' my_slice_ij (s := ⟨_, _, _, _, _⟩) ?z9kF ?z9kN ?z9ka ?z9kb ?z9kc ?z9kd ?z9ke ?_ ?z9hs ?z9ht); (case z9hs => with_unfolding_all rfl); (case z9ht => (intro _; with_unfolding_all rfl)); (case z9kF => k_asm); (case z9kN => k_asm); (case z9ka => k_extra "m my_ints"); (case z9kb => omega); (case z9kc => omega); (case z9kd => k_extra "m my_len"); (case z9ke => k_extra "m my_len"))
  | ((with_reducible refine' my_slice_j (s := ⟨_, _, _, _, _⟩) ?z9kF ?z9kN ?z9ka ?z9kb ?z9kd ?z9ke ?_ ?z9hs ?z9ht); (case z9hs => with_unfolding_all rfl); (case z9ht => (intro _; with_unfolding_all rfl)); (case z9kF => k_asm); (case z9kN => k_asm); (case z9ka => k_extra "m my_ints"); (case z9kb => omega); (case z9kd => k_extra "m my_len"); (case z9ke => k_extra "m my_len"))
  | ((with_reducible refine' my_slice_neg (s := ⟨_, _, _, _, _⟩) ?z9kF ?z9kN ?z9ka ?z9ke ?_ ?z9hs ?z9ht); (case z9hs => with_unfolding_all rfl); (case z9ht => (intro _; with_unfolding_all rfl)); (case z9kF => k_asm); (case z9kN => k_asm); (case z9ka => k_extra "m my_ints"); (case z9ke => k_extra "m my_len"))
  | ((with_reducible refine' my_slice_i (s := ⟨_, _, _, _, _⟩) ?z9kF ?z9kN ?z9ka ?z9kb ?z9kd ?z9ke ?_ ?z9hs ?z9ht); (case z9hs => with_unfolding_all rfl); (case z9ht => (intro _; with_unfolding_all rfl)); (case z9kF => k_asm); (case z9kN => k_asm); (case z9ka => k_extra "m my_ints"); (case z9kb => omega); (case z9kd => k_extra "m my_len"); (case z9ke => k_extra "m my_len")))); intro _ _ _ _ _ _ _)
  k_with "m subscriptTail" => (k_here; (with_reducible show wpAny _ _ (subscriptTail _ _ (Value.bytes _ _) (Value.int _ _)) _ _ _); (k_extra "m my_fq"); k_dflt ((with_reducible refine' itemBE ?z9ka ?z9kb ?z9kc ?z9kd ?_ ?z9hs ?z9ht); (case z9hs => with_unfolding_all rfl); (case z9ht => (intro _; with_unfolding_all rfl)); (case z9ka => k_extra "m my_ints"); (case z9kb => k_extra "m my_len"); (case z9kc => omega); (case z9kd => k_extra "m my_len")); intro _ _ _ _)
  k_with "m call builtin:len" => (k_here; (with_reducible show wpAny _ _ (call (Value.builtin "len") [Value.ref _]) _ _ _); (k_extra "m my_fq"); k_dflt ((with_reducible refine' lenLE ?z9kN ?z9km ?z9ke ?z9kf ?_); (case z9kN => k_asm); (case z9km => first | k_mem | (k_memK; done) | exact List.Mem.tail _ (by assumption)); (case z9ke => eq_refl); (case z9kf => first | omega | k_extra "m my_len")); intro _ _)
  k_with "m call builtin:len" => (k_here; (with_reducible show wpAny _ _ (call (Value.builtin "len") [Value.bytes _ _]) _ _ _); k_dflt ((with_reducible refine' lenB ?z9kN ?z9ke ?z9kf ?_); (case z9kN => k_extra "m my_ints"); (case z9ke => eq_refl); (case z9kf => k_extra "m my_len")))
  k_with "m my_make" => (
  k_dflt (refine' call_cls ?z9k1 ?z9k2 ?z9k3 ?z9k4 ?z9k5 ?z9k6 ?_; (case z9k1 => k_asm); (case z9k2 => k_asm); (case z9k3 => k_asm); (case z9k4 => k_is); (case z9k5 => k_is); (case z9k6 => k_is); k_whole))
  k_with "m getMethod bytes" => (k_here; (with_reducible show wpAny _ _ (getMethod (Value.bytes _ _) (Str.ofString "join") _) _ _ _); (with_reducible refine bj_method ?_))
  k_with "m call builtin:bytes.join" => (k_here; (k_extra "m my_fq"); k_dflt ((with_reducible refine' joinE ?z9kN ?z9km ?z9kv ?z9kz ?_); (case z9kN => k_asm); (case z9km => k_mem); (case z9kv => assumption); (case z9kz => k_extra "m my_flat")); intro _ _ _ _)
  k_with "m my_room" => (first | ktr_room | ((try simp only [depth_mark, depth_under_make, depth_under_kw, depth_in1, depth_deeper, depth_caller]); omega))
  k_with "m call type:tuple" => (k_here; (with_reducible show wpAny _ _ (call (Value.type _) [Value.ref _]) _ _ _); k_dflt (first
  | (refine' my_tuple_in ?z9k1 ?z9k0 ?z9k2 ?z9k3 ?_; (case z9k1 => k_asm); (case z9k0 => k_asm); (case z9k2 => k_asm); (case z9k3 => k_extra "m my_tupin"); k_whole)
  | (refine' my_tuple_same ?z9k2 ?z9k3 ?_; (case z9k2 => k_asm); (case z9k3 => first | assumption | k_mem); k_whole)
  | (refine' my_tuple ?z9k1 ?z9k2 ?z9k3 ?z9k4 ?_; (case z9k1 => k_asm); (case z9k2 => k_asm); (case z9k3 => k_extra "m my_inled"); (case z9k4 => omega); k_whole; intro _ _ _ _ l1; (try k_lt l1); revert l1; intro _)))
  k_with "m my_tupin" => (first | exact ⟨0, .inr (by k_is)⟩ | (with_reducible refine TupIn.mono (by assumption) ?_; k_extra "m my_sub2"))
  k_with "m my_sub2" => (first | exact fun _ h => h | exact fun _ h => List.mem_cons_of_mem _ h | exact fun _ h => List.mem_cons_of_mem _ (List.mem_cons_of_mem _ h) | exact fun _ h => List.mem_cons_of_mem _ (List.mem_cons_of_mem _ (List.mem_cons_of_mem _ h)) | exact fun _ h => List.mem_cons_of_mem _ (List.mem_cons_of_mem _ (List.mem_cons_of_mem _ (List.mem_cons_of_mem _ h))) | exact fun _ h => List.mem_cons_of_mem _ (List.mem_cons_of_mem _ (List.mem_cons_of_mem _ (List.mem_cons_of_mem _ (List.mem_cons_of_mem _ h)))) | exact fun _ h => List.mem_cons_of_mem _ (List.mem_cons_of_mem _ (List.mem_cons_of_mem _ (List.mem_cons_of_mem _ (List.mem_cons_of_mem _ (List.mem_cons_of_mem _ h))))) | (intro _ hp; exact List.mem_append_right _ hp))
  k_with "m my_inled" => (first | assumption | exact List.Mem.tail _ (by assumption) | exact List.Mem.tail _ (List.Mem.tail _ (by assumption)) | exact List.Mem.tail _ (List.Mem.tail _ (List.Mem.tail _ (by assumption))) | exact List.Mem.tail _ (List.Mem.tail _ (List.Mem.tail _ (List.Mem.tail _ (by assumption)))) | k_mem)
  trivial

section
abbrev kEn (w : World) (name : Str) (u : Tok) (v : Value) : DictEntry := ⟨PyData.keyHash w.params name, .str name u, v⟩
inductive IsRec (w : World) (l : List (Addr × Obj)) (x : Addr) (k g : Int) (ns : List Int) : Prop
  | mk (d T : Addr) (vs : List Value) (u1 u2 u3 t1 t2 : Tok) : (x, instObj 153 d) ∈ l →
      (d, dictOf [kEn w (Str.ofString "kind") u1 (.int k t1), kEn w (Str.ofString "group") u2 (.int g t2), kEn w (Str.ofString "sources") u3 (.ref T)] 3) ∈ l → TupIn w l T vs → IntsAre vs ns → IsRec w l x k g ns
theorem IsRec.mono {w : World} {l l' : List (Addr × Obj)} {x : Addr} {k g : Int} {ns : List Int} (h : IsRec w l x k g ns) (hs : ∀ p ∈ l, p ∈ l') : IsRec w l' x k g ns := by
  obtain ⟨d, T, vs, u1, u2, u3, t1, t2, a, b, c, e⟩ := h
  exact ⟨d, T, vs, u1, u2, u3, t1, t2, hs _ a, hs _ b, c.mono hs, e⟩
inductive RecsAre (w : World) (l : List (Addr × Obj)) : List Value → List (Int × Int × List Int) → Prop
  | nil : RecsAre w l [] []
  | cons {x : Addr} {k g : Int} {ns : List Int} {vs : List Value} {rs : List (Int × Int × List Int)} : IsRec w l x k g ns → RecsAre w l vs rs → RecsAre w l (.ref x :: vs) ((k, g, ns) :: rs)
theorem RecsAre.mono {w : World} {l l' : List (Addr × Obj)} {vs : List Value} {rs : List (Int × Int × List Int)} (h : RecsAre w l vs rs) (hs : ∀ p ∈ l, p ∈ l') : RecsAre w l' vs rs := by
  induction h with
  | nil => exact .nil
  | cons a _ ih => exact .cons (a.mono hs) ih
inductive IsMsg (w : World) (l : List (Addr × Obj)) (x : Addr) (kind : Str) (g wait : Int) (ns : List Int) (ver : Int) (rs : List (Int × Int × List Int)) : Prop
  | mk (d T R : Addr) (vs rv : List Value) (u1 u2 u3 u4 u5 u6 t1 t2 t3 t4 : Tok) : (x, instObj 182 d) ∈ l →
      (d, dictOf [kEn w (Str.ofString "kind") u1 (.str kind t1), kEn w (Str.ofString "group") u2 (.int g t2), kEn w (Str.ofString "wait") u3 (.int wait t3), kEn w (Str.ofString "sources") u4 (.ref T), kEn w (Str.ofString "version") u5 (.int ver t4), kEn w (Str.ofString "records") u6 (.ref R)] 6) ∈ l →
      TupIn w l T vs → IntsAre vs ns → TupIn w l R rv → RecsAre w l rv rs → IsMsg w l x kind g wait ns ver rs
theorem IsMsg.mono {w : World} {l l' : List (Addr × Obj)} {x : Addr} {kind : Str} {g wait : Int} {ns : List Int} {ver : Int} {rs : List (Int × Int × List Int)} (h : IsMsg w l x kind g wait ns ver rs) (hs : ∀ p ∈ l, p ∈ l') : IsMsg w l' x kind g wait ns ver rs := by
  obtain ⟨d, T, R, vs, rv, u1, u2, u3, u4, u5, u6, t1, t2, t3, t4, a, b, c, e, f, i⟩ := h
  exact ⟨d, T, R, vs, rv, u1, u2, u3, u4, u5, u6, t1, t2, t3, t4, hs _ a, hs _ b, c.mono hs, e, f.mono hs, i.mono hs⟩
/-- new objects in front of the old ledger -/
def Adds (led l : List (Addr × Obj)) : Prop := ∃ tl, (∀ q ∈ led, ∀ p ∈ tl, q.1 < p.1) ∧ tl ++ led = l
theorem Ctr.useA {w : World} {D U : Nat} {f : Value} {args : List Value} {led : List (Addr × Obj)} {R : Addr → List (Addr × Obj) → Prop}
    {mean : ExcName → Option Value} {mg mb : Str → Option Value} {dp un : Nat} {gd : Option (List Code)} {cn : Str} {cs : Scope} {a : Addr} {ccd : Value} {cl : List (Str × Addr)} {outer : List Env} {A₀ : Around} {base h₀ : Heap} {L : Addr} {m : Str → Option Value} {s : Shared} {Q E : Value → Shared → Prop}
    (C : Ctr w D U f args led (fun v l => ∃ x, v = .ref x ∧ Adds led l ∧ R x l)) (B : Below A₀ base outer h₀) (F : Fr h₀ L s.heap m) (X : (kay.heap_1 w.params).In h₀) (N : News h₀ L s.heap led) (T : Top topProg lo mean mg mb h₀) (hk : cs.kind = .function) (hdp : dp + D < recursionLimit) (hun : un + U < cLine)
    (h : ∀ (l : List (Addr × Obj)) (h' : Heap) (tk' : Nat), Fr h₀ L h' m → News h₀ L h' l → ∀ x, Adds led l → R x l → Q (.ref x) { s with heap := h', toks := tk' }) :
    wpAny (model pw w) (ktrTop dp un gd cn cs L a ccd cl outer) (call f args) Q E s :=
  C.use B F X N T hk hdp hun fun v l h' tk' hP F' N' => by
    obtain ⟨x, rfl, hA, hR⟩ := hP
    exact h l h' tk' F' N' x hA hR
end

section
theorem initB {K : Frag} {f : Addr} {fd fd' : FuncData} {oc oc' : Value} {od od' : Option Addr} {sl sl' : Array (Option Value)} {P : FuncData → Prop} (h1 : K.lookup f = some ⟨oc, od, .func fd, sl⟩) (hp : P fd) (h2 : K.lookup f = some ⟨oc', od', .func fd', sl'⟩) : P fd' := by
  rw [h1] at h2
  injection h2 with h
  injection h with _ _ h _
  injection h with h
  exact h ▸ hp
/-- how the making of a record binds its arguments -/
def InitR (w : World) (args : List Value) (k g : Int) (tk0 tg : Tok) (l : Addr) : Prop :=
  ∀ (s : Shared) (x : Addr) (fd : FuncData) (oc : Value) (od : Option Addr) (sl : Array (Option Value)), (kay.heap_1 w.params).In s.heap → (kay.heap_1 w.params).lookup 143 = some ⟨oc, od, .func fd, sl⟩ →
    BindsTo s fd ⟨.ref x :: args, []⟩ [(Str.ofString "self", Value.ref x), (Str.ofString "kind", Value.int k tk0), (Str.ofString "group", Value.int g tg), (Str.ofString "sources", Value.ref l)]
set_option maxHeartbeats 2000000 in
theorem c_recG (w : World) (args : List Value) (k g : Int) (tk0 tg : Tok) (l : Addr) (vs : List Value) (ns : List Int) (led : List (Addr × Obj)) (hm : TupIn w led l vs) (hi : IntsAre vs ns) (hB : InitR w args k g tk0 tg l) :
    Ctr w 20 160 (.ref 153) args led (fun v l' => ∃ x, v = .ref x ∧ Adds led l' ∧ IsRec w l' x k g ns) := by
  refine Ctr.open ?_
  intro mean mg mb dp un gd cn cs a ccd cl outer A₀ base h₀ L m hpq gsq drq tkq osq Q E B F X N T hk hdp hun hret
  k_extra "m my_make"
  intro x6 d6 h6 F6 N6 l61 l62
  have l63 := l61
  (try k_lt l61); (try k_lt2 l62)
  (
  k_dflt (refine' code_def (binds := [(Str.ofString "self", Value.ref x6), (Str.ofString "kind", Value.int k tk0), (Str.ofString "group", Value.int g tg), (Str.ofString "sources", Value.ref l)]) ?z9k1 ?z9k2 ?z9k3 ?z9k4 ?z9k5 ?z9kA ?z9kF ?z9kK ?z9k6 ?z9k7 ?z9k8 ?z9k9 ?z9kB ?_ ?z9c2 ?z9c3 ?z9c4 ?z9c5; (case z9kA => eq_refl); (case z9kF => eq_refl); (case z9kK => assumption); (case z9k1 => k_asm); (case z9k2 => k_asm); (case z9k3 => k_asm); (case z9k4 => k_asm); (case z9k5 => k_asm); (case z9k6 => k_is); (case z9k7 => k_is); (case z9k8 => k_extra "m my_room"); (case z9k9 => first | exact hB _ _ _ _ _ _ (by k_in) (by k_is) | exact BindsTo.of_eq (by kernel_rfl!) | exact binds_K (by k_in) rfl (by k_is) rfl rfl rfl); (case z9c5 => decide); (case z9kB => exact locs rfl); (case z9c2 => eq_refl); (case z9c3 => eq_refl); (case z9c4 => eq_refl); k_whole))
  intro g1 L1 hp1 FG F1 N1 B1 X1 T1
  k_extra "m my_ent"
  k_extra "m my_walk"
  have hadd : ∀ (oX oD : Obj), Adds led ((x6, oX) :: (d6, oD) :: led) := fun oX oD => ⟨[(x6, oX), (d6, oD)], fun q hq p hp => by
    have h1 := l63 q hq
    have h2 : q.1 < x6 := Nat.lt_trans h1 (by omega)
    simp only [List.mem_cons, List.not_mem_nil, or_false] at hp
    rcases hp with rfl | rfl
    · exact h2
    · exact h1, rfl⟩
  refine hret _ _ _ _ ⟨_, rfl, hadd _ _, ?_⟩ (by k_asm) (by k_asm)
  exact ⟨_, _, _, _, _, _, _, _, .head _, .tail _ (.head _), (hm.mono (fun _ h => .tail _ (.tail _ h))), hi⟩
theorem c_recT (w : World) (k g : Int) (tk0 tg : Tok) (l : Addr) (vs : List Value) (ns : List Int) (led : List (Addr × Obj)) (hm : TupIn w led l vs) (hi : IntsAre vs ns) :
    Ctr w 20 160 (.ref 153) [.int k tk0, .int g tg, .ref l] led (fun v l' => ∃ x, v = .ref x ∧ Adds led l' ∧ IsRec w l' x k g ns) := by
  refine c_recG w _ k g tk0 tg l vs ns led hm hi ?_
  intro s x fd oc od sl hin
  refine' initB (P := fun fd => BindsTo s fd ⟨.ref x :: [.int k tk0, .int g tg, .ref l], []⟩ [(Str.ofString "self", Value.ref x), (Str.ofString "kind", Value.int k tk0), (Str.ofString "group", Value.int g tg), (Str.ofString "sources", Value.ref l)]) ?h1 ?hp
  case h1 => k_is
  case hp => first | exact BindsTo.of_eq (by kernel_rfl!) | exact binds_K hin rfl (by k_is) rfl rfl rfl
theorem c_recD (w : World) (k g : Int) (tk0 tg : Tok)  (led : List (Addr × Obj))  :
    Ctr w 20 160 (.ref 153) [.int k tk0, .int g tg] led (fun v l' => ∃ x, v = .ref x ∧ Adds led l' ∧ IsRec w l' x k g []) := by
  refine c_recG w _ k g tk0 tg 135 [] [] led ⟨0, .inr (by k_is)⟩ .nil ?_
  intro s x fd oc od sl hin
  refine' initB (P := fun fd => BindsTo s fd ⟨.ref x :: [.int k tk0, .int g tg], []⟩ [(Str.ofString "self", Value.ref x), (Str.ofString "kind", Value.int k tk0), (Str.ofString "group", Value.int g tg), (Str.ofString "sources", Value.ref 135)]) ?h1 ?hp
  case h1 => k_is
  case hp => first | exact BindsTo.of_eq (by kernel_rfl!) | exact binds_K hin rfl (by k_is) rfl rfl rfl
end

section
/-- how the making of a message binds its arguments -/
def InitB (w : World) (args : List Value) (kind : Str) (g : Int) (tk0 tg : Tok) (wait : Int) (tw : Tok) (l : Addr) (ver : Int) (tv : Tok) : Prop :=
  ∀ (s : Shared) (x : Addr) (fd : FuncData) (oc : Value) (od : Option Addr) (sl : Array (Option Value)), (kay.heap_1 w.params).In s.heap → (kay.heap_1 w.params).lookup 174 = some ⟨oc, od, .func fd, sl⟩ →
    BindsTo s fd ⟨.ref x :: args, []⟩ [(Str.ofString "self", Value.ref x), (Str.ofString "kind", Value.str kind tk0), (Str.ofString "group", Value.int g tg), (Str.ofString "wait", Value.int wait tw), (Str.ofString "sources", Value.ref l), (Str.ofString "version", Value.int ver tv), (Str.ofString "records", Value.ref 166)]
set_option maxHeartbeats 2000000 in
theorem c_msgT (w : World) (args : List Value) (kind : Str) (g : Int) (tk0 tg : Tok) (wait : Int) (tw : Tok) (l : Addr) (vs : List Value) (ns : List Int) (ver : Int) (tv : Tok) (led : List (Addr × Obj)) (hm : TupIn w led l vs) (hi : IntsAre vs ns) (hB : InitB w args kind g tk0 tg wait tw l ver tv) :
    Ctr w 20 160 (.ref 182) args led (fun v l' => ∃ x, v = .ref x ∧ Adds led l' ∧ IsMsg w l' x kind g wait ns ver []) := by
  refine Ctr.open ?_
  intro mean mg mb dp un gd cn cs a ccd cl outer A₀ base h₀ L m hpq gsq drq tkq osq Q E B F X N T hk hdp hun hret
  k_extra "m my_make"
  intro x6 d6 h6 F6 N6 l61 l62
  have l63 := l61
  (try k_lt l61); (try k_lt2 l62)
  (
  k_dflt (refine' code_def (binds := [(Str.ofString "self", Value.ref x6), (Str.ofString "kind", Value.str kind tk0), (Str.ofString "group", Value.int g tg), (Str.ofString "wait", Value.int wait tw), (Str.ofString "sources", Value.ref l), (Str.ofString "version", Value.int ver tv), (Str.ofString "records", Value.ref 166)]) ?z9k1 ?z9k2 ?z9k3 ?z9k4 ?z9k5 ?z9kA ?z9kF ?z9kK ?z9k6 ?z9k7 ?z9k8 ?z9k9 ?z9kB ?_ ?z9c2 ?z9c3 ?z9c4 ?z9c5; (case z9kA => eq_refl); (case z9kF => eq_refl); (case z9kK => assumption); (case z9k1 => k_asm); (case z9k2 => k_asm); (case z9k3 => k_asm); (case z9k4 => k_asm); (case z9k5 => k_asm); (case z9k6 => k_is); (case z9k7 => k_is); (case z9k8 => k_extra "m my_room"); (case z9k9 => first | exact hB _ _ _ _ _ _ (by k_in) (by k_is) | exact BindsTo.of_eq (by kernel_rfl!) | exact binds_K (by k_in) rfl (by k_is) rfl rfl rfl); (case z9c5 => decide); (case z9kB => exact locs rfl); (case z9c2 => eq_refl); (case z9c3 => eq_refl); (case z9c4 => eq_refl); k_whole))
  intro g1 L1 hp1 FG F1 N1 B1 X1 T1
  k_extra "m my_ent"
  k_extra "m my_walk"
  have hadd : ∀ (oX oD : Obj), Adds led ((x6, oX) :: (d6, oD) :: led) := fun oX oD => ⟨[(x6, oX), (d6, oD)], fun q hq p hp => by
    have h1 := l63 q hq
    have h2 : q.1 < x6 := Nat.lt_trans h1 (by omega)
    simp only [List.mem_cons, List.not_mem_nil, or_false] at hp
    rcases hp with rfl | rfl
    · exact h2
    · exact h1, rfl⟩
  refine hret _ _ _ _ ⟨_, rfl, hadd _ _, ?_⟩ (by k_asm) (by k_asm)
  exact ⟨_, _, _, _, _, _, _, _, _, _, _, _, _, _, _, .head _, .tail _ (.head _), (hm.mono (fun _ h => .tail _ (.tail _ h))), hi, ⟨0, .inr (by k_is)⟩, .nil⟩
set_option maxHeartbeats 2000000 in
theorem c_msg2 (w : World) (kind : Str) (g : Int) (tk0 tg : Tok)  (led : List (Addr × Obj))  :
    Ctr w 20 160 (.ref 182) [.str kind tk0, .int g tg] led (fun v l' => ∃ x, v = .ref x ∧ Adds led l' ∧ IsMsg w l' x kind g 0 [] 2 []) := by
  refine c_msgT w _ kind g tk0 tg 0 412 165 [] [] 2 413 led ⟨0, .inr (by k_is)⟩ .nil ?_
  intro s x fd oc od sl hin
  refine' initB (P := fun fd => BindsTo s fd ⟨.ref x :: [.str kind tk0, .int g tg], []⟩ [(Str.ofString "self", Value.ref x), (Str.ofString "kind", Value.str kind tk0), (Str.ofString "group", Value.int g tg), (Str.ofString "wait", Value.int 0 412), (Str.ofString "sources", Value.ref 165), (Str.ofString "version", Value.int 2 413), (Str.ofString "records", Value.ref 166)]) ?h1 ?hp
  case h1 => k_is
  case hp => first | exact BindsTo.of_eq (by kernel_rfl!) | exact binds_K hin rfl (by k_is) rfl rfl rfl
set_option maxHeartbeats 2000000 in
theorem c_msg3 (w : World) (kind : Str) (g : Int) (tk0 tg : Tok) (wait : Int) (tw : Tok) (led : List (Addr × Obj))  :
    Ctr w 20 160 (.ref 182) [.str kind tk0, .int g tg, .int wait tw] led (fun v l' => ∃ x, v = .ref x ∧ Adds led l' ∧ IsMsg w l' x kind g wait [] 2 []) := by
  refine c_msgT w _ kind g tk0 tg wait tw 165 [] [] 2 413 led ⟨0, .inr (by k_is)⟩ .nil ?_
  intro s x fd oc od sl hin
  refine' initB (P := fun fd => BindsTo s fd ⟨.ref x :: [.str kind tk0, .int g tg, .int wait tw], []⟩ [(Str.ofString "self", Value.ref x), (Str.ofString "kind", Value.str kind tk0), (Str.ofString "group", Value.int g tg), (Str.ofString "wait", Value.int wait tw), (Str.ofString "sources", Value.ref 165), (Str.ofString "version", Value.int 2 413), (Str.ofString "records", Value.ref 166)]) ?h1 ?hp
  case h1 => k_is
  case hp => first | exact BindsTo.of_eq (by kernel_rfl!) | exact binds_K hin rfl (by k_is) rfl rfl rfl
set_option maxHeartbeats 2000000 in
theorem c_msg5T (w : World) (kind : Str) (g : Int) (tk0 tg : Tok) (wait : Int) (tw : Tok) (l : Addr) (vs : List Value) (ns : List Int) (ver : Int) (tv : Tok) (led : List (Addr × Obj)) (hm : TupIn w led l vs) (hi : IntsAre vs ns) :
    Ctr w 20 160 (.ref 182) [.str kind tk0, .int g tg, .int wait tw, .ref l, .int ver tv] led (fun v l' => ∃ x, v = .ref x ∧ Adds led l' ∧ IsMsg w l' x kind g wait ns ver []) := by
  refine c_msgT w _ kind g tk0 tg wait tw l vs ns ver tv led hm hi ?_
  intro s x fd oc od sl hin
  refine' initB (P := fun fd => BindsTo s fd ⟨.ref x :: [.str kind tk0, .int g tg, .int wait tw, .ref l, .int ver tv], []⟩ [(Str.ofString "self", Value.ref x), (Str.ofString "kind", Value.str kind tk0), (Str.ofString "group", Value.int g tg), (Str.ofString "wait", Value.int wait tw), (Str.ofString "sources", Value.ref l), (Str.ofString "version", Value.int ver tv), (Str.ofString "records", Value.ref 166)]) ?h1 ?hp
  case h1 => k_is
  case hp => first | exact BindsTo.of_eq (by kernel_rfl!) | exact binds_K hin rfl (by k_is) rfl rfl rfl
set_option maxHeartbeats 2000000 in
theorem c_msg5L (w : World) (kind : Str) (g : Int) (tk0 tg : Tok) (wait : Int) (tw : Tok) (l : Addr) (vs : List Value) (ns : List Int) (n : Nat) (ver : Int) (tv : Tok) (led : List (Addr × Obj)) (hm : (l, PySem.W.listOf vs.toArray n) ∈ led) (hz : vs.length ≤ 1000) (hi : IntsAre vs ns) :
    Ctr w 20 160 (.ref 182) [.str kind tk0, .int g tg, .int wait tw, .ref l, .int ver tv] led (fun v l' => ∃ x, v = .ref x ∧ Adds led l' ∧ IsMsg w l' x kind g wait ns ver []) := by
  refine Ctr.open ?_
  intro mean mg mb dp un gd cn cs a ccd cl outer A₀ base h₀ L m hpq gsq drq tkq osq Q E B F X N T hk hdp hun hret
  k_extra "m my_make"
  intro x6 d6 h6 F6 N6 l61 l62
  have l63 := l61
  (try k_lt l61); (try k_lt2 l62)
  (
  k_dflt (refine' code_def (binds := [(Str.ofString "self", Value.ref x6), (Str.ofString "kind", Value.str kind tk0), (Str.ofString "group", Value.int g tg), (Str.ofString "wait", Value.int wait tw), (Str.ofString "sources", Value.ref l), (Str.ofString "version", Value.int ver tv), (Str.ofString "records", Value.ref 166)]) ?z9k1 ?z9k2 ?z9k3 ?z9k4 ?z9k5 ?z9kA ?z9kF ?z9kK ?z9k6 ?z9k7 ?z9k8 ?z9k9 ?z9kB ?_ ?z9c2 ?z9c3 ?z9c4 ?z9c5; (case z9kA => eq_refl); (case z9kF => eq_refl); (case z9kK => assumption); (case z9k1 => k_asm); (case z9k2 => k_asm); (case z9k3 => k_asm); (case z9k4 => k_asm); (case z9k5 => k_asm); (case z9k6 => k_is); (case z9k7 => k_is); (case z9k8 => k_extra "m my_room"); (case z9k9 => first | exact hB _ _ _ _ _ _ (by k_in) (by k_is) | exact BindsTo.of_eq (by kernel_rfl!) | exact binds_K (by k_in) rfl (by k_is) rfl rfl rfl); (case z9c5 => decide); (case z9kB => exact locs rfl); (case z9c2 => eq_refl); (case z9c3 => eq_refl); (case z9c4 => eq_refl); k_whole))
  intro g1 L1 hp1 FG F1 N1 B1 X1 T1
  k_extra "m my_ent"
  k_extra "m my_walk"
  have hadd : ∀ (D : Addr) (oT oX oD : Obj), x6 < D → Adds led ((D, oT) :: (x6, oX) :: (d6, oD) :: led) := fun D oT oX oD hD => ⟨[(D, oT), (x6, oX), (d6, oD)], fun q hq p hp => by
    have h1 := l63 q hq
    have h2 : q.1 < x6 := Nat.lt_trans h1 (by omega)
    simp only [List.mem_cons, List.not_mem_nil, or_false] at hp
    rcases hp with rfl | rfl | rfl
    · exact Nat.lt_trans h2 hD
    · exact h2
    · exact h1, rfl⟩
  have hx := ‹x6 < _ ∧ d6 < _ ∧ AllLt _ led›
  refine hret _ _ _ _ ⟨_, rfl, hadd _ _ _ _ hx.1, ?_⟩ (by k_asm) (by k_asm)
  exact ⟨_, _, _, _, _, _, _, _, _, _, _, _, _, _, _, .tail _ (.head _), .tail _ (.tail _ (.head _)), ⟨0, .inl (.head _)⟩, hi, ⟨0, .inr (by k_is)⟩, .nil⟩
set_option maxHeartbeats 2000000 in
theorem c_msg6 (w : World) (kind : Str) (g : Int) (tk0 tg : Tok) (wait : Int) (tw : Tok) (l : Addr) (vs : List Value) (ns : List Int) (ver : Int) (tv : Tok) (rl : Addr) (rv : List Value) (rn : Nat) (rs : List (Int × Int × List Int)) (led : List (Addr × Obj)) (hm : TupIn w led l vs) (hi : IntsAre vs ns) (hr : (rl, PySem.W.listOf rv.toArray rn) ∈ led) (hrz : rv.length ≤ 1000) (hrs : RecsAre w led rv rs) :
    Ctr w 20 160 (.ref 182) [.str kind tk0, .int g tg, .int wait tw, .ref l, .int ver tv, .ref rl] led (fun v l' => ∃ x, v = .ref x ∧ Adds led l' ∧ IsMsg w l' x kind g wait ns ver rs) := by
  refine Ctr.open ?_
  intro mean mg mb dp un gd cn cs a ccd cl outer A₀ base h₀ L m hpq gsq drq tkq osq Q E B F X N T hk hdp hun hret
  k_extra "m my_make"
  intro x6 d6 h6 F6 N6 l61 l62
  have l63 := l61
  (try k_lt l61); (try k_lt2 l62)
  (
  k_dflt (refine' code_def (binds := [(Str.ofString "self", Value.ref x6), (Str.ofString "kind", Value.str kind tk0), (Str.ofString "group", Value.int g tg), (Str.ofString "wait", Value.int wait tw), (Str.ofString "sources", Value.ref l), (Str.ofString "version", Value.int ver tv), (Str.ofString "records", Value.ref rl)]) ?z9k1 ?z9k2 ?z9k3 ?z9k4 ?z9k5 ?z9kA ?z9kF ?z9kK ?z9k6 ?z9k7 ?z9k8 ?z9k9 ?z9kB ?_ ?z9c2 ?z9c3 ?z9c4 ?z9c5; (case z9kA => eq_refl); (case z9kF => eq_refl); (case z9kK => assumption); (case z9k1 => k_asm); (case z9k2 => k_asm); (case z9k3 => k_asm); (case z9k4 => k_asm); (case z9k5 => k_asm); (case z9k6 => k_is); (case z9k7 => k_is); (case z9k8 => k_extra "m my_room"); (case z9k9 => first | exact hB _ _ _ _ _ _ (by k_in) (by k_is) | exact BindsTo.of_eq (by kernel_rfl!) | exact binds_K (by k_in) rfl (by k_is) rfl rfl rfl); (case z9c5 => decide); (case z9kB => exact locs rfl); (case z9c2 => eq_refl); (case z9c3 => eq_refl); (case z9c4 => eq_refl); k_whole))
  intro g1 L1 hp1 FG F1 N1 B1 X1 T1
  k_extra "m my_ent"
  k_extra "m my_walk"
  have hadd : ∀ (D : Addr) (oT oX oD : Obj), x6 < D → Adds led ((D, oT) :: (x6, oX) :: (d6, oD) :: led) := fun D oT oX oD hD => ⟨[(D, oT), (x6, oX), (d6, oD)], fun q hq p hp => by
    have h1 := l63 q hq
    have h2 : q.1 < x6 := Nat.lt_trans h1 (by omega)
    simp only [List.mem_cons, List.not_mem_nil, or_false] at hp
    rcases hp with rfl | rfl | rfl
    · exact Nat.lt_trans h2 hD
    · exact h2
    · exact h1, rfl⟩
  have hx := ‹x6 < _ ∧ d6 < _ ∧ AllLt _ led›
  refine hret _ _ _ _ ⟨_, rfl, hadd _ _ _ _ hx.1, ?_⟩ (by k_asm) (by k_asm)
  exact ⟨_, _, _, _, _, _, _, _, _, _, _, _, _, _, _, .tail _ (.head _), .tail _ (.tail _ (.head _)), (hm.mono (fun _ h => .tail _ (.tail _ (.tail _ h)))), hi, ⟨0, .inl (.head _)⟩, (hrs.mono (fun _ h => .tail _ (.tail _ (.tail _ h))))⟩
end

section
def srcsAt (ks : List Int) (place : Int) (many : Nat) : List Int := (List.range many).map fun (i : Nat) => g4 ks (place + 4 * (i : Int))
theorem allLt_mem {d : Addr} (l : List (Addr × Obj)) (h : AllLt d l) (p : Addr × Obj) (hp : p ∈ l) : @LT.lt Nat _ p.1 d := by
  induction l with
  | nil => cases hp
  | cons q l ih =>
    obtain ⟨h1, h2⟩ := h
    cases hp with
    | head => exact h1
    | tail _ hp => exact ih h2 hp
set_option maxHeartbeats 2000000 in
theorem c_sources (w : World) (b : Array UInt8) (tb : Tok) (ks : List Int) (place many : Int) (tp tm : Tok) (led : List (Addr × Obj)) (hb : KBw.bInts b = ks) (hlen : ks.length ≤ 70000) (h0 : 0 ≤ place) (hm0 : 0 ≤ many) (hm1 : many ≤ 1000) (h1 : place + 4 * many ≤ ks.length) :
    Ctr w 20 160 (.ref 208) [.bytes b tb, .int place tp, .int many tm] led (fun v l' => ∃ T vs, v = .ref T ∧ Adds led l' ∧ TupIn w l' T vs ∧ IntsAre vs (srcsAt ks place many.toNat)) := by
  refine' Ctr.bodyC (binds := [(Str.ofString "octets", Value.bytes b tb), (Str.ofString "place", Value.int place tp), (Str.ofString "many", Value.int many tm)]) ?z8o ?z8c ?z8b ?z8l ?z8k ?_
  case z8o => k_is
  case z8c => k_is
  case z8b => exact fun _ => BindsTo.of_eq (by kernel_rfl)
  case z8l => kernel_rfl
  case z8k => kernel_rfl
  intro mean mg mb dp un gd outer A₀ base g1 L1 hp1 gsq drq tkq osq Q E cells1 B1 F1 X1 N1 Y1 l1 T1 hdp hun hret hE9
  intro _ _ _
  obtain ⟨o1, o2, rfl, d1, d2⟩ := CellsAre.two Y1
  k_extra "m my_walk"
  k_dflt (refine comp_gen (by k_asm) (by rfl) (by decide) (by rfl) (by decide) (by rfl) ?_ (fun _ => rfl))
  k_extra "m my_walk"
  k_dflt (refine comp_range (n := many.toNat) (news := [(L1 + 1 + 1, o1), (L1 + 1, o2)] ++ led) (fun i ys news => news = [(L1 + 1 + 1, o1), (L1 + 1, o2)] ++ led ∧ IntsAre ys (srcsAt ks place i)) (by rfl) (by k_asm) (by k_extra "m my_news") (by assumption) ?_ ?_ ?_ ⟨rfl, .nil⟩ ?_ ?_)
  · exact small_one (by omega) (by omega) (by omega) (by omega)
  · rw [rangeSize_one]; split <;> omega
  · rw [sizeLine_eq]; omega
  · intro g i ys news₁ v I oI C oC D m₂ h tk E' hi hl hJ hP hC hx F' N' off ne
    (try dsimp only)
    k_extra "m my_fq"
    obtain ⟨t, rfl⟩ := hP
    obtain ⟨rfl, hys⟩ := hJ
    k_extra "m my_fold"
    k_extra "m my_walk"
    (with_reducible rename Fr _ _ _ _ => F9)
    (with_reducible rename News _ _ _ _ => N9)
    refine CompEnd.intro F9 N9 _ (fun _ h => h) off trivial ⟨rfl, ?_⟩
    have ei : (0 + (i : Int) * 1) = i := by omega
    rw [ei, srcsAt, List.range_succ, List.map_append]
    exact hys.append (.cons _ _ .nil)
  · intro ys news' hl hJ
    obtain ⟨rfl, hys⟩ := hJ
    intro D h tk F' N' off
    dsimp only
    k_extra "m my_walk"
    (with_reducible rename Fr _ _ _ _ => F9)
    (with_reducible rename News _ _ _ _ => N9)
    have hx := ‹D < _ ∧ AllLt _ ([(L1 + 1 + 1, o1), (L1 + 1, o2)] ++ led)›
    have hfin : ∀ D' : Addr, AllLt D' ([(L1 + 1 + 1, o1), (L1 + 1, o2)] ++ led) → Adds led ((D', tupObj ys 0) :: led) := fun D' h => ⟨[(D', tupObj ys 0)], fun q hq p hp => by
      rw [List.mem_singleton.mp hp]
      exact allLt_mem _ h q (List.mem_append_right _ hq), rfl⟩
    exact hret _ _ _ _ ⟨_, ys, rfl, hfin _ hx.2, ⟨0, .inl (.head _)⟩, hl ▸ hys⟩ F9 (fun p hp => N9 p ((List.mem_cons.mp hp).elim (fun e => e ▸ List.mem_cons_self ..) fun e => List.mem_cons_of_mem _ (List.mem_cons_of_mem _ (List.mem_append_right _ e))))
end

theorem rows_10 : True := by
  k_with "m call ref" => ((with_reducible show wpAny _ _ (call (Value.ref 182) [Value.str _ _, Value.int _ _]) _ _ _); (((k_extra "m my_fq"); k_dflt (refine' (Ctr.useA (c_msg2 _ _ _ _ _ _)) ?z9k1 ?z9k2 ?z9k3 ?z9k4 ?z9k5 ?z9k6 ?z9k7 ?z9k8 ?_; (case z9k1 => k_asm); (case z9k2 => k_asm); (case z9k3 => k_asm); (case z9k4 => k_asm); (case z9k5 => k_asm); (case z9k6 => first | exact rfl | assumption); (case z9k7 => k_extra "m my_rm"); (case z9k8 => k_extra "m my_rm"))); k_whole); intro _ _ _ _ _ _ _ _; (try dsimp only))
  k_with "m call ref" => ((with_reducible show wpAny _ _ (call (Value.ref 182) [Value.str _ _, Value.int _ _, Value.int _ _]) _ _ _); (((k_extra "m my_fq"); k_dflt (refine' (Ctr.useA (c_msg3 _ _ _ _ _ _ _ _)) ?z9k1 ?z9k2 ?z9k3 ?z9k4 ?z9k5 ?z9k6 ?z9k7 ?z9k8 ?_; (case z9k1 => k_asm); (case z9k2 => k_asm); (case z9k3 => k_asm); (case z9k4 => k_asm); (case z9k5 => k_asm); (case z9k6 => first | exact rfl | assumption); (case z9k7 => k_extra "m my_rm"); (case z9k8 => k_extra "m my_rm"))); k_whole); intro _ _ _ _ _ _ _ _; (try dsimp only))
  k_with "m call ref" => ((with_reducible show wpAny _ _ (call (Value.ref 182) [Value.str _ _, Value.int _ _, Value.int _ _, Value.ref _, Value.int _ _]) _ _ _); ((k_extra "m my_fq"); k_dflt (refine' (Ctr.useA (c_msg5T _ _ _ _ _ _ _ _ _ _ _ _ _ ?z9q1 ?z9q2)) ?z9k1 ?z9k2 ?z9k3 ?z9k4 ?z9k5 ?z9k6 ?z9k7 ?z9k8 ?_; (case z9k1 => k_asm); (case z9k2 => k_asm); (case z9k3 => k_asm); (case z9k4 => k_asm); (case z9k5 => k_asm); (case z9k6 => first | exact rfl | assumption); (case z9k7 => k_extra "m my_rm"); (case z9k8 => k_extra "m my_rm"))); (case z9q1 => k_extra "m my_tupin5"); (case z9q2 => first | assumption | exact .nil); k_whole; intro _ _ _ _ _ _ _ _; (try dsimp only))
  k_with "m my_tupin5" => (first | assumption | exact ⟨0, .inr (by k_is)⟩ | exact ⟨0, .inl (.head _)⟩ | (with_reducible refine TupIn.mono (by assumption) ?_; k_extra "m my_sub2"))
  trivial

section
theorem Adds.drop {D : Addr} {o : Obj} {led l : List (Addr × Obj)} (h1 : ∀ p ∈ led, p.1 < D) (h : Adds ((D, o) :: led) l) : Adds led l := by
  obtain ⟨tl, a, rfl⟩ := h
  exact ⟨tl ++ [(D, o)], fun q hq p hp => (List.mem_append.mp hp).elim (fun e => a q (List.mem_cons_of_mem _ hq) p e) (fun e => by rw [List.mem_singleton.mp e]; exact h1 q hq), by simp⟩
set_option maxHeartbeats 2000000 in
theorem c_uquery8 (w : World) (b : Array UInt8) (tb : Tok) (ks : List Int) (led : List (Addr × Obj)) (hb : KBw.bInts b = ks) (hlen : ks.length = 8) (hn : nth ks 1 ≠ 0) :
    Ctr w 30 240 (.ref 222) [.bytes b tb] led (fun v l' => ∃ x, v = .ref x ∧ Adds led l' ∧ IsMsg w l' x (Str.ofString "query") (g4 ks 4) (nth ks 1) [] 2 []) := by
  refine Ctr.open ?_
  intro mean mg mb dp un gd cn cs a ccd cl outer A₀ base h₀ L m hpq gsq drq tkq osq Q E B F X N T hk hdp hun hret
  have hn' : ks.getD (Int.toNat 1) 0 ≠ 0 := hn
  (
  refine wpAny_call ?_
  k_dflt (refine' code_def (binds := [(Str.ofString "octets", Value.bytes b tb)]) ?z9k1 ?z9k2 ?z9k3 ?z9k4 ?z9k5 ?z9kA ?z9kF ?z9kK ?z9k6 ?z9k7 ?z9k8 ?z9k9 ?z9kB ?_ ?z9c2 ?z9c3 ?z9c4 ?z9c5; (case z9kA => eq_refl); (case z9kF => eq_refl); (case z9kK => assumption); (case z9k1 => k_asm); (case z9k2 => k_asm); (case z9k3 => k_asm); (case z9k4 => k_asm); (case z9k5 => k_asm); (case z9k6 => k_is); (case z9k7 => k_is); (case z9k8 => ktr_room); (case z9k9 => exact BindsTo.of_eq (by kernel_rfl)); (case z9c5 => decide); (case z9kB => exact locs rfl); (case z9c2 => eq_refl); (case z9c3 => eq_refl); (case z9c4 => eq_refl); k_whole))
  intro g1 L1 hp1 FG F1 N1 B1 X1 T1
  k_extra "m my_ent"
  k_extra "m my_walk"
  (((k_extra "m my_fq"); k_dflt (refine' (Ctr.use (c_msg5T _ _ _ _ _ _ _ _ [] [] _ _ _ ?q1 .nil)) ?z9k1 ?z9k2 ?z9k3 ?z9k4 ?z9k5 ?z9k6 ?z9k7 ?z9k8 ?_; (case z9k1 => k_asm); (case z9k2 => k_asm); (case z9k3 => k_asm); (case z9k4 => k_asm); (case z9k5 => k_asm); (case z9k6 => first | exact rfl | assumption); (case z9k7 => k_extra "m my_rm"); (case z9k8 => k_extra "m my_rm"))))
  case q1 => exact ⟨0, .inl (.head _)⟩
  k_whole
  intro v8 l8 h8 tk8 hP8 F8 N8
  obtain ⟨x8, rfl, hA8, hM8⟩ := hP8
  (try dsimp only)
  k_extra "m my_walk"
  exact hret _ _ _ _ ⟨x8, rfl, hA8.drop (by assumption), hM8⟩ (by k_asm) (by k_asm)
set_option maxHeartbeats 2000000 in
theorem c_uquery8z (w : World) (b : Array UInt8) (tb : Tok) (ks : List Int) (led : List (Addr × Obj)) (hb : KBw.bInts b = ks) (hlen : ks.length = 8) (hn : nth ks 1 = 0) :
    Ctr w 30 240 (.ref 222) [.bytes b tb] led (fun v l' => ∃ x, v = .ref x ∧ Adds led l' ∧ IsMsg w l' x (Str.ofString "query") (g4 ks 4) (nth ks 1) [] 1 []) := by
  refine Ctr.open ?_
  intro mean mg mb dp un gd cn cs a ccd cl outer A₀ base h₀ L m hpq gsq drq tkq osq Q E B F X N T hk hdp hun hret
  have hn' : ks.getD (Int.toNat 1) 0 = 0 := hn
  (
  refine wpAny_call ?_
  k_dflt (refine' code_def (binds := [(Str.ofString "octets", Value.bytes b tb)]) ?z9k1 ?z9k2 ?z9k3 ?z9k4 ?z9k5 ?z9kA ?z9kF ?z9kK ?z9k6 ?z9k7 ?z9k8 ?z9k9 ?z9kB ?_ ?z9c2 ?z9c3 ?z9c4 ?z9c5; (case z9kA => eq_refl); (case z9kF => eq_refl); (case z9kK => assumption); (case z9k1 => k_asm); (case z9k2 => k_asm); (case z9k3 => k_asm); (case z9k4 => k_asm); (case z9k5 => k_asm); (case z9k6 => k_is); (case z9k7 => k_is); (case z9k8 => ktr_room); (case z9k9 => exact BindsTo.of_eq (by kernel_rfl)); (case z9c5 => decide); (case z9kB => exact locs rfl); (case z9c2 => eq_refl); (case z9c3 => eq_refl); (case z9c4 => eq_refl); k_whole))
  intro g1 L1 hp1 FG F1 N1 B1 X1 T1
  k_extra "m my_ent"
  k_extra "m my_walk"
  (((k_extra "m my_fq"); k_dflt (refine' (Ctr.use (c_msg5T _ _ _ _ _ _ _ _ [] [] _ _ _ ?q1 .nil)) ?z9k1 ?z9k2 ?z9k3 ?z9k4 ?z9k5 ?z9k6 ?z9k7 ?z9k8 ?_; (case z9k1 => k_asm); (case z9k2 => k_asm); (case z9k3 => k_asm); (case z9k4 => k_asm); (case z9k5 => k_asm); (case z9k6 => first | exact rfl | assumption); (case z9k7 => k_extra "m my_rm"); (case z9k8 => k_extra "m my_rm"))))
  case q1 => exact ⟨0, .inl (.head _)⟩
  k_whole
  intro v8 l8 h8 tk8 hP8 F8 N8
  obtain ⟨x8, rfl, hA8, hM8⟩ := hP8
  (try dsimp only)
  k_extra "m my_walk"
  exact hret _ _ _ _ ⟨x8, rfl, hA8.drop (by assumption), hM8⟩ (by k_asm) (by k_asm)
end

section
theorem Adds.trans {a b c : List (Addr × Obj)} (h : Adds a b) (g : Adds b c) : Adds a c := by
  obtain ⟨t1, p1, rfl⟩ := h
  obtain ⟨t2, p2, rfl⟩ := g
  exact ⟨t2 ++ t1, fun q hq p hp => (List.mem_append.mp hp).elim (fun e => p2 q (List.mem_append_right _ hq) p e) (fun e => p1 q hq p e), by rw [List.append_assoc]⟩
set_option maxHeartbeats 2000000 in
theorem c_uquery3 (w : World) (b : Array UInt8) (tb : Tok) (ks : List Int) (led : List (Addr × Obj)) (hb : KBw.bInts b = ks) (hlen : ks.length ≤ 70000) (h12 : 12 ≤ ks.length) (hm0 : 0 ≤ g2 ks 10) (hm1 : g2 ks 10 ≤ 1000) (hm : 12 + 4 * g2 ks 10 ≤ ks.length) :
    Ctr w 40 300 (.ref 222) [.bytes b tb] led (fun v l' => ∃ x, v = .ref x ∧ Adds led l' ∧ IsMsg w l' x (Str.ofString "query") (g4 ks 4) (timeOf (nth ks 1)) (srcsAt ks 12 (g2 ks 10).toNat) 3 []) := by
  refine' Ctr.body (binds := [(Str.ofString "octets", Value.bytes b tb)]) ?z8o ?z8c ?z8b ?z8l ?z8k ?_
  case z8o => k_is
  case z8c => k_is
  case z8b => exact fun _ => BindsTo.of_eq (by kernel_rfl)
  case z8l => kernel_rfl
  case z8k => kernel_rfl
  intro mean mg mb dp un gd outer A₀ base g1 L1 hp1 gsq drq tkq osq Q E B1 F1 X1 N1 T1 hdp hun hret hE9
  intro _ _ _
  k_extra "m my_walk"
  ((((k_extra "m my_fq"); k_dflt (refine' (Ctr.use (c_sources _ _ _ _ _ _ _ _ _ hb hlen (by decide) hm0 hm1 hm)) ?z9k1 ?z9k2 ?z9k3 ?z9k4 ?z9k5 ?z9k6 ?z9k7 ?z9k8 ?_; (case z9k1 => k_asm); (case z9k2 => k_asm); (case z9k3 => k_asm); (case z9k4 => k_asm); (case z9k5 => k_asm); (case z9k6 => first | exact rfl | assumption); (case z9k7 => k_extra "m my_rm"); (case z9k8 => k_extra "m my_rm"))); k_whole))
  intro v8 l8 h8 tk8 hP8 F8 N8
  obtain ⟨T8, vs8, rfl, hA8, hT8, hi8⟩ := hP8
  (try dsimp only)
  k_extra "m my_walk"
  exact hret _ _ _ _ ⟨_, rfl, hA8.trans (by assumption), by assumption⟩ (by k_asm) (by k_asm)
end

section
set_option maxHeartbeats 2000000 in
theorem c_unleave (w : World) (b : Array UInt8) (tb : Tok) (ks : List Int) (led : List (Addr × Obj)) (hb : KBw.bInts b = ks) (hlen : ks.length ≤ 70000) (h8 : 8 ≤ ks.length) (hS : wsum ks ks.length % 65535 = 0) (hS0 : 0 < wsum ks ks.length) (hk0 : nth ks 0 = 23) :
    Ctr w 50 400 (.ref 215) [.bytes b tb] led (fun v l' => ∃ x, v = .ref x ∧ Adds led l' ∧ IsMsg w l' x (Str.ofString "leave") (g4 ks 4) 0 [] 2 []) := by
  have hk1 : ks.getD (Int.toNat 0) 0 = 23 := hk0
  refine' Ctr.body (binds := [(Str.ofString "octets", Value.bytes b tb)]) ?z8o ?z8c ?z8b ?z8l ?z8k ?_
  case z8o => k_is
  case z8c => k_is
  case z8b => exact fun _ => BindsTo.of_eq (by kernel_rfl)
  case z8l => kernel_rfl
  case z8k => kernel_rfl
  intro mean mg mb dp un gd outer A₀ base g1 L1 hp1 gsq drq tkq osq Q E B1 F1 X1 N1 T1 hdp hun hret hE9
  intro _ _ _
  k_extra "m my_walk"
  exact hret _ _ _ _ ⟨_, rfl, by assumption, by assumption⟩ (by k_asm) (by k_asm)
end

theorem rows_11 : True := by
  k_with "m call ref" => ((with_reducible show wpAny _ _ (call (Value.ref 222) [Value.bytes _ _]) _ _ _); first
  | (((((k_extra "m my_fq"); k_dflt (refine' (Ctr.use (c_uquery8 _ _ _ _ _ (by assumption) (by assumption) (by assumption))) ?z9k1 ?z9k2 ?z9k3 ?z9k4 ?z9k5 ?z9k6 ?z9k7 ?z9k8 ?_; (case z9k1 => k_asm); (case z9k2 => k_asm); (case z9k3 => k_asm); (case z9k4 => k_asm); (case z9k5 => k_asm); (case z9k6 => first | exact rfl | assumption); (case z9k7 => k_extra "m my_rm"); (case z9k8 => k_extra "m my_rm"))); k_whole)); intro v8 l8 h8 tk8 hP8 F8 N8; obtain ⟨x8, e8, hA8, hM8⟩ := hP8; subst e8; (try dsimp only))
  | (((((k_extra "m my_fq"); k_dflt (refine' (Ctr.use (c_uquery8z _ _ _ _ _ (by assumption) (by assumption) (by assumption))) ?z9k1 ?z9k2 ?z9k3 ?z9k4 ?z9k5 ?z9k6 ?z9k7 ?z9k8 ?_; (case z9k1 => k_asm); (case z9k2 => k_asm); (case z9k3 => k_asm); (case z9k4 => k_asm); (case z9k5 => k_asm); (case z9k6 => first | exact rfl | assumption); (case z9k7 => k_extra "m my_rm"); (case z9k8 => k_extra "m my_rm"))); k_whole)); intro v8 l8 h8 tk8 hP8 F8 N8; obtain ⟨x8, e8, hA8, hM8⟩ := hP8; subst e8; (try dsimp only))
  | (((((k_extra "m my_fq"); k_dflt (refine' (Ctr.use (c_uquery3 _ _ _ _ _ (by assumption) (by assumption) (by assumption) (by assumption) (by assumption) (by assumption))) ?z9k1 ?z9k2 ?z9k3 ?z9k4 ?z9k5 ?z9k6 ?z9k7 ?z9k8 ?_; (case z9k1 => k_asm); (case z9k2 => k_asm); (case z9k3 => k_asm); (case z9k4 => k_asm); (case z9k5 => k_asm); (case z9k6 => first | exact rfl | assumption); (case z9k7 => k_extra "m my_rm"); (case z9k8 => k_extra "m my_rm"))); k_whole)); intro v8 l8 h8 tk8 hP8 F8 N8; obtain ⟨x8, e8, hA8, hM8⟩ := hP8; subst e8; (try dsimp only)))
  trivial

section
set_option maxHeartbeats 2000000 in
theorem c_unq8 (w : World) (b : Array UInt8) (tb : Tok) (ks : List Int) (led : List (Addr × Obj)) (hb : KBw.bInts b = ks) (h8 : ks.length = 8) (hn : nth ks 1 ≠ 0) (hS : wsum ks ks.length % 65535 = 0) (hS0 : 0 < wsum ks ks.length) (hk0 : nth ks 0 = 17) :
    Ctr w 50 400 (.ref 215) [.bytes b tb] led (fun v l' => ∃ x, v = .ref x ∧ Adds led l' ∧ IsMsg w l' x (Str.ofString "query") (g4 ks 4) (nth ks 1) [] 2 []) := by
  have hk1 : ks.getD (Int.toNat 0) 0 = 17 := hk0
  refine' Ctr.body (binds := [(Str.ofString "octets", Value.bytes b tb)]) ?z8o ?z8c ?z8b ?z8l ?z8k ?_
  case z8o => k_is
  case z8c => k_is
  case z8b => exact fun _ => BindsTo.of_eq (by kernel_rfl)
  case z8l => kernel_rfl
  case z8k => kernel_rfl
  intro mean mg mb dp un gd outer A₀ base g1 L1 hp1 gsq drq tkq osq Q E B1 F1 X1 N1 T1 hdp hun hret hE9
  intro _ _ _
  k_extra "m my_walk"
  exact hret _ _ _ _ ⟨_, rfl, by assumption, by assumption⟩ (by k_asm) (by k_asm)
set_option maxHeartbeats 2000000 in
theorem c_unq8z (w : World) (b : Array UInt8) (tb : Tok) (ks : List Int) (led : List (Addr × Obj)) (hb : KBw.bInts b = ks) (h8 : ks.length = 8) (hn : nth ks 1 = 0) (hS : wsum ks ks.length % 65535 = 0) (hS0 : 0 < wsum ks ks.length) (hk0 : nth ks 0 = 17) :
    Ctr w 50 400 (.ref 215) [.bytes b tb] led (fun v l' => ∃ x, v = .ref x ∧ Adds led l' ∧ IsMsg w l' x (Str.ofString "query") (g4 ks 4) (nth ks 1) [] 1 []) := by
  have hk1 : ks.getD (Int.toNat 0) 0 = 17 := hk0
  refine' Ctr.body (binds := [(Str.ofString "octets", Value.bytes b tb)]) ?z8o ?z8c ?z8b ?z8l ?z8k ?_
  case z8o => k_is
  case z8c => k_is
  case z8b => exact fun _ => BindsTo.of_eq (by kernel_rfl)
  case z8l => kernel_rfl
  case z8k => kernel_rfl
  intro mean mg mb dp un gd outer A₀ base g1 L1 hp1 gsq drq tkq osq Q E B1 F1 X1 N1 T1 hdp hun hret hE9
  intro _ _ _
  k_extra "m my_walk"
  exact hret _ _ _ _ ⟨_, rfl, by assumption, by assumption⟩ (by k_asm) (by k_asm)
set_option maxHeartbeats 2000000 in
theorem c_unq3 (w : World) (b : Array UInt8) (tb : Tok) (ks : List Int) (led : List (Addr × Obj)) (hb : KBw.bInts b = ks) (hlen : ks.length ≤ 70000) (h12 : 12 ≤ ks.length) (hm0 : 0 ≤ g2 ks 10) (hm1 : g2 ks 10 ≤ 1000) (hm : 12 + 4 * g2 ks 10 ≤ ks.length) (hS : wsum ks ks.length % 65535 = 0) (hS0 : 0 < wsum ks ks.length) (hk0 : nth ks 0 = 17) :
    Ctr w 50 400 (.ref 215) [.bytes b tb] led (fun v l' => ∃ x, v = .ref x ∧ Adds led l' ∧ IsMsg w l' x (Str.ofString "query") (g4 ks 4) (timeOf (nth ks 1)) (srcsAt ks 12 (g2 ks 10).toNat) 3 []) := by
  have hk1 : ks.getD (Int.toNat 0) 0 = 17 := hk0
  refine' Ctr.body (binds := [(Str.ofString "octets", Value.bytes b tb)]) ?z8o ?z8c ?z8b ?z8l ?z8k ?_
  case z8o => k_is
  case z8c => k_is
  case z8b => exact fun _ => BindsTo.of_eq (by kernel_rfl)
  case z8l => kernel_rfl
  case z8k => kernel_rfl
  intro mean mg mb dp un gd outer A₀ base g1 L1 hp1 gsq drq tkq osq Q E B1 F1 X1 N1 T1 hdp hun hret hE9
  intro _ _ _
  k_extra "m my_walk"
  exact hret _ _ _ _ ⟨_, rfl, by assumption, by assumption⟩ (by k_asm) (by k_asm)
end

section
section
variable {prog : Program} {w : World} {A : Around} {E : Value → Shared → Prop} {s : Shared} {env : Env} {h₀ : Heap} {x : Str} {body : List Stmt} {Q : Flow → Shared → Prop}
theorem for_tupleL {r : Addr} {vs : List Value} {m₀ : Str → Option Value} {news : List (Addr × Obj)} (J : Nat → (Str → Option Value) → List (Addr × Obj) → Prop)
    (hh : A.handled = none) (F : Fr h₀ env.locals s.heap m₀) (X : (kay.heap_1 w.params).In h₀) (N : News h₀ env.locals s.heap news) (hr : TupIn w news r vs)
    (hk : ∀ i m nx n, J i m nx → (r, tupObj vs n) ∈ news → (r, tupObj vs n) ∈ nx) (hj : J 0 m₀ news)
    (turn : ∀ I i v m₁ news₁ h tk oI, (∀ p ∈ news, p.1 < I) → vs[i]? = some v → J i m₁ news₁ → (∀ p ∈ news₁, p.1 ≠ I) → Fr h₀ env.locals h (fun y => if y = x then some v else m₁ y) → News h₀ env.locals h ((I, oI) :: news₁) →
      wpAny (model prog w) A (execs body env) (MyTurnPost h₀ env.locals I oI (J (i + 1)) { s with heap := h, toks := tk } Q) E { s with heap := h, toks := tk })
    (done : ∀ m₁ news₁ h tk, J vs.length m₁ news₁ → Fr h₀ env.locals h m₁ → News h₀ env.locals h news₁ → Q .next { s with heap := h, toks := tk }) :
    wpAny (model prog w) A (pyIter (.ref r)) (fun it s₂ => LoopAtV prog w A h₀ env x body Q E it s₂) E s := by
  obtain ⟨k, hr⟩ := hr
  have hg : s.heap.get? r = some (tupObj vs k) := by
    rcases hr with hr | hr
    · exact (N _ hr).1
    · exact F.keep _ _ (X _ _ hr)
  have hrL : r ≠ env.locals := by
    rcases hr with hr | hr
    · exact (N _ hr).2.1
    · intro e
      have e1 := X _ _ hr
      obtain ⟨oL, es, ep, hL, hLd, hLk, hLf⟩ := F.ns
      rw [e] at e1
      have e2 := F.keep _ _ e1
      rw [hL] at e2
      cases e2
      cases hLd
  have ht : s.heap.IsTuple r vs.toArray := ⟨_, hg, rfl, k, rfl⟩
  have hlt : r < s.heap.objs.size := Heap.lt_size hg
  refine wpAny_pyIter_tuple ht ?_
  have W := Walks.tuple (prog := prog) (w := w) hh s.heap.objs.size r (Nat.ne_of_lt hlt) vs.toArray
  rw [show vs.toArray.size = vs.length from by simp] at W
  refine ⟨s.heap.objs.size, _, [s.heap.objs.size], vs.length, _, _, m₀, news, J, rfl, W, ?_, ?_, ?_, ?_,
    F.keeps fun _ _ e => Heap.get?_push_of_some _ e, N.grown fun _ _ e => Heap.get?_push_of_some _ e, hj, ?_, ?_⟩
  · intro hm
    rcases List.mem_cons.mp hm with e | hm
    · exact absurd F.ns.lt (e ▸ Nat.lt_irrefl _)
    · exact hrL (List.mem_singleton.mp hm).symm
  · intro b hb
    rw [List.mem_singleton.mp hb]; exact next_is_new F
  · intro p hp hq
    exact absurd (Heap.lt_size (N p hp).1) (by rw [List.mem_singleton.mp hq]; exact Nat.lt_irrefl _)
  · exact ⟨⟨_, Heap.get?_push_size _ rfl, rfl, rfl⟩, ⟨_, Heap.get?_push_of_some _ hg, rfl, k, rfl⟩⟩
  · rintro i v m₁ news₁ s₁ own ⟨hh', tk', rfl⟩ hin hP hJ hoff hown hget hall hst₁ F₁ N₁
    obtain ⟨oI, hoI, hoI2⟩ := hst₁.1
    have hIo' : (s.heap.objs.size, oI) ∈ own := hall _ (List.mem_cons_self ..) (next_is_new F) oI hoI
    have hnI' : ∀ p ∈ news₁, p.1 ≠ s.heap.objs.size := fun p hp q => hoff p hp (List.mem_singleton.mpr q)
    refine wpAny_mono (turn s.heap.objs.size i v m₁ news₁ hh' tk' oI (fun p hp => Heap.lt_size (N p hp).1) (by simpa using hP) hJ hnI' F₁ (fun p hp => ?_)) (fun f s₂ p => ?_) fun _ _ e => e
    · rcases List.mem_cons.mp hp with rfl | hp
      · exact N₁ _ (List.mem_append_left _ hIo')
      · exact N₁ _ (List.mem_append_right _ hp)
    · have fin : MyTurnEnd h₀ env.locals s.heap.objs.size oI (J (i + 1)) { s with heap := hh', toks := tk' } s₂ → LoopStepU h₀ env.locals [s.heap.objs.size] own (J (i + 1)) { s with heap := hh', toks := tk' } .next s₂ := by
        rintro ⟨h', tk, m', nx, e, F', N', off, hm⟩
        refine ⟨rfl, h', tk, m', nx, e, F', fun p hp => ?_, fun p hp hq => off p hp (List.mem_singleton.mp hq), hm⟩
        rcases List.mem_append.mp hp with hp | hp
        · rcases List.mem_cons.mp (hown p hp) with q | q
          · have e1 := hget p hp
            have e2 : (Shared.heap { s with heap := hh', toks := tk' }).get? s.heap.objs.size = some oI := hoI
            rw [q, e2] at e1
            have : p = (s.heap.objs.size, oI) := by rw [← q]; exact Prod.ext rfl (Option.some.inj e1).symm
            rw [this]
            exact N' _ (List.mem_cons_self ..)
          · have q := List.mem_singleton.mp q
            rcases hr with hr | hr
            · have e1 := hget p hp
              have e2 := (N₁ _ (List.mem_append_right own (hk _ _ _ _ hJ hr))).1
              have e2' : (Shared.heap { s with heap := hh', toks := tk' }).get? r = some (tupObj vs k) := e2
              rw [q, e2'] at e1
              have : p = (r, tupObj vs k) := by rw [← q]; exact Prod.ext rfl (Option.some.inj e1).symm
              rw [this]
              exact N' _ (List.mem_cons_of_mem _ (hk _ _ _ _ hm hr))
            · exfalso
              have e1 := (N₁ p (List.mem_append_left _ hp)).2.2
              rw [q, X _ _ hr] at e1
              cases e1
        · exact N' _ (List.mem_cons_of_mem _ hp)
      cases f with
      | ret v => exact .ret p
      | brk => exact .brk p
      | next => exact .next (fin p)
      | cont => exact .cont (fin p)
  · rintro h' tk m' news' F' N' _ hJ
    exact done m' news' h' tk hJ F' N'
end
theorem AllLt.mem {d : Addr} {l : List (Addr × Obj)} (h : AllLt d l) : ∀ p ∈ l, @LT.lt Nat _ p.1 d := fun p hp => allLt_mem l h p hp
theorem lt_cons {a d : Addr} {o : Obj} {l : List (Addr × Obj)} (h1 : @LT.lt Nat _ a d) (h2 : ∀ p ∈ l, @LT.lt Nat _ p.1 d) : ∀ p ∈ (a, o) :: l, @LT.lt Nat _ p.1 d := fun p hp => by
  rcases List.mem_cons.mp hp with rfl | hp
  · exact h1
  · exact h2 p hp
set_option maxHeartbeats 2000000 in
theorem c_unrep1 (w : World) (b : Array UInt8) (tb : Tok) (ks : List Int) (led : List (Addr × Obj)) (hb : KBw.bInts b = ks) (hlen : ks.length ≤ 70000) (h8 : 8 ≤ ks.length) (hS : wsum ks ks.length % 65535 = 0) (hS0 : 0 < wsum ks ks.length) (hk0 : nth ks 0 = 18) :
    Ctr w 50 400 (.ref 215) [.bytes b tb] led (fun v l' => ∃ x, v = .ref x ∧ Adds led l' ∧ IsMsg w l' x (Str.ofString "report") (g4 ks 4) 0 [] 1 []) := by
  have hk1 : ks.getD (Int.toNat 0) 0 = 18 := hk0
  refine' Ctr.body (binds := [(Str.ofString "octets", Value.bytes b tb)]) ?z8o ?z8c ?z8b ?z8l ?z8k ?_
  case z8o => k_is
  case z8c => k_is
  case z8b => exact fun _ => BindsTo.of_eq (by kernel_rfl)
  case z8l => kernel_rfl
  case z8k => kernel_rfl
  intro mean mg mb dp un gd outer A₀ base g1 L1 hp1 gsq drq tkq osq Q E B1 F1 X1 N1 T1 hdp hun hret hE9
  intro _ _ _
  k_extra "m my_walk"
  k_extra "m my_for"
  k_extra "m my_walk"
  rename_i D7 h7 F7 N7 l7
  k_dflt (refine for_tupleL (vs := [Value.int 1 _, Value.int 2 _]) (news := (D7, tupObj [Value.int 1 _, Value.int 2 _] 0) :: led) (fun j m1 news => news = (D7, tupObj [Value.int 1 _, Value.int 2 _] 0) :: led ∧ j ≤ 0 ∧ (∃ t, m1 (Str.ofString "kind") = some (.int (ks.getD (Int.toNat 0) 0) t)) ∧ m1 (Str.ofString "octets") = some (.bytes b tb)) (by rfl) F7 X1 N7 ⟨0, .inl (.head _)⟩ (fun i m nx n hJ hp => hJ.1 ▸ hp) ⟨rfl, by omega, ⟨_, rfl⟩, rfl⟩ ?_ ?_)
  · intro I j v m1 news h tk oI hI hv hJ off F' N'
    (try dsimp only)
    k_extra "m my_fq"
    obtain ⟨rfl, hj, ⟨tkd, hm1⟩, hm2⟩ := hJ
    have F2 := fr_set (x := Str.ofString "octets") (fr_set (x := Str.ofString "kind") F' hm1) hm2
    clear F'
    rcases (by omega : j = 0) with rfl
    · obtain rfl : v = Value.int 1 _ := (Option.some.inj hv).symm
      k_extra "m my_walk"
      rename_i D9 h9 F9 N9 l9 _
      (((k_extra "m my_fq"); k_dflt (refine' (Ctr.use (c_msg5T _ _ _ _ _ _ _ _ [] [] _ _ _ ?q1 .nil)) ?z9k1 ?z9k2 ?z9k3 ?z9k4 ?z9k5 ?z9k6 ?z9k7 ?z9k8 ?_; (case z9k1 => k_asm); (case z9k2 => k_asm); (case z9k3 => k_asm); (case z9k4 => k_asm); (case z9k5 => k_asm); (case z9k6 => first | exact rfl | assumption); (case z9k7 => k_extra "m my_rm"); (case z9k8 => k_extra "m my_rm"))))
      case q1 => exact ⟨0, .inl (.head _)⟩
      k_whole
      intro v8 l8 h8 tk8 hP8 F8 N8
      obtain ⟨x8, rfl, hA8, hM8⟩ := hP8
      (try dsimp only)
      k_extra "m my_walk"
      (try dsimp only)
      (try (k_unfold; (try dsimp only)))
      (try (with_reducible_and_instances unfold MyTurnPost))
      dsimp only
      k_extra "m my_walk"
      exact hret _ _ _ _ ⟨_, rfl, ((hA8.drop (lt_cons l9.1 (lt_cons l9.2.1 (allLt_mem _ l9.2.2)))).drop hI).drop l7, hM8⟩ (by k_asm) (by k_asm)
  · intro m1 news h tk hJ F' N'
    exact absurd hJ.2.1 (by show ¬ (2 ≤ 0); decide)
set_option maxHeartbeats 2000000 in
theorem c_unrep2 (w : World) (b : Array UInt8) (tb : Tok) (ks : List Int) (led : List (Addr × Obj)) (hb : KBw.bInts b = ks) (hlen : ks.length ≤ 70000) (h8 : 8 ≤ ks.length) (hS : wsum ks ks.length % 65535 = 0) (hS0 : 0 < wsum ks ks.length) (hk0 : nth ks 0 = 22) :
    Ctr w 50 400 (.ref 215) [.bytes b tb] led (fun v l' => ∃ x, v = .ref x ∧ Adds led l' ∧ IsMsg w l' x (Str.ofString "report") (g4 ks 4) 0 [] 2 []) := by
  have hk1 : ks.getD (Int.toNat 0) 0 = 22 := hk0
  refine' Ctr.body (binds := [(Str.ofString "octets", Value.bytes b tb)]) ?z8o ?z8c ?z8b ?z8l ?z8k ?_
  case z8o => k_is
  case z8c => k_is
  case z8b => exact fun _ => BindsTo.of_eq (by kernel_rfl)
  case z8l => kernel_rfl
  case z8k => kernel_rfl
  intro mean mg mb dp un gd outer A₀ base g1 L1 hp1 gsq drq tkq osq Q E B1 F1 X1 N1 T1 hdp hun hret hE9
  intro _ _ _
  k_extra "m my_walk"
  k_extra "m my_for"
  k_extra "m my_walk"
  rename_i D7 h7 F7 N7 l7
  k_dflt (refine for_tupleL (vs := [Value.int 1 _, Value.int 2 _]) (news := (D7, tupObj [Value.int 1 _, Value.int 2 _] 0) :: led) (fun j m1 news => news = (D7, tupObj [Value.int 1 _, Value.int 2 _] 0) :: led ∧ j ≤ 1 ∧ (∃ t, m1 (Str.ofString "kind") = some (.int (ks.getD (Int.toNat 0) 0) t)) ∧ m1 (Str.ofString "octets") = some (.bytes b tb)) (by rfl) F7 X1 N7 ⟨0, .inl (.head _)⟩ (fun i m nx n hJ hp => hJ.1 ▸ hp) ⟨rfl, by omega, ⟨_, rfl⟩, rfl⟩ ?_ ?_)
  · intro I j v m1 news h tk oI hI hv hJ off F' N'
    (try dsimp only)
    k_extra "m my_fq"
    obtain ⟨rfl, hj, ⟨tkd, hm1⟩, hm2⟩ := hJ
    have F2 := fr_set (x := Str.ofString "octets") (fr_set (x := Str.ofString "kind") F' hm1) hm2
    clear F'
    rcases (by omega : j = 0 ∨ j = 1) with rfl | rfl
    · obtain rfl : v = Value.int 1 _ := (Option.some.inj hv).symm
      k_extra "m my_walk"
      exact turn_next (by k_asm) (by k_asm) (fun _ h => h) off ⟨rfl, by omega, ⟨_, rfl⟩, rfl⟩
    · obtain rfl : v = Value.int 2 _ := (Option.some.inj hv).symm
      k_extra "m my_walk"
      rename_i D9 h9 F9 N9 l9 _
      (((k_extra "m my_fq"); k_dflt (refine' (Ctr.use (c_msg5T _ _ _ _ _ _ _ _ [] [] _ _ _ ?q1 .nil)) ?z9k1 ?z9k2 ?z9k3 ?z9k4 ?z9k5 ?z9k6 ?z9k7 ?z9k8 ?_; (case z9k1 => k_asm); (case z9k2 => k_asm); (case z9k3 => k_asm); (case z9k4 => k_asm); (case z9k5 => k_asm); (case z9k6 => first | exact rfl | assumption); (case z9k7 => k_extra "m my_rm"); (case z9k8 => k_extra "m my_rm"))))
      case q1 => exact ⟨0, .inl (.head _)⟩
      k_whole
      intro v8 l8 h8 tk8 hP8 F8 N8
      obtain ⟨x8, rfl, hA8, hM8⟩ := hP8
      (try dsimp only)
      k_extra "m my_walk"
      (try dsimp only)
      (try (k_unfold; (try dsimp only)))
      (try (with_reducible_and_instances unfold MyTurnPost))
      dsimp only
      k_extra "m my_walk"
      exact hret _ _ _ _ ⟨_, rfl, ((hA8.drop (lt_cons l9.1 (lt_cons l9.2.1 (allLt_mem _ l9.2.2)))).drop hI).drop l7, hM8⟩ (by k_asm) (by k_asm)
  · intro m1 news h tk hJ F' N'
    exact absurd hJ.2.1 (by show ¬ (2 ≤ 1); decide)
end

theorem rows_12 : True := by
  k_with "m my_stop" => (
  (fail_if_success (with_reducible show wpAny _ _ (eval (Expr.ListComp _ _ _ _) _) _ _ _))
  (fail_if_success (with_reducible show wpAny _ _ (pyIter _) _ _ _))
  (fail_if_success (with_reducible show wpAny _ _ (exec (Stmt.For _ _ _ _ _) _) _ _ _))
  (fail_if_success (with_reducible show wpAny _ _ (exec (Stmt.While _ _ _ _) _) _ _ _)))
  k_with "m my_stop" => (
  (fail_if_success (with_reducible show wpAny _ _ (eval (Expr.ListComp _ _ _ _) _) _ _ _))
  (fail_if_success (with_reducible show wpAny _ _ (pyIter _) _ _ _))
  (fail_if_success (with_reducible show wpAny _ _ (exec (Stmt.For _ _ _ _ _) _) _ _ _))
  (fail_if_success (with_reducible show wpAny _ _ (exec (Stmt.While _ _ _ _) _) _ _ _))
  (fail_if_success (with_reducible show wpAny _ _ (call (Value.ref 153) _) _ _ _))
  (fail_if_success (with_reducible show wpAny _ _ (call (Value.ref 182) _) _ _ _))
  (fail_if_success (with_reducible show wpAny _ _ (call (Value.ref 208) _) _ _ _)))
  k_with "m call ref" => ((with_reducible show wpAny _ _ (call (Value.ref 229) [Value.bytes _ _]) _ _ _); (((((k_extra "m my_fq"); k_dflt (refine' (Ctr.use (c_urecords _ _ _ _ _ _ (by assumption) (by assumption) (by assumption) (by assumption) (by assumption) (by assumption) (by assumption))) ?z9k1 ?z9k2 ?z9k3 ?z9k4 ?z9k5 ?z9k6 ?z9k7 ?z9k8 ?_; (case z9k1 => k_asm); (case z9k2 => k_asm); (case z9k3 => k_asm); (case z9k4 => k_asm); (case z9k5 => k_asm); (case z9k6 => first | exact rfl | assumption); (case z9k7 => k_extra "m my_rm"); (case z9k8 => k_extra "m my_rm"))); k_whole))); intro _ _ _ _ hP8 _ _; obtain ⟨_, e8, _, _⟩ := hP8; subst e8; (try dsimp only))
  trivial

section
noncomputable def placeAt (ks : List Int) : Nat → Int
  | 0 => 8
  | i + 1 => placeAt ks i + (8 + 4 * g2 ks (placeAt ks i + 2) + 4 * nth ks (placeAt ks i + 1))
noncomputable def recAt (ks : List Int) (i : Nat) : Int × Int × List Int := (nth ks (placeAt ks i), g4 ks (placeAt ks i + 4), srcsAt ks (placeAt ks i + 8) (g2 ks (placeAt ks i + 2)).toNat)
def RecOk (ks : List Int) (i : Nat) : Prop := 8 ≤ placeAt ks i ∧ 0 ≤ g2 ks (placeAt ks i + 2) ∧ g2 ks (placeAt ks i + 2) ≤ 1000 ∧ 1 ≤ nth ks (placeAt ks i) ∧ nth ks (placeAt ks i) ≤ 6 ∧ placeAt ks i + 8 + 4 * g2 ks (placeAt ks i + 2) ≤ ks.length
theorem RecsAre.snoc {w : World} {l : List (Addr × Obj)} {vs : List Value} {rs : List (Int × Int × List Int)} {x : Addr} {k g : Int} {ns : List Int} (h : RecsAre w l vs rs) (h2 : IsRec w l x k g ns) : RecsAre w l (vs ++ [.ref x]) (rs ++ [(k, g, ns)]) := by
  induction h with
  | nil => exact .cons h2 .nil
  | cons a _ ih => exact .cons a ih
theorem Adds.sub {led l : List (Addr × Obj)} (h : Adds led l) : ∀ p ∈ led, p ∈ l := by
  obtain ⟨tl, _, rfl⟩ := h
  exact fun p hp => List.mem_append_right _ hp
theorem Adds.cons {led l : List (Addr × Obj)} {D : Addr} {o : Obj} (h : Adds led l) (h1 : ∀ q ∈ led, @LT.lt Nat _ q.1 D) : Adds led ((D, o) :: l) := by
  obtain ⟨tl, a, rfl⟩ := h
  exact ⟨(D, o) :: tl, fun q hq p hp => (List.mem_cons.mp hp).elim (fun e => by rw [e]; exact h1 q hq) (fun e => a q hq p e), rfl⟩
theorem Adds.app {led l t : List (Addr × Obj)} (h : Adds led l) (h1 : ∀ q ∈ led, ∀ p ∈ t, @LT.lt Nat _ q.1 p.1) : Adds led (t ++ l) := by
  obtain ⟨tl, a, rfl⟩ := h
  exact ⟨t ++ tl, fun q hq p hp => (List.mem_append.mp hp).elim (fun e => h1 q hq p e) (fun e => a q hq p e), by rw [List.append_assoc]⟩
theorem Adds.refl (led : List (Addr × Obj)) : Adds led led := ⟨[], (fun _ _ _ hp => nomatch hp), rfl⟩
section
variable {prog : Program} {w : World} {A : Around} {E : Value → Shared → Prop} {s : Shared} {env : Env} {h₀ : Heap} {x : Str} {body : List Stmt} {Q : Flow → Shared → Prop}
theorem for_rangeL {r : Addr} {a b c : Int} {t u v : Tok} {n : Nat} {m₀ : Str → Option Value} {news : List (Addr × Obj)} (J : Nat → (Str → Option Value) → List (Addr × Obj) → Prop)
    (hh : A.handled = none) (F : Fr h₀ env.locals s.heap m₀) (N : News h₀ env.locals s.heap news) (hr : IsRange s.heap r a b c t u v) (hsm : Builtin.Range.small a b c = true) (hn : Builtin.Range.rangeSize a b c = ((n : Nat) : Int))
    (hj : J 0 m₀ news)
    (turn : ∀ I i t m₁ news₁ h tk oI, (∀ p ∈ news, p.1 < I) → oI.cls = .type "range_iterator" → i < n → J i m₁ news₁ → (∀ p ∈ news₁, p.1 ≠ I) → Fr h₀ env.locals h (fun y => if y = x then some (.int (a + (i : Int) * c) t) else m₁ y) → News h₀ env.locals h ((I, oI) :: news₁) →
      wpAny (model prog w) A (execs body env) (MyTurnPost h₀ env.locals I oI (J (i + 1)) { s with heap := h, toks := tk } Q) E { s with heap := h, toks := tk })
    (done : ∀ m₁ news₁ h tk, J n m₁ news₁ → Fr h₀ env.locals h m₁ → News h₀ env.locals h news₁ → Q .next { s with heap := h, toks := tk }) :
    wpAny (model prog w) A (pyIter (.ref r)) (fun it s₂ => LoopAtV prog w A h₀ env x body Q E it s₂) E s := by
  refine wpAny_pyIter_range hr hsm ?_
  refine ⟨s.heap.objs.size, _, [s.heap.objs.size], n, _, _, m₀, news, J, rfl, Walks.range hh s.heap.objs.size a c n, ?_, ?_, ?_, ?_,
    F.keeps fun _ _ e => Heap.get?_push_of_some _ e, N.grown fun _ _ e => Heap.get?_push_of_some _ e, hj, ?_, ?_⟩
  · intro hm
    exact absurd F.ns.lt ((List.mem_singleton.mp hm) ▸ Nat.lt_irrefl _)
  · intro b hb
    rw [List.mem_singleton.mp hb]; exact next_is_new F
  · intro p hp hq
    exact absurd (Heap.lt_size (N p hp).1) (by rw [List.mem_singleton.mp hq]; exact Nat.lt_irrefl _)
  · show IsRangeIter _ _ _ _ _
    rw [hn]; simpa using Heap.get?_push_size _ rfl
  · rintro i v m₁ news₁ s₁ own ⟨hh', tk', rfl⟩ hin ⟨t, rfl⟩ hJ hoff hown hget hall hst₁ F₁ N₁
    obtain ⟨oI, hoI, hoI2⟩ : ∃ oI, (Shared.heap { s with heap := hh', toks := tk' }).get? s.heap.objs.size = some oI ∧ oI.cls = .type "range_iterator" := ⟨_, hst₁, rfl⟩
    have hIo' : (s.heap.objs.size, oI) ∈ own := hall _ (List.mem_singleton.mpr rfl) (next_is_new F) oI hoI
    have hnI' : ∀ p ∈ news₁, p.1 ≠ s.heap.objs.size := fun p hp q => hoff p hp (List.mem_singleton.mpr q)
    refine wpAny_mono (turn s.heap.objs.size i t m₁ news₁ hh' tk' oI (fun p hp => Heap.lt_size (N p hp).1) hoI2 hin hJ hnI' F₁ (fun p hp => ?_)) (fun f s₂ p => ?_) fun _ _ e => e
    · rcases List.mem_cons.mp hp with rfl | hp
      · exact N₁ _ (List.mem_append_left _ hIo')
      · exact N₁ _ (List.mem_append_right _ hp)
    · have fin : MyTurnEnd h₀ env.locals s.heap.objs.size oI (J (i + 1)) { s with heap := hh', toks := tk' } s₂ → LoopStepU h₀ env.locals [s.heap.objs.size] own (J (i + 1)) { s with heap := hh', toks := tk' } .next s₂ := by
        rintro ⟨h', tk, m', nx, e, F', N', off, hm⟩
        refine ⟨rfl, h', tk, m', nx, e, F', fun p hp => ?_, fun p hp hq => off p hp (List.mem_singleton.mp hq), hm⟩
        rcases List.mem_append.mp hp with hp | hp
        · have q := List.mem_singleton.mp (hown p hp)
          have e1 := hget p hp
          rw [q, hoI] at e1
          have : p = (s.heap.objs.size, oI) := by rw [← q]; exact Prod.ext rfl (Option.some.inj e1).symm
          rw [this]
          exact N' _ (List.mem_cons_self ..)
        · exact N' _ (List.mem_cons_of_mem _ hp)
      cases f with
      | ret v => exact .ret p
      | brk => exact .brk p
      | next => exact .next (fin p)
      | cont => exact .cont (fin p)
  · rintro h' tk m' news' F' N' _ hJ
    exact done m' news' h' tk hJ F' N'
end
theorem strip_mem {t r : List (Addr × Obj)} {a : Addr} {oa : Obj} {p : Addr × Obj} (h : p ∈ t ++ (a, oa) :: r) (hc : p.2.cls ≠ oa.cls) : p ∈ t ++ r := by
  rcases List.mem_append.mp h with h | h
  · exact List.mem_append_left _ h
  · rcases List.mem_cons.mp h with rfl | h
    · exact absurd rfl hc
    · exact List.mem_append_right _ h
theorem IsRec.strip {w : World} {t r : List (Addr × Obj)} {a : Addr} {oa : Obj} {x : Addr} {k g : Int} {ns : List Int} (h : IsRec w (t ++ (a, oa) :: r) x k g ns) (h1 : oa.cls ≠ .ref 153) (h2 : oa.cls ≠ .type "dict") (h3 : oa.cls ≠ .type "tuple") : IsRec w (t ++ r) x k g ns := by
  obtain ⟨d, T, vs, u1, u2, u3, t1, t2, a1, b1, ⟨n, c1⟩, e1⟩ := h
  exact ⟨d, T, vs, u1, u2, u3, t1, t2, strip_mem a1 (Ne.symm h1), strip_mem b1 (Ne.symm h2), ⟨n, c1.imp (fun c => strip_mem c (Ne.symm h3)) id⟩, e1⟩
set_option maxHeartbeats 2000000 in
theorem c_urecords (w : World) (b : Array UInt8) (tb : Tok) (ks : List Int) (n : Nat) (led : List (Addr × Obj)) (hb : KBw.bInts b = ks) (hlen : ks.length ≤ 70000) (h8 : 8 ≤ ks.length) (hn : g2 ks 6 = n) (hn1 : n ≤ 100) (hok : ∀ i, i < n → RecOk ks i) (hend : placeAt ks n ≤ ks.length) :
    Ctr w 40 300 (.ref 229) [.bytes b tb] led (fun v l' => ∃ x, v = .ref x ∧ Adds led l' ∧ IsMsg w l' x (Str.ofString "report") 0 0 [] 3 ((List.range n).map (recAt ks))) := by
  refine' Ctr.body (binds := [(Str.ofString "octets", Value.bytes b tb)]) ?z8o ?z8c ?z8b ?z8l ?z8k ?_
  case z8o => k_is
  case z8c => k_is
  case z8b => exact fun _ => BindsTo.of_eq (by kernel_rfl)
  case z8l => kernel_rfl
  case z8k => kernel_rfl
  intro mean mg mb dp un gd outer A₀ base g1 L1 hp1 gsq drq tkq osq Q E B1 F1 X1 N1 T1 hdp hun hret hE9
  intro _ _ _
  k_extra "m my_walk"
  k_extra "m my_for"
  k_extra "m my_walk"
  rename_i FD hh5 lt1 _ _ _ DD hh4 lt2 hh3 _ hh2 _ hh1 FA NA _ _ h8a tk8a FB t8a NB _ hF tkF t1 u1 v1 IR FF NF KK
  rw [hn] at *
  k_dflt (refine for_rangeL (n := n) (news := (FD, PySem.W.listOf (([] : List Value)).toArray 0) :: led) (fun j m1 news => ∃ rv nn tl, news = (FD, PySem.W.listOf (rv : List Value).toArray nn) :: tl ∧ Adds led tl ∧ (∀ p ∈ tl, p.1 ≠ FD) ∧ RecsAre w tl rv ((List.range j).map (recAt ks)) ∧ rv.length = j ∧ (∃ t, m1 (Str.ofString "place") = some (.int (placeAt ks j) t)) ∧ m1 (Str.ofString "found") = some (.ref FD) ∧ m1 (Str.ofString "octets") = some (.bytes b tb)) (by rfl) FF (cb_drop NF (by k_extra "m my_sub")) IR ?_ ?_ ⟨[], 0, led, rfl, Adds.refl _, fun p hp => Nat.ne_of_lt (lt1 p hp), .nil, rfl, ⟨_, rfl⟩, rfl, rfl⟩ ?_ ?_)
  · exact small_one (by omega) (by omega) (by omega) (by omega)
  · rw [rangeSize_one]; split <;> omega
  · intro I j t m1 news h tk oI hI hoI hj hJ off F' N'
    (try dsimp only)
    k_extra "m my_fq"
    obtain ⟨rv, nn, tl, rfl, hA, hsep, hrs, hrl, ⟨tp, hm1⟩, hm2, hm3⟩ := hJ
    obtain ⟨r1, r2, r3, r4, r5, r6⟩ := hok j hj
    have r4' : 1 ≤ ks.getD (placeAt ks j).toNat 0 := r4
    have r5' : ks.getD (placeAt ks j).toNat 0 ≤ 6 := r5
    have F2 := fr_set (x := Str.ofString "octets") (fr_set (x := Str.ofString "found") (fr_set (x := Str.ofString "place") F' hm1) hm2) hm3
    clear F'
    k_extra "m my_fold"
    k_extra "m my_walk"
    ((((k_extra "m my_fq"); k_dflt (refine' (Ctr.use (c_sources _ _ _ _ _ _ _ _ _ hb hlen (by omega) r2 r3 (by omega))) ?z9k1 ?z9k2 ?z9k3 ?z9k4 ?z9k5 ?z9k6 ?z9k7 ?z9k8 ?_; (case z9k1 => k_asm); (case z9k2 => k_asm); (case z9k3 => k_asm); (case z9k4 => k_asm); (case z9k5 => k_asm); (case z9k6 => first | exact rfl | assumption); (case z9k7 => k_extra "m my_rm"); (case z9k8 => k_extra "m my_rm"))); k_whole))
    intro v8 l8 h8 tk8 hP8 F8 N8
    obtain ⟨T8, vs8, rfl, ⟨t8, hlt8, rfl⟩, hT8, hi8⟩ := hP8
    (try dsimp only)
    have N8' : News g1 _ h8 ((FD, PySem.W.listOf rv.toArray nn) :: (I, oI) :: (t8 ++ tl)) := fun p hp => N8 p (by simp only [List.mem_cons, List.mem_append] at hp ⊢; rcases hp with hp | hp | hp | hp <;> simp [hp])
    have hT8' : TupIn w ((FD, PySem.W.listOf rv.toArray nn) :: (I, oI) :: (t8 ++ tl)) T8 vs8 := hT8.mono fun p hp => by simp only [List.mem_cons, List.mem_append] at hp ⊢; rcases hp with hp | hp | hp | hp <;> simp [hp]
    have hs8 : ∀ p ∈ (I, oI) :: (t8 ++ tl), p.1 ≠ FD := fun p hp => by
      rcases List.mem_cons.mp hp with rfl | hp
      · exact fun e => off _ (.head _) e.symm
      · rcases List.mem_append.mp hp with hp | hp
        · exact Nat.ne_of_gt (hlt8 (FD, PySem.W.listOf rv.toArray nn) (List.mem_cons_of_mem _ (List.mem_cons_self ..)) p hp)
        · exact hsep p hp
    clear N8 hT8
    k_extra "m my_walk"
    ((((k_extra "m my_fq"); k_dflt (refine' (Ctr.use (c_recT _ _ _ _ _ _ _ _ _ hT8' hi8)) ?z9k1 ?z9k2 ?z9k3 ?z9k4 ?z9k5 ?z9k6 ?z9k7 ?z9k8 ?_; (case z9k1 => k_asm); (case z9k2 => k_asm); (case z9k3 => k_asm); (case z9k4 => k_asm); (case z9k5 => k_asm); (case z9k6 => first | exact rfl | assumption); (case z9k7 => k_extra "m my_rm"); (case z9k8 => k_extra "m my_rm"))); k_whole))
    intro v9 l9 h9 tk9 hP9 F9 N9
    obtain ⟨x9, rfl, ⟨t9, hlt9, rfl⟩, hR9⟩ := hP9
    (try dsimp only)
    have N9' : News g1 _ h9 ((FD, PySem.W.listOf rv.toArray nn) :: (I, oI) :: (t9 ++ (t8 ++ tl))) := fun p hp => N9 p (by simp only [List.mem_cons, List.mem_append] at hp ⊢; rcases hp with hp | hp | hp | hp | hp <;> simp [hp])
    have hs9 : ∀ p ∈ (I, oI) :: (t9 ++ (t8 ++ tl)), p.1 ≠ FD := fun p hp => by
      rcases List.mem_cons.mp hp with rfl | hp
      · exact hs8 _ (List.mem_cons_self ..)
      · rcases List.mem_append.mp hp with hp | hp
        · exact Nat.ne_of_gt (hlt9 (FD, PySem.W.listOf rv.toArray nn) (List.mem_cons_self ..) p hp)
        · exact hs8 p (List.mem_cons_of_mem _ hp)
    clear N9
    k_extra "m my_walk"
    (with_reducible rename Fr _ _ _ _ => F9)
    (with_reducible rename News _ _ _ _ => N9)
    have ea : rv.toArray.push (Value.ref x9) = (rv ++ [Value.ref x9]).toArray := by simp
    rw [ea] at N9
    have hR := (hR9.strip (by show Value.type "list" ≠ _; decide) (by show Value.type "list" ≠ _; decide) (by show Value.type "list" ≠ _; decide)).strip (by rw [hoI]; decide) (by rw [hoI]; decide) (by rw [hoI]; decide)
    have hrs' : RecsAre w (t9 ++ (t8 ++ tl)) (rv ++ [.ref x9]) ((List.range (j + 1)).map (recAt ks)) := by
      rw [List.range_succ, List.map_append]
      exact (hrs.mono (fun p hp => List.mem_append_right _ (List.mem_append_right _ hp))).snoc hR
    have hA' : Adds led (t9 ++ (t8 ++ tl)) := (hA.app (fun q hq p hp => hlt8 q (.tail _ (.tail _ (hA.sub q hq))) p hp)).app (fun q hq p hp => hlt9 q (.tail _ (.tail _ (List.mem_append_right _ (hA.sub q hq)))) p hp)
    have hoff : ∀ p ∈ (FD, PySem.W.listOf (rv ++ [Value.ref x9]).toArray (nn + 1)) :: (t9 ++ (t8 ++ tl)), p.1 ≠ I := fun p hp => by
      rcases List.mem_cons.mp hp with rfl | hp
      · exact off (FD, PySem.W.listOf rv.toArray nn) (List.mem_cons_self ..)
      · rcases List.mem_append.mp hp with hp | hp
        · exact Nat.ne_of_gt (hlt9 (I, oI) (.tail _ (.head _)) p hp)
        · rcases List.mem_append.mp hp with hp | hp
          · exact Nat.ne_of_gt (hlt8 (I, oI) (.head _) p hp)
          · exact off _ (.tail _ hp)
    exact turn_next F9 N9 (fun p hp => by simp only [List.mem_cons, List.mem_append] at hp ⊢; rcases hp with hp | hp | hp | hp | hp <;> simp [hp]) hoff ⟨_, _, _, rfl, hA', fun p hp => hs9 p (.tail _ hp), hrs', by rw [List.length_append, hrl]; rfl, ⟨_, rfl⟩, rfl, rfl⟩
  · intro m1 news h tk hJ F' N'
    obtain ⟨rv, nn, tl, rfl, hA, hsep, hrs, hrl, ⟨tp, hm1⟩, hm2, hm3⟩ := hJ
    have F2 := fr_set (x := Str.ofString "octets") (fr_set (x := Str.ofString "found") (fr_set (x := Str.ofString "place") F' hm1) hm2) hm3
    clear F'
    dsimp only
    k_extra "m my_walk"
    rename_i D9 h9 F9 N9 l9 _
    (((k_extra "m my_fq"); k_dflt (refine' (Ctr.use (c_msg6 _ _ _ _ _ _ _ _ [] [] _ _ _ rv nn _ _ ?q1 .nil ?q2 ?q3 ?q4)) ?z9k1 ?z9k2 ?z9k3 ?z9k4 ?z9k5 ?z9k6 ?z9k7 ?z9k8 ?_; (case z9k1 => k_asm); (case z9k2 => k_asm); (case z9k3 => k_asm); (case z9k4 => k_asm); (case z9k5 => k_asm); (case z9k6 => first | exact rfl | assumption); (case z9k7 => k_extra "m my_rm"); (case z9k8 => k_extra "m my_rm"))))
    case q1 => exact ⟨0, .inl (.head _)⟩
    case q2 => exact .tail _ (.head _)
    case q3 => omega
    case q4 => exact hrs.mono (fun p hp => .tail _ (.tail _ hp))
    k_whole
    intro v8 l8 h8 tk8 hP8 F8 N8
    obtain ⟨x8, rfl, hA8, hM8⟩ := hP8
    (try dsimp only)
    k_extra "m my_walk"
    exact hret _ _ _ _ ⟨_, rfl, ((hA.cons lt1).cons (fun q hq => allLt_mem _ l9.2 q (hA.sub q hq))).trans hA8, hM8⟩ (by k_asm) (by k_asm)
set_option maxHeartbeats 2000000 in
theorem c_unrep3 (w : World) (b : Array UInt8) (tb : Tok) (ks : List Int) (n : Nat) (led : List (Addr × Obj)) (hb : KBw.bInts b = ks) (hlen : ks.length ≤ 70000) (h8 : 8 ≤ ks.length) (hn : g2 ks 6 = n) (hn1 : n ≤ 100) (hok : ∀ i, i < n → RecOk ks i) (hend : placeAt ks n ≤ ks.length) (hS : wsum ks ks.length % 65535 = 0) (hS0 : 0 < wsum ks ks.length) (hk0 : nth ks 0 = 34) :
    Ctr w 60 400 (.ref 215) [.bytes b tb] led (fun v l' => ∃ x, v = .ref x ∧ Adds led l' ∧ IsMsg w l' x (Str.ofString "report") 0 0 [] 3 ((List.range n).map (recAt ks))) := by
  have hk1 : ks.getD (Int.toNat 0) 0 = 34 := hk0
  refine' Ctr.body (binds := [(Str.ofString "octets", Value.bytes b tb)]) ?z8o ?z8c ?z8b ?z8l ?z8k ?_
  case z8o => k_is
  case z8c => k_is
  case z8b => exact fun _ => BindsTo.of_eq (by kernel_rfl)
  case z8l => kernel_rfl
  case z8k => kernel_rfl
  intro mean mg mb dp un gd outer A₀ base g1 L1 hp1 gsq drq tkq osq Q E B1 F1 X1 N1 T1 hdp hun hret hE9
  intro _ _ _
  k_extra "m my_walk"
  exact hret _ _ _ _ ⟨_, rfl, by assumption, by assumption⟩ (by k_asm) (by k_asm)
end

theorem rows_13 : True := by
  k_with "m my_stop" => (
  (fail_if_success (with_reducible show wpAny _ _ (eval (Expr.ListComp _ _ _ _) _) _ _ _))
  (fail_if_success (with_reducible show wpAny _ _ (pyIter _) _ _ _))
  (fail_if_success (with_reducible show wpAny _ _ (exec (Stmt.For _ _ _ _ _) _) _ _ _))
  (fail_if_success (with_reducible show wpAny _ _ (exec (Stmt.While _ _ _ _) _) _ _ _)))
  k_with "m call builtin:len" => (k_here; (with_reducible show wpAny _ _ (call (Value.builtin "len") [Value.ref _]) _ _ _); (k_extra "m my_fq"); k_dflt ((with_reducible refine' lenLE ?z9kN ?z9km ?z9ke ?z9kf ?_); (case z9kN => k_asm); (case z9km => first | k_mem | (k_memK; done) | exact List.Mem.tail _ (by assumption)); (case z9ke => eq_refl); (case z9kf => first | omega | k_extra "m my_len")); intro _ _)
  k_with "m call builtin:len" => (k_here; (with_reducible show wpAny _ _ (call (Value.builtin "len") [Value.bytes _ _]) _ _ _); k_dflt ((with_reducible refine' lenB ?z9kN ?z9ke ?z9kf ?_); (case z9kN => k_extra "m my_ints"); (case z9ke => eq_refl); (case z9kf => k_extra "m my_len")))
  k_with "m call builtin:len" => (k_here; (with_reducible show wpAny _ _ (call (Value.builtin "len") [Value.ref _]) _ _ _); k_dflt (refine' my_len_tup ?z9kF ?z9kX ?z9kN ?z9kT ?z9kz ?_; (case z9kF => k_asm); (case z9kX => assumption); (case z9kN => k_asm); (case z9kT => k_extra "m my_tupin"); (case z9kz => omega)); intro _ _)
  k_with "m call ref" => ((with_reducible show wpAny _ _ (call (Value.ref 127) [Value.int (timeOf _) _]) _ _ _); (((k_extra "m my_fq"); k_dflt (refine' (Ctr.eI (c_code _ _ _ _ _ (by omega) (by omega) rfl)) ?z9k1 ?z9k2 ?z9k3 ?z9k4 ?z9k5 ?z9k6 ?z9k7 ?z9k8 ?_; (case z9k1 => k_asm); (case z9k2 => k_asm); (case z9k3 => k_asm); (case z9k4 => k_asm); (case z9k5 => k_asm); (case z9k6 => first | exact rfl | assumption); (case z9k7 => k_extra "m my_rm"); (case z9k8 => k_extra "m my_rm"))); k_whole); intro _ _ _ _ _; (try dsimp only))
  k_with "m my_flat" => (omega)
  trivial

section
section
variable {prog : Program} {w : World} {A : Around} {E : Value → Shared → Prop} {s : Shared} {h₀ : Heap} {L : Addr} {m : Str → Option Value} {env : Env}
theorem comp_tupIn {elt : Expr} {x : Str} {scope : Scope} {cl : List (Str × Addr)} {Q : Value → Shared → Prop} {r : Addr} {vs : List Value} {news : List (Addr × Obj)} (J : Nat → List Value → List (Addr × Obj) → Prop)
    (hh : A.handled = none) (F : Fr h₀ L s.heap m) (X : (kay.heap_1 w.params).In h₀) (N : News h₀ L s.heap news) (hr : TupIn w news r vs) (hsz : vs.length ≤ sizeLine)
    (hj : J 0 [] news)
    (turn : ∀ g, CompTurn prog w A h₀ L m env elt x scope cl { s with heap := g } (fun nw => ∀ p ∈ news, p ∈ nw) (fun i v => vs[i]? = some v) vs.length J)
    (fin : ∀ ys news', ys.length = vs.length → J vs.length ys news' → FinE h₀ L m s Q ys news') :
    wpAny (model prog w) A (pyIter (.ref r)) (CompAt prog w A h₀ L m env elt x scope cl Q) E s := by
  obtain ⟨k, hr⟩ := hr
  have hg : s.heap.get? r = some (tupObj vs k) := by
    rcases hr with hr | hr
    · exact (N _ hr).1
    · exact F.keep _ _ (X _ _ hr)
  have ht : s.heap.IsTuple r vs.toArray := ⟨_, hg, rfl, k, rfl⟩
  have hlt : r < s.heap.objs.size := Heap.lt_size hg
  refine wpAny_pyIter_tuple ht ?_
  have W := Walks.tuple (prog := prog) (w := w) hh s.heap.objs.size r (Nat.ne_of_lt hlt) vs.toArray
  rw [show vs.toArray.size = vs.length from by simp] at W
  refine ⟨s.heap.objs.size, _, vs.length, _, _, (fun nw => ∀ p ∈ news, p ∈ nw), news, J, rfl, W, hsz, fun i h st => by obtain ⟨o, e, _⟩ := st.1; exact ⟨o, e⟩, ?_, ?_, ?_,
    F.keeps fun _ _ e => Heap.get?_push_of_some _ e, N.grown fun _ _ e => Heap.get?_push_of_some _ e, Nat.ne_of_lt F.ns.lt, next_is_new F, fun p hp => Nat.ne_of_lt (Heap.lt_size (N p hp).1), fun _ h => h, hj, ?_, fin⟩
  · intro i h h' o nw st e e' hk N' hS
    refine ⟨?_, ⟨tupObj vs k, ?_, rfl, k, rfl⟩⟩
    · obtain ⟨o', q, r'⟩ := st.1
      rw [e] at q; cases q
      exact ⟨o, e', r'⟩
    · rcases hr with hr | hr
      · exact (N' _ (hS _ hr)).1
      · exact hk _ _ (X _ _ hr)
  · exact ⟨⟨_, Heap.get?_push_size _ rfl, rfl, rfl⟩, ⟨_, Heap.get?_push_of_some _ hg, rfl, k, rfl⟩⟩
  · intro b hb
    show b < (s.heap.push _).objs.size
    rw [Heap.size_push]
    rcases List.mem_cons.mp hb with rfl | hb
    · exact Nat.lt_succ_self _
    · rw [List.mem_singleton.mp hb]; exact Nat.lt_succ_of_lt hlt
  · have := turn (s.heap.push { cls := .type "tuple_iterator", data := .fields #[.ref r, .int 0 0] })
    simpa using this
end
theorem Ctr.more {w : World} {D U : Nat} {f : Value} {args : List Value} {led led' : List (Addr × Obj)} {P : Value → List (Addr × Obj) → Prop} (C : Ctr w D U f args led' P) (h : ∀ p ∈ led', p ∈ led) : Ctr w D U f args led P := by
  refine Ctr.open ?_
  intro mean mg mb dp un gd cn cs a ccd cl outer A₀ base h₀ L m hpq gsq drq tkq osq Q E B F X N T hk hdp hun hret
  exact C _ _ _ _ _ _ _ _ _ _ _ _ _ _ _ _ _ _ _ _ B F X (fun p hp => N p (h p hp)) T hk hdp hun hret
theorem mem2 {a b : Addr × Obj} {led : List (Addr × Obj)} (ha : a ∈ led) (hb : b ∈ led) : ∀ p ∈ a :: b :: led, p ∈ led := fun p hp => by
  rcases List.mem_cons.mp hp with rfl | hp
  · exact ha
  · rcases List.mem_cons.mp hp with rfl | hp
    · exact hb
    · exact hp
def two (x : Int) : List Int := [x / 256, x % 256]
def four (x : Int) : List Int := [x / 16777216, x / 65536 % 256, x / 256 % 256, x % 256]
set_option maxHeartbeats 2000000 in
theorem c_pq1o (w : World) (x d T R : Addr) (u1 u2 u3 u4 u5 u6 t1 t2 t3 t4 : Tok) (kind : Str) (g wait : Int) (led : List (Addr × Obj)) (hg0 : 0 ≤ g) (hg1 : g < 4294967296) (hw0 : 0 ≤ wait) (hw1 : wait ≤ 0) :
    Ctr w 30 200 (.ref 198) [.ref x] ((x, instObj 182 d) :: (d, dictOf [kEn w (Str.ofString "kind") u1 (.str kind t1), kEn w (Str.ofString "group") u2 (.int g t2), kEn w (Str.ofString "wait") u3 (.int wait t3), kEn w (Str.ofString "sources") u4 (.ref T), kEn w (Str.ofString "version") u5 (.int 1 t4), kEn w (Str.ofString "records") u6 (.ref R)] 6) :: led) (fun v l => IsBy v ([17, wait, 0, 0] ++ four g) ∧ led = l) := by
  refine' Ctr.body (binds := [(Str.ofString "message", Value.ref x)]) ?z8o ?z8c ?z8b ?z8l ?z8k ?_
  case z8o => k_is
  case z8c => k_is
  case z8b => exact fun _ => BindsTo.of_eq (by kernel_rfl)
  case z8l => kernel_rfl
  case z8k => kernel_rfl
  intro mean mg mb dp un gd outer A₀ base g1 L1 hp1 gsq drq tkq osq Q E B1 F1 X1 N1 T1 hdp hun hret hE9
  intro _ _ _
  k_extra "m my_walk"
  exact hret _ led _ _ ⟨⟨_, _, rfl, by assumption⟩, rfl⟩ (by k_asm) (by k_extra "m my_news")
theorem c_pq1 (w : World) (x : Addr) (kind : Str) (g wait : Int) (ns : List Int) (rs : List (Int × Int × List Int)) (led : List (Addr × Obj)) (hg0 : 0 ≤ g) (hg1 : g < 4294967296) (hw0 : 0 ≤ wait) (hw1 : wait ≤ 0) (hM : IsMsg w led x kind g wait ns 1 rs) :
    Ctr w 30 200 (.ref 198) [.ref x] led (fun v l => IsBy v ([17, wait, 0, 0] ++ four g) ∧ led = l) := by
  obtain ⟨d, T, R, vs, rv, u1, u2, u3, u4, u5, u6, t1, t2, t3, t4, a, b, c, e, f, i⟩ := hM
  exact (c_pq1o w x d T R u1 u2 u3 u4 u5 u6 t1 t2 t3 t4 kind g wait led hg0 hg1 hw0 hw1).more (mem2 a b)
set_option maxHeartbeats 2000000 in
theorem c_pq2o (w : World) (x d T R : Addr) (u1 u2 u3 u4 u5 u6 t1 t2 t3 t4 : Tok) (kind : Str) (g wait : Int) (led : List (Addr × Obj)) (hg0 : 0 ≤ g) (hg1 : g < 4294967296) (hw0 : 1 ≤ wait) (hw1 : wait ≤ 255) :
    Ctr w 30 200 (.ref 198) [.ref x] ((x, instObj 182 d) :: (d, dictOf [kEn w (Str.ofString "kind") u1 (.str kind t1), kEn w (Str.ofString "group") u2 (.int g t2), kEn w (Str.ofString "wait") u3 (.int wait t3), kEn w (Str.ofString "sources") u4 (.ref T), kEn w (Str.ofString "version") u5 (.int 2 t4), kEn w (Str.ofString "records") u6 (.ref R)] 6) :: led) (fun v l => IsBy v ([17, wait, 0, 0] ++ four g) ∧ led = l) := by
  refine Ctr.open ?_
  intro mean mg mb dp un gd cn cs a ccd cl outer A₀ base h₀ L m hpq gsq drq tkq osq Q E B F X N T hk hdp hun hret
  (
  refine wpAny_call ?_
  k_dflt (refine' code_def (binds := [(Str.ofString "message", Value.ref x)]) ?z9k1 ?z9k2 ?z9k3 ?z9k4 ?z9k5 ?z9kA ?z9kF ?z9kK ?z9k6 ?z9k7 ?z9k8 ?z9k9 ?z9kB ?_ ?z9c2 ?z9c3 ?z9c4 ?z9c5; (case z9kA => eq_refl); (case z9kF => eq_refl); (case z9kK => assumption); (case z9k1 => k_asm); (case z9k2 => k_asm); (case z9k3 => k_asm); (case z9k4 => k_asm); (case z9k5 => k_asm); (case z9k6 => k_is); (case z9k7 => k_is); (case z9k8 => ktr_room); (case z9k9 => exact BindsTo.of_eq (by kernel_rfl)); (case z9c5 => decide); (case z9kB => exact locs rfl); (case z9c2 => eq_refl); (case z9c3 => eq_refl); (case z9c4 => eq_refl); k_whole))
  intro g1 L1 hp1 FG F1 N1 B1 X1 T1
  k_extra "m my_ent"
  k_extra "m my_walk"
  exact hret _ led _ _ ⟨⟨_, _, rfl, by assumption⟩, rfl⟩ (by k_asm) (by k_extra "m my_news")
theorem c_pq2 (w : World) (x : Addr) (kind : Str) (g wait : Int) (ns : List Int) (rs : List (Int × Int × List Int)) (led : List (Addr × Obj)) (hg0 : 0 ≤ g) (hg1 : g < 4294967296) (hw0 : 1 ≤ wait) (hw1 : wait ≤ 255) (hM : IsMsg w led x kind g wait ns 2 rs) :
    Ctr w 30 200 (.ref 198) [.ref x] led (fun v l => IsBy v ([17, wait, 0, 0] ++ four g) ∧ led = l) := by
  obtain ⟨d, T, R, vs, rv, u1, u2, u3, u4, u5, u6, t1, t2, t3, t4, a, b, c, e, f, i⟩ := hM
  exact (c_pq2o w x d T R u1 u2 u3 u4 u5 u6 t1 t2 t3 t4 kind g wait led hg0 hg1 hw0 hw1).more (mem2 a b)
section
variable {prog : Program} {w : World} {A : Around} {E : Value → Shared → Prop} {s : Shared} {T L : Addr} {h₀ : Heap} {m : Str → Option Value} {vs : List Value} {news : List (Addr × Obj)} {Q : Value → Shared → Prop}
theorem my_len_tup (F : Fr h₀ L s.heap m) (X : (kay.heap_1 w.params).In h₀) (N : News h₀ L s.heap news) (hT : TupIn w news T vs) (hz : vs.length ≤ 16384)
    (h : ∀ t k, Q (.int (vs.length : Nat) t) { s with toks := k }) : wpAny (model prog w) A (call (.builtin "len") [.ref T]) Q E s := by
  obtain ⟨n, e⟩ := hT.at F X N
  have e' : vs.toArray.size = vs.length := by simp
  refine PyProof.Rows.len_tuple ⟨_, e, rfl, n, rfl⟩ (by rw [e']; omega) ?_
  rw [e']; exact h _ _
end
theorem flat4 (ns : List Int) (h : ns.length ≤ 1000) : (ns.map four).flatten.length ≤ 4000 := by
  have : (ns.map four).flatten.length = 4 * ns.length := by
    induction ns with
    | nil => rfl
    | cons a r ih => rw [List.map_cons, List.flatten_cons, List.length_append, ih (by simp at h; omega)]; simp only [four, List.length_cons, List.length_nil]; omega
  omega
set_option maxHeartbeats 2000000 in
theorem c_pq3o (w : World) (x d T R : Addr) (u1 u2 u3 u4 u5 u6 t1 t2 t3 t4 : Tok) (kind : Str) (g code : Int) (vs : List Value) (ns : List Int) (led : List (Addr × Obj)) (hg0 : 0 ≤ g) (hg1 : g < 4294967296) (hw0 : 0 ≤ code) (hw1 : code < 256) (hT : TupIn w led T vs) (hi : IntsAre vs ns) (hz : vs.length ≤ 1000) (hns : ∀ n ∈ ns, 0 ≤ n ∧ n < 4294967296) :
    Ctr w 30 200 (.ref 198) [.ref x] ((x, instObj 182 d) :: (d, dictOf [kEn w (Str.ofString "kind") u1 (.str kind t1), kEn w (Str.ofString "group") u2 (.int g t2), kEn w (Str.ofString "wait") u3 (.int (timeOf code) t3), kEn w (Str.ofString "sources") u4 (.ref T), kEn w (Str.ofString "version") u5 (.int 3 t4), kEn w (Str.ofString "records") u6 (.ref R)] 6) :: led) (fun v l => IsBy v ([17, code, 0, 0] ++ four g ++ [0, 0] ++ two ns.length ++ (ns.map four).flatten) ∧ led = l) := by
  refine' Ctr.body (binds := [(Str.ofString "message", Value.ref x)]) ?z8o ?z8c ?z8b ?z8l ?z8k ?_
  case z8o => k_is
  case z8c => k_is
  case z8b => exact fun _ => BindsTo.of_eq (by kernel_rfl)
  case z8l => kernel_rfl
  case z8k => kernel_rfl
  intro mean mg mb dp un gd outer A₀ base g1 L1 hp1 gsq drq tkq osq Q E B1 F1 X1 N1 T1 hdp hun hret hE9
  intro _ _ _
  k_extra "m my_walk"
  k_dflt (refine comp_gen (by k_asm) (by rfl) (by decide) (by rfl) (by decide) (by rfl) ?_ (fun _ => rfl))
  k_extra "m my_walk"
  have hvn : vs.length = ns.length := hi.length
  k_dflt (refine comp_tupIn (vs := vs) (news := led) (fun i ys news => news = led ∧ BysAre ys ((ns.take i).map four)) (by rfl) (by k_asm) (by assumption) (by k_extra "m my_news") hT ?_ ⟨rfl, .nil⟩ ?_ ?_)
  · rw [sizeLine_eq]; omega
  · intro g i ys news₁ v I oI C oC D m₂ h tk E' hi' hl hJ hP hC hx F' N' off ne
    (try dsimp only)
    k_extra "m my_fq"
    obtain ⟨rfl, hys⟩ := hJ
    obtain ⟨y, ty, rfl, hy⟩ := hi.at i v hP
    obtain ⟨hy0, hy1⟩ := hns y (List.mem_of_getElem? hy)
    k_extra "m my_fold"
    k_extra "m my_walk"
    (with_reducible rename Fr _ _ _ _ => F9)
    (with_reducible rename News _ _ _ _ => N9)
    refine CompEnd.intro F9 N9 _ (fun _ h => h) off (fun _ h => h) ⟨rfl, ?_⟩
    rw [List.take_add_one, hy, List.map_append]
    exact hys.append (.cons (by assumption) .nil)
  · intro ys news' hl hJ
    obtain ⟨rfl, hys⟩ := hJ
    rw [hvn, List.take_length] at hys
    have hfl := flat4 ns (by omega)
    intro D h tk F' N' off
    dsimp only
    k_extra "m my_walk"
    refine hret _ news' _ _ ⟨⟨_, _, rfl, ?_⟩, rfl⟩ (by k_asm) (by k_extra "m my_news")
    (rename KBw.bInts _ = _ => hfin)
    rw [hfin, hvn]
    simp only [List.append_assoc]
    rfl
theorem c_pq3 (w : World) (x : Addr) (kind : Str) (g code : Int) (ns : List Int) (rs : List (Int × Int × List Int)) (led : List (Addr × Obj)) (hg0 : 0 ≤ g) (hg1 : g < 4294967296) (hw0 : 0 ≤ code) (hw1 : code < 256) (hz : ns.length ≤ 1000) (hns : ∀ n ∈ ns, 0 ≤ n ∧ n < 4294967296) (hM : IsMsg w led x kind g (timeOf code) ns 3 rs) :
    Ctr w 30 200 (.ref 198) [.ref x] led (fun v l => IsBy v ([17, code, 0, 0] ++ four g ++ [0, 0] ++ two ns.length ++ (ns.map four).flatten) ∧ led = l) := by
  obtain ⟨d, T, R, vs, rv, u1, u2, u3, u4, u5, u6, t1, t2, t3, t4, a, b, c, e, f, i⟩ := hM
  exact (c_pq3o w x d T R u1 u2 u3 u4 u5 u6 t1 t2 t3 t4 kind g code vs ns led hg0 hg1 hw0 hw1 c e (by rw [e.length]; omega) hns).more (mem2 a b)
end

theorem rows_14 : True := by
  k_with "m my_tupin" => (first | exact ⟨0, .inr (by k_is)⟩ | (with_reducible refine TupIn.mono (by assumption) ?_; k_extra "m my_sub2"))
  k_with "m my_tupin" => (first | (with_reducible refine TupIn.mono (by assumption) ?_; (first | k_extra "m my_sub2" | (intro _ hp; simp only [List.mem_cons, List.mem_append, hp, or_true, true_or]))) | exact ⟨0, .inr (by k_is)⟩)
  trivial

section
def recBytes (r : Int × Int × List Int) : List Int := [r.1, 0] ++ two r.2.2.length ++ four r.2.1 ++ (r.2.2.map four).flatten
def RecGood (r : Int × Int × List Int) : Prop := 1 ≤ r.1 ∧ r.1 ≤ 6 ∧ 0 ≤ r.2.1 ∧ r.2.1 < 4294967296 ∧ r.2.2.length ≤ 366 ∧ ∀ n ∈ r.2.2, 0 ≤ n ∧ n < 4294967296
theorem RecsAre.len {w : World} {l : List (Addr × Obj)} {vs : List Value} {rs : List (Int × Int × List Int)} (h : RecsAre w l vs rs) : vs.length = rs.length := by
  induction h with
  | nil => rfl
  | cons _ _ ih => simp [ih]
theorem RecsAre.at {w : World} {l : List (Addr × Obj)} {vs : List Value} {rs : List (Int × Int × List Int)} (h : RecsAre w l vs rs) : ∀ (i : Nat) (v : Value), vs[i]? = some v → ∃ x k g ns, v = .ref x ∧ rs[i]? = some (k, g, ns) ∧ IsRec w l x k g ns := by
  induction h with
  | nil => intro i v e; simp at e
  | cons a _ ih =>
    intro i v e
    cases i with
    | zero => simp at e; exact ⟨_, _, _, _, e.symm, rfl, a⟩
    | succ i => simpa using ih i v (by simpa using e)
theorem News.tail {h₀ h : Heap} {L : Addr} {a : Addr × Obj} {l : List (Addr × Obj)} (N : News h₀ L h (a :: l)) : News h₀ L h l := fun p hp => N p (.tail _ hp)
section
variable {prog : Program} {w : World} {A : Around} {E : Value → Shared → Prop} {s : Shared} {h₀ : Heap} {L : Addr} {m : Str → Option Value} {env : Env}
theorem comp_tupC {elt : Expr} {x : Str} {scope : Scope} {cl : List (Str × Addr)} {Q : Value → Shared → Prop} {r : Addr} {vs : List Value} {news : List (Addr × Obj)} (R : Nat → List Value → Prop)
    (hh : A.handled = none) (F : Fr h₀ L s.heap m) (X : (kay.heap_1 w.params).In h₀) (N : News h₀ L s.heap news) (hr : TupIn w news r vs) (hsz : vs.length ≤ 16384) (hj : R 0 [])
    (turn : ∀ (i : Nat) (ys : List Value) (v : Value) (I : Addr) (oI : Obj) (C : Addr) (oC : Obj) (D : Addr) (m₂ : Str → Option Value) (h : Heap) (tk : Nat) (S : List (Addr × Obj) → Prop) (E' : Value → Shared → Prop),
      S news → i < vs.length → ys.length = i → R i ys → vs[i]? = some v → NsObj oC m₂ → m₂ x = some v → Fr h₀ L h m → News h₀ L h ((I, oI) :: (C, oC) :: (D, lst ys) :: news) → Off3 I C D news → ((@Ne Nat I C) ∧ (@Ne Nat I D) ∧ (@Ne Nat C D)) →
      ∀ g, wpAny (model prog w) A (eval elt (compEnvC scope cl C env)) (CompEnd h₀ L m { s with heap := h, toks := tk } I oI C oC D (lst ys) S (fun y news' => news' = news ∧ R (i + 1) (ys ++ [y]))) E' { ({ s with heap := g } : Shared) with heap := h, toks := tk })
    (fin : ∀ ys, ys.length = vs.length → R vs.length ys → FinE h₀ L m s Q ys news) :
    wpAny (model prog w) A (pyIter (.ref r)) (CompAt prog w A h₀ L m env elt x scope cl Q) E s :=
  comp_tupIn (news := news) (fun i ys nw => nw = news ∧ R i ys) hh F X N hr (by rw [sizeLine_eq]; omega) ⟨rfl, hj⟩
    (fun g i ys news₁ v I oI C oC D m₂ h tk E' hi hl hJ hP hC hx F' N' off ne => by
      obtain ⟨rfl, hR⟩ := hJ
      exact turn i ys v I oI C oC D m₂ h tk _ E' (fun _ h => h) hi hl hR hP hC hx F' N' off ne g)
    (fun ys news' hl hJ => by
      obtain ⟨rfl, hR⟩ := hJ
      exact fin ys hl hR)
end
section
variable {prog : Program} {w : World} {A : Around} {E : Value → Shared → Prop} {s : Shared} {h₀ : Heap} {L D b : Addr} {m : Str → Option Value} {rest : List (Addr × Obj)} {its : Array Value} {ys : List Value} {n n2 : Nat}
theorem my_extend {Q : Value → Shared → Prop} (F : Fr h₀ L s.heap m) (N : News h₀ L s.heap ((b, PySem.W.listOf ys.toArray n2) :: (D, PySem.W.listOf its n) :: rest)) (hbD : b ≠ D) (hsep : ∀ p ∈ rest, p.1 ≠ D) (hsz : its.size + ys.length ≤ 1000000)
    (h : ∀ h' n', Fr h₀ L h' m → News h₀ L h' ((b, PySem.W.listOf ys.toArray n2) :: (D, PySem.W.listOf (its.toList ++ ys).toArray n') :: rest) → Q .none { s with heap := h' }) : wpAny (model prog w) A (call (.builtin "list.extend") [.ref D, .ref b]) Q E s := by
  have hs : its.size + ys.toArray.size ≤ sizeLine := by
    have e1 : ys.toArray.size = ys.length := List.size_toArray ..
    rw [sizeLine_eq, e1]; omega
  have hz : its.toList.length ≤ sizeLine := by
    have e1 : its.toList.length = its.size := Array.length_toList
    rw [sizeLine_eq, e1]; omega
  cases ys with
  | nil =>
    refine kxn_extend F N (.head _) rfl (Upd.tail hbD (Upd.head hsep)) (extend_door hs) hz (Nat.le_succ_of_le hs) fun h' F' N' => ?_
    refine h h' n F' ?_
    rw [List.append_nil, Array.toArray_toList]
    exact N'
  | cons y r =>
    refine kl_extend F N (.head _) rfl (by simp) (Upd.tail hbD (Upd.head hsep)) (extend_door hs) hz (Nat.le_succ_of_le hs) fun h' F' N' => ?_
    exact h h' _ F' N'
end
theorem ne_mem {a RW : Addr} {o : Obj} {l led : List (Addr × Obj)} (_ : (a, o) ∈ led) (h1 : @LT.lt Nat _ a RW) (h2 : ∀ p ∈ l, p.1 ≠ RW) : ∀ p ∈ (a, o) :: l, p.1 ≠ RW := fun p hp => by
  rcases List.mem_cons.mp hp with rfl | hp
  · exact Nat.ne_of_lt h1
  · exact h2 p hp
theorem ne_cons {a RW : Addr} {o : Obj} {l : List (Addr × Obj)} (h1 : a ≠ RW) (h2 : ∀ p ∈ l, p.1 ≠ RW) : ∀ p ∈ (a, o) :: l, p.1 ≠ RW := fun p hp => by
  rcases List.mem_cons.mp hp with rfl | hp
  · exact h1
  · exact h2 p hp
theorem four_len (x : Int) : (four x).length = 4 := rfl
theorem flat4_len (ns : List Int) : (ns.map four).flatten.length = 4 * ns.length := by
  induction ns with
  | nil => rfl
  | cons a r ih => rw [List.map_cons, List.flatten_cons, List.length_append, ih, four_len, List.length_cons]; omega
theorem recBytes_len (r : Int × Int × List Int) : (recBytes r).length = 8 + 4 * r.2.2.length := by
  unfold recBytes
  rw [List.length_append, flat4_len]
  simp only [List.length_append, List.length_cons, List.length_nil, two, four]
theorem recs_len (rs : List (Int × Int × List Int)) (h : ∀ r ∈ rs, RecGood r) : (rs.map recBytes).flatten.length ≤ 1472 * rs.length := by
  induction rs with
  | nil => exact Nat.le_refl _
  | cons a r ih =>
    have h1 := ih (fun x hx => h x (.tail _ hx))
    have h2 := (h a (.head _)).2.2.2.2.1
    rw [List.map_cons, List.flatten_cons, List.length_append, recBytes_len, List.length_cons]
    omega
set_option maxHeartbeats 2000000 in
theorem c_precso (w : World) (x d T R : Addr) (u1 u2 u3 u4 u5 u6 t1 t2 t3 t4 : Tok) (kind : Str) (g wait ver : Int) (rv : List Value) (rs : List (Int × Int × List Int)) (led : List (Addr × Obj)) (hR : TupIn w led R rv) (hrs : RecsAre w led rv rs) (hz : rs.length ≤ 100) (hgood : ∀ r ∈ rs, RecGood r) :
    Ctr w 30 200 (.ref 203) [.ref x] ((x, instObj 182 d) :: (d, dictOf [kEn w (Str.ofString "kind") u1 (.str kind t1), kEn w (Str.ofString "group") u2 (.int g t2), kEn w (Str.ofString "wait") u3 (.int wait t3), kEn w (Str.ofString "sources") u4 (.ref T), kEn w (Str.ofString "version") u5 (.int ver t4), kEn w (Str.ofString "records") u6 (.ref R)] 6) :: led) (fun v l => IsBy v ([34, 0, 0, 0, 0, 0] ++ two rs.length ++ (rs.map recBytes).flatten) ∧ led = l) := by
  refine Ctr.open ?_
  intro mean mg mb dp un gd cn cs a ccd cl outer A₀ base h₀ L m hpq gsq drq tkq osq Q E B F X N T hk hdp hun hret
  have hrl := hrs.len
  (
  refine wpAny_call ?_
  k_dflt (refine' code_def (binds := [(Str.ofString "message", Value.ref x)]) ?z9k1 ?z9k2 ?z9k3 ?z9k4 ?z9k5 ?z9kA ?z9kF ?z9kK ?z9k6 ?z9k7 ?z9k8 ?z9k9 ?z9kB ?_ ?z9c2 ?z9c3 ?z9c4 ?z9c5; (case z9kA => eq_refl); (case z9kF => eq_refl); (case z9kK => assumption); (case z9k1 => k_asm); (case z9k2 => k_asm); (case z9k3 => k_asm); (case z9k4 => k_asm); (case z9k5 => k_asm); (case z9k6 => k_is); (case z9k7 => k_is); (case z9k8 => ktr_room); (case z9k9 => exact BindsTo.of_eq (by kernel_rfl)); (case z9c5 => decide); (case z9kB => exact locs rfl); (case z9c2 => eq_refl); (case z9c3 => eq_refl); (case z9c4 => eq_refl); k_whole))
  intro g1 L1 hp1 FG F1 N1 B1 X1 T1
  k_extra "m my_ent"
  k_extra "m my_walk"
  k_extra "m my_for"
  k_extra "m my_walk"
  rename_i bH tH kH hH _ _ RW hh1 lt1 hh2 FF NN
  have lt2 : ∀ p ∈ led, @LT.lt Nat _ p.1 RW := allLt_mem _ lt1.2.2.2
  have NX : News g1 _ hh2 ((RW, PySem.W.listOf (([Value.bytes bH tH] : List Value)).toArray 0) :: led) := fun p hp => NN p (by
    rcases List.mem_cons.mp hp with rfl | hp
    · exact List.mem_cons_self ..
    · exact .tail _ (.tail _ (.tail _ (.tail _ hp))))
  k_dflt (refine for_tupleL (vs := rv) (news := (RW, PySem.W.listOf (([Value.bytes bH tH] : List Value)).toArray 0) :: led) (fun j m1 news => ∃ bys nn kss, news = (RW, PySem.W.listOf (bys : List Value).toArray nn) :: led ∧ BysAre bys kss ∧ kss.flatten = [34, 0, 0, 0, 0, 0] ++ two rs.length ++ ((rs.take j).map recBytes).flatten ∧ bys.length ≤ 1 + 400 * j ∧ m1 (Str.ofString "rows") = some (.ref RW)) ?g1 FF X1 NX ?g2 ?_ ?g3 ?_ ?_)
  case g1 => rfl
  case g2 => exact hR.mono fun p hp => .tail _ hp
  case g3 => exact ⟨[Value.bytes bH tH], 0, [[34, 0, 0, 0, 0, 0] ++ [(rv.length : Int) / 256, (rv.length : Int) % 256]], rfl, .cons hH .nil, by rw [hrl]; simp [two], by simp, rfl⟩
  · intro i m nx n hJ hp
    obtain ⟨bys, nn, kss, rfl, _⟩ := hJ
    rcases List.mem_cons.mp hp with e | hp
    · exact absurd (congrArg (fun p : Addr × Obj => p.2.cls) e) (by show ¬ (Value.type "tuple" = Value.type "list"); decide)
    · exact .tail _ hp
  · intro I j v m1 news h tk oI hI hv hJ off F' N'
    (try dsimp only)
    k_extra "m my_fq"
    obtain ⟨bys, nn, kss, rfl, hby, hfl, hbl, hm1⟩ := hJ
    obtain ⟨xr, k, g', ns, rfl, hrj, hrec⟩ := hrs.at j v hv
    obtain ⟨dr, Tr, vr, v1, v2, v3, s1, s2, ha, hb, hTr, hir⟩ := hrec
    obtain ⟨hk0, hk1, hg0, hg1, hn1, hns⟩ := hgood _ (List.mem_of_getElem? hrj)
    dsimp only at hk0 hk1 hg0 hg1 hn1 hns
    have hvn : vr.length = ns.length := hir.length
    have F2 := fr_set (x := Str.ofString "rows") F' hm1
    have N2 : News g1 _ h ((RW, PySem.W.listOf bys.toArray nn) :: (I, oI) :: (xr, _) :: (dr, _) :: led) := fun p hp => N' p (by
      rcases List.mem_cons.mp hp with rfl | hp
      · exact .tail _ (.head _)
      · rcases List.mem_cons.mp hp with rfl | hp
        · exact .head _
        · exact .tail _ (.tail _ (mem2 ha hb p hp)))
    have hxr := lt2 _ ha
    have hdr := lt2 _ hb
    have hIR := hI _ (.head _)
    dsimp only at hxr hdr hIR
    have hjr : j < rs.length := (List.getElem?_eq_some_iff.mp hrj).1
    have hs := ne_cons (o := oI) (Nat.ne_of_gt hIR) (ne_mem ha hxr (ne_mem hb hdr (fun p hp => Nat.ne_of_lt (lt2 p hp))))
    clear F' N'
    k_extra "m my_walk"
    rename_i bN tN kN hN _ _ hh3 F3 N3 _
    have N4 := News.tail N3
    clear N3
    k_dflt (refine comp_gen (by k_asm) (by rfl) (by decide) (by rfl) (by decide) (by rfl) ?_ (fun _ => rfl))
    k_extra "m my_walk"
    (with_reducible rename Fr _ _ _ _ => F5)
    (with_reducible rename News _ _ _ _ => N5)
    k_dflt (refine comp_tupC (vs := vr) (fun i ys => BysAre ys ((ns.take i).map four)) (by rfl) F5 (by assumption) N5 (hTr.mono fun p hp => .tail _ (.tail _ (.tail _ (.tail _ hp)))) (by omega) .nil ?_ ?_)
    · intro i ys v I2 oI2 C oC D m₂ h2 tk2 S2 E' hS hi' hl hys hP hC hx F' N' off2 ne g
      (try dsimp only)
      k_extra "m my_fq"
      obtain ⟨y, ty, rfl, hy⟩ := hir.at i v hP
      obtain ⟨hy0, hy1⟩ := hns y (List.mem_of_getElem? hy)
      k_extra "m my_walk"
      (with_reducible rename Fr _ _ _ _ => F9)
      (with_reducible rename News _ _ _ _ => N9)
      refine CompEnd.intro F9 N9 _ (fun _ h => h) off2 hS ⟨rfl, ?_⟩
      rw [List.take_add_one, hy, List.map_append]
      exact hys.append (.cons (by assumption) .nil)
    · intro ys hl hys
      rw [hvn, List.take_length] at hys
      intro D h2 tk2 F' N' off2
      dsimp only
      k_extra "m my_walk"
      have hyl : ys.length = ns.length := by rw [hl, hvn]
      have hD : D ≠ RW := fun e => off2.1 e.symm
      k_dflt (refine my_extend F' N' hD hs (by rw [Array.size_push, List.size_toArray]; omega) ?_)
      intro h9 n9 F9 N9
      k_extra "m my_walk"
      (with_reducible rename Fr _ _ _ _ => F7)
      (with_reducible rename News _ _ _ _ => N7)
      have ea : (bys.toArray.push (Value.bytes bN tN)).toList ++ ys = (bys ++ [Value.bytes bN tN]) ++ ys := by simp
      rw [ea] at N7
      refine turn_next F7 N7 (fun p hp => by
        rcases List.mem_cons.mp hp with rfl | hp
        · exact .tail _ (.tail _ (.head _))
        · rcases List.mem_cons.mp hp with rfl | hp
          · exact .tail _ (.head _)
          · exact .tail _ (.tail _ (.tail _ (.tail _ (.tail _ hp))))) (nx := (RW, _) :: led) (fun p hp => ?_) ⟨_, _, kss ++ [[k, 0] ++ two ns.length ++ four g'] ++ ns.map four, rfl, ?_, ?_, ?_, rfl⟩
      · rcases List.mem_cons.mp hp with rfl | hp
        · exact Nat.ne_of_lt hIR
        · exact off _ (.tail _ hp)
      · exact (hby.append (.cons (by rw [hN, hvn]; rfl) .nil)).append hys
      · rw [List.flatten_append, List.flatten_append, hfl, List.take_add_one, hrj]
        simp [recBytes, List.append_assoc]
      · simp only [List.length_append, List.length_cons, List.length_nil]; omega
  · intro m1 news h tk hJ F' N'
    obtain ⟨bys, nn, kss, rfl, hby, hfl, hbl, hm1⟩ := hJ
    have F2 := fr_set (x := Str.ofString "rows") F' hm1
    clear F'
    rw [hrl, List.take_length] at hfl
    have hfl2 : kss.flatten.length ≤ 200000 := by
      have := recs_len rs hgood
      rw [hfl]; simp only [List.length_append, two, List.length_cons, List.length_nil]; omega
    dsimp only
    k_extra "m my_walk"
    exact hret _ led _ _ ⟨⟨_, _, rfl, by (rename KBw.bInts _ = _ => hfin); rw [hfin]; exact hfl⟩, rfl⟩ (by k_asm) (by k_extra "m my_news")
theorem c_precs (w : World) (x : Addr) (kind : Str) (g wait ver : Int) (ns : List Int) (rs : List (Int × Int × List Int)) (led : List (Addr × Obj)) (hz : rs.length ≤ 100) (hgood : ∀ r ∈ rs, RecGood r) (hM : IsMsg w led x kind g wait ns ver rs) :
    Ctr w 30 200 (.ref 203) [.ref x] led (fun v l => IsBy v ([34, 0, 0, 0, 0, 0] ++ two rs.length ++ (rs.map recBytes).flatten) ∧ led = l) := by
  obtain ⟨d, T, R, vs, rv, u1, u2, u3, u4, u5, u6, t1, t2, t3, t4, a, b, c, e, f, i⟩ := hM
  exact (c_precso w x d T R u1 u2 u3 u4 u5 u6 t1 t2 t3 t4 kind g wait ver rv rs led f i hz hgood).more (mem2 a b)
end

theorem rows_15 : True := by
  k_with "m my_stop" => (
  (fail_if_success (with_reducible show wpAny _ _ (eval (Expr.ListComp _ _ _ _) _) _ _ _))
  (fail_if_success (with_reducible show wpAny _ _ (pyIter _) _ _ _))
  (fail_if_success (with_reducible show wpAny _ _ (exec (Stmt.For _ _ _ _ _) _) _ _ _))
  (fail_if_success (with_reducible show wpAny _ _ (exec (Stmt.While _ _ _ _) _) _ _ _)))
  k_with "m my_stop" => (
  (fail_if_success (with_reducible show wpAny _ _ (eval (Expr.ListComp _ _ _ _) _) _ _ _))
  (fail_if_success (with_reducible show wpAny _ _ (pyIter _) _ _ _))
  (fail_if_success (with_reducible show wpAny _ _ (exec (Stmt.For _ _ _ _ _) _) _ _ _))
  (fail_if_success (with_reducible show wpAny _ _ (exec (Stmt.While _ _ _ _) _) _ _ _))
  (fail_if_success (with_reducible show wpAny _ _ (call (Value.ref 198) _) _ _ _))
  (fail_if_success (with_reducible show wpAny _ _ (call (Value.ref 203) _) _ _ _)))
  k_with "m call ref" => ((with_reducible show wpAny _ _ (call (Value.ref 113) [Value.bytes _ _, Value.int 2 _]) _ _ _); (((k_extra "m my_fq"); k_dflt (refine' (Ctr.eB (c_withsum _ _ _ _ 2 _ _ (by assumption) (by k_extra "m my_len") (by decide) (by k_extra "m my_len"))) ?z9k1 ?z9k2 ?z9k3 ?z9k4 ?z9k5 ?z9k6 ?z9k7 ?z9k8 ?_; (case z9k1 => k_asm); (case z9k2 => k_asm); (case z9k3 => k_asm); (case z9k4 => k_asm); (case z9k5 => k_asm); (case z9k6 => first | exact rfl | assumption); (case z9k7 => k_extra "m my_rm"); (case z9k8 => k_extra "m my_rm"))); k_whole); intro _ _ _ _ _ _ _; (try dsimp only))
  trivial

section
set_option maxHeartbeats 2000000 in
theorem c_pkleaveo (w : World) (x d T R : Addr) (u1 u2 u3 u4 u5 u6 t1 t2 t3 t4 : Tok) (g wait : Int) (led : List (Addr × Obj)) (hg0 : 0 ≤ g) (hg1 : g < 4294967296) :
    Ctr w 50 300 (.ref 193) [.ref x] ((x, instObj 182 d) :: (d, dictOf [kEn w (Str.ofString "kind") u1 (.str (Str.ofString "leave") t1), kEn w (Str.ofString "group") u2 (.int g t2), kEn w (Str.ofString "wait") u3 (.int wait t3), kEn w (Str.ofString "sources") u4 (.ref T), kEn w (Str.ofString "version") u5 (.int 2 t4), kEn w (Str.ofString "records") u6 (.ref R)] 6) :: led) (fun v l => IsBy v (summed ([23, 0, 0, 0] ++ four g) 2) ∧ led = l) := by
  refine' Ctr.body (binds := [(Str.ofString "message", Value.ref x)]) ?z8o ?z8c ?z8b ?z8l ?z8k ?_
  case z8o => k_is
  case z8c => k_is
  case z8b => exact fun _ => BindsTo.of_eq (by kernel_rfl)
  case z8l => kernel_rfl
  case z8k => kernel_rfl
  intro mean mg mb dp un gd outer A₀ base g1 L1 hp1 gsq drq tkq osq Q E B1 F1 X1 N1 T1 hdp hun hret hE9
  intro _ _ _
  k_extra "m my_walk"
  exact hret _ led _ _ ⟨⟨_, _, rfl, by assumption⟩, rfl⟩ (by k_asm) (by k_extra "m my_news")
theorem c_pkleave (w : World) (x : Addr) (g wait : Int) (ns : List Int) (rs : List (Int × Int × List Int)) (led : List (Addr × Obj)) (hg0 : 0 ≤ g) (hg1 : g < 4294967296) (hM : IsMsg w led x (Str.ofString "leave") g wait ns 2 rs) :
    Ctr w 50 300 (.ref 193) [.ref x] led (fun v l => IsBy v (summed ([23, 0, 0, 0] ++ four g) 2) ∧ led = l) := by
  obtain ⟨d, T, R, vs, rv, u1, u2, u3, u4, u5, u6, t1, t2, t3, t4, a, b, c, e, f, i⟩ := hM
  exact (c_pkleaveo w x d T R u1 u2 u3 u4 u5 u6 t1 t2 t3 t4 g wait led hg0 hg1).more (mem2 a b)
set_option maxHeartbeats 2000000 in
theorem c_pkrep1o (w : World) (x d T R : Addr) (u1 u2 u3 u4 u5 u6 t1 t2 t3 t4 : Tok) (g wait : Int) (led : List (Addr × Obj)) (hg0 : 0 ≤ g) (hg1 : g < 4294967296) :
    Ctr w 50 300 (.ref 193) [.ref x] ((x, instObj 182 d) :: (d, dictOf [kEn w (Str.ofString "kind") u1 (.str (Str.ofString "report") t1), kEn w (Str.ofString "group") u2 (.int g t2), kEn w (Str.ofString "wait") u3 (.int wait t3), kEn w (Str.ofString "sources") u4 (.ref T), kEn w (Str.ofString "version") u5 (.int 1 t4), kEn w (Str.ofString "records") u6 (.ref R)] 6) :: led) (fun v l => IsBy v (summed ([18, 0, 0, 0] ++ four g) 2) ∧ led = l) := by
  refine' Ctr.body (binds := [(Str.ofString "message", Value.ref x)]) ?z8o ?z8c ?z8b ?z8l ?z8k ?_
  case z8o => k_is
  case z8c => k_is
  case z8b => exact fun _ => BindsTo.of_eq (by kernel_rfl)
  case z8l => kernel_rfl
  case z8k => kernel_rfl
  intro mean mg mb dp un gd outer A₀ base g1 L1 hp1 gsq drq tkq osq Q E B1 F1 X1 N1 T1 hdp hun hret hE9
  intro _ _ _
  k_extra "m my_walk"
  exact hret _ led _ _ ⟨⟨_, _, rfl, by assumption⟩, rfl⟩ (by k_asm) (by k_extra "m my_news")
theorem c_pkrep1 (w : World) (x : Addr) (g wait : Int) (ns : List Int) (rs : List (Int × Int × List Int)) (led : List (Addr × Obj)) (hg0 : 0 ≤ g) (hg1 : g < 4294967296) (hM : IsMsg w led x (Str.ofString "report") g wait ns 1 rs) :
    Ctr w 50 300 (.ref 193) [.ref x] led (fun v l => IsBy v (summed ([18, 0, 0, 0] ++ four g) 2) ∧ led = l) := by
  obtain ⟨d, T, R, vs, rv, u1, u2, u3, u4, u5, u6, t1, t2, t3, t4, a, b, c, e, f, i⟩ := hM
  exact (c_pkrep1o w x d T R u1 u2 u3 u4 u5 u6 t1 t2 t3 t4 g wait led hg0 hg1).more (mem2 a b)
set_option maxHeartbeats 2000000 in
theorem c_pkrep2o (w : World) (x d T R : Addr) (u1 u2 u3 u4 u5 u6 t1 t2 t3 t4 : Tok) (g wait : Int) (led : List (Addr × Obj)) (hg0 : 0 ≤ g) (hg1 : g < 4294967296) :
    Ctr w 50 300 (.ref 193) [.ref x] ((x, instObj 182 d) :: (d, dictOf [kEn w (Str.ofString "kind") u1 (.str (Str.ofString "report") t1), kEn w (Str.ofString "group") u2 (.int g t2), kEn w (Str.ofString "wait") u3 (.int wait t3), kEn w (Str.ofString "sources") u4 (.ref T), kEn w (Str.ofString "version") u5 (.int 2 t4), kEn w (Str.ofString "records") u6 (.ref R)] 6) :: led) (fun v l => IsBy v (summed ([22, 0, 0, 0] ++ four g) 2) ∧ led = l) := by
  refine' Ctr.body (binds := [(Str.ofString "message", Value.ref x)]) ?z8o ?z8c ?z8b ?z8l ?z8k ?_
  case z8o => k_is
  case z8c => k_is
  case z8b => exact fun _ => BindsTo.of_eq (by kernel_rfl)
  case z8l => kernel_rfl
  case z8k => kernel_rfl
  intro mean mg mb dp un gd outer A₀ base g1 L1 hp1 gsq drq tkq osq Q E B1 F1 X1 N1 T1 hdp hun hret hE9
  intro _ _ _
  k_extra "m my_walk"
  exact hret _ led _ _ ⟨⟨_, _, rfl, by assumption⟩, rfl⟩ (by k_asm) (by k_extra "m my_news")
theorem c_pkrep2 (w : World) (x : Addr) (g wait : Int) (ns : List Int) (rs : List (Int × Int × List Int)) (led : List (Addr × Obj)) (hg0 : 0 ≤ g) (hg1 : g < 4294967296) (hM : IsMsg w led x (Str.ofString "report") g wait ns 2 rs) :
    Ctr w 50 300 (.ref 193) [.ref x] led (fun v l => IsBy v (summed ([22, 0, 0, 0] ++ four g) 2) ∧ led = l) := by
  obtain ⟨d, T, R, vs, rv, u1, u2, u3, u4, u5, u6, t1, t2, t3, t4, a, b, c, e, f, i⟩ := hM
  exact (c_pkrep2o w x d T R u1 u2 u3 u4 u5 u6 t1 t2 t3 t4 g wait led hg0 hg1).more (mem2 a b)
set_option maxHeartbeats 2000000 in
theorem c_pkrep3o (w : World) (x d : Addr) (T R : Addr) (u1 u2 u3 u4 u5 u6 t1 t2 t3 t4 : Tok) (g wait : Int) (ns : List Int) (rs : List (Int × Int × List Int)) (led : List (Addr × Obj)) (hz : rs.length ≤ 100) (hgood : ∀ r ∈ rs, RecGood r) (hM : IsMsg w led x (Str.ofString "report") 0 wait ns 3 rs) (hres : ([34, 0, 0, 0, 0, 0] ++ two rs.length ++ (rs.map recBytes).flatten : List Int).length ≤ 70000) (hres2 : 8 ≤ ([34, 0, 0, 0, 0, 0] ++ two rs.length ++ (rs.map recBytes).flatten : List Int).length) :
    Ctr w 50 300 (.ref 193) [.ref x] ((x, instObj 182 d) :: (d, dictOf [kEn w (Str.ofString "kind") u1 (.str (Str.ofString "report") t1), kEn w (Str.ofString "group") u2 (.int 0 t2), kEn w (Str.ofString "wait") u3 (.int wait t3), kEn w (Str.ofString "sources") u4 (.ref T), kEn w (Str.ofString "version") u5 (.int 3 t4), kEn w (Str.ofString "records") u6 (.ref R)] 6) :: led) (fun v l => IsBy v (summed ([34, 0, 0, 0, 0, 0] ++ two rs.length ++ (rs.map recBytes).flatten) 2) ∧ led = l) := by
  generalize hKS : ([34, 0, 0, 0, 0, 0] ++ two rs.length ++ (rs.map recBytes).flatten : List Int) = KS at hres hres2 ⊢
  refine' Ctr.body (binds := [(Str.ofString "message", Value.ref x)]) ?z8o ?z8c ?z8b ?z8l ?z8k ?_
  case z8o => k_is
  case z8c => k_is
  case z8b => exact fun _ => BindsTo.of_eq (by kernel_rfl)
  case z8l => kernel_rfl
  case z8k => kernel_rfl
  intro mean mg mb dp un gd outer A₀ base g1 L1 hp1 gsq drq tkq osq Q E B1 F1 X1 N1 T1 hdp hun hret hE9
  intro _ _ _
  k_extra "m my_walk"
  (((k_extra "m my_fq"); k_dflt (refine' (Ctr.use (c_precs _ _ _ _ _ _ _ _ _ hz hgood ?q1)) ?z9k1 ?z9k2 ?z9k3 ?z9k4 ?z9k5 ?z9k6 ?z9k7 ?z9k8 ?_; (case z9k1 => k_asm); (case z9k2 => k_asm); (case z9k3 => k_asm); (case z9k4 => k_asm); (case z9k5 => k_asm); (case z9k6 => first | exact rfl | assumption); (case z9k7 => k_extra "m my_rm"); (case z9k8 => k_extra "m my_rm"))))
  case q1 => exact hM.mono (fun p hp => .tail _ (.tail _ (.tail _ hp)))
  k_whole
  intro v8 l8 h8 tk8 hP8 F8 N8
  obtain ⟨⟨b8, t8, e8, hb8⟩, e9⟩ := hP8
  subst e8
  subst e9
  rw [hKS] at hb8
  (try dsimp only)
  k_extra "m my_walk"
  exact hret _ led _ _ ⟨⟨_, _, rfl, by assumption⟩, rfl⟩ (by k_asm) (by k_extra "m my_news")
theorem c_pkrep3 (w : World) (x : Addr) (g wait : Int) (ns : List Int) (rs : List (Int × Int × List Int)) (led : List (Addr × Obj)) (hz : rs.length ≤ 100) (hgood : ∀ r ∈ rs, RecGood r) (hres : ([34, 0, 0, 0, 0, 0] ++ two rs.length ++ (rs.map recBytes).flatten : List Int).length ≤ 70000) (hres2 : 8 ≤ ([34, 0, 0, 0, 0, 0] ++ two rs.length ++ (rs.map recBytes).flatten : List Int).length) (hM : IsMsg w led x (Str.ofString "report") 0 wait ns 3 rs) :
    Ctr w 50 300 (.ref 193) [.ref x] led (fun v l => IsBy v (summed ([34, 0, 0, 0, 0, 0] ++ two rs.length ++ (rs.map recBytes).flatten) 2) ∧ led = l) := by
  have hM' := hM
  obtain ⟨d, T, R, vs, rv, u1, u2, u3, u4, u5, u6, t1, t2, t3, t4, a, b, c, e, f, i⟩ := hM
  exact (c_pkrep3o w x d T R u1 u2 u3 u4 u5 u6 t1 t2 t3 t4 g wait ns rs led hz hgood hM' hres hres2).more (mem2 a b)
set_option maxHeartbeats 2000000 in
theorem c_pkq1o (w : World) (x d : Addr) (T R : Addr) (u1 u2 u3 u4 u5 u6 t1 t2 t3 t4 : Tok) (g wait : Int) (ns : List Int) (rs : List (Int × Int × List Int)) (led : List (Addr × Obj)) (hg0 : 0 ≤ g) (hg1 : g < 4294967296) (hw0 : 0 ≤ wait) (hw1 : wait ≤ 0) (hM : IsMsg w led x (Str.ofString "query") g wait ns 1 rs) (hres : ([17, wait, 0, 0] ++ four g : List Int).length ≤ 70000) (hres2 : 8 ≤ ([17, wait, 0, 0] ++ four g : List Int).length) :
    Ctr w 50 300 (.ref 193) [.ref x] ((x, instObj 182 d) :: (d, dictOf [kEn w (Str.ofString "kind") u1 (.str (Str.ofString "query") t1), kEn w (Str.ofString "group") u2 (.int g t2), kEn w (Str.ofString "wait") u3 (.int wait t3), kEn w (Str.ofString "sources") u4 (.ref T), kEn w (Str.ofString "version") u5 (.int 1 t4), kEn w (Str.ofString "records") u6 (.ref R)] 6) :: led) (fun v l => IsBy v (summed ([17, wait, 0, 0] ++ four g) 2) ∧ led = l) := by
  generalize hKS : ([17, wait, 0, 0] ++ four g : List Int) = KS at hres hres2 ⊢
  refine' Ctr.body (binds := [(Str.ofString "message", Value.ref x)]) ?z8o ?z8c ?z8b ?z8l ?z8k ?_
  case z8o => k_is
  case z8c => k_is
  case z8b => exact fun _ => BindsTo.of_eq (by kernel_rfl)
  case z8l => kernel_rfl
  case z8k => kernel_rfl
  intro mean mg mb dp un gd outer A₀ base g1 L1 hp1 gsq drq tkq osq Q E B1 F1 X1 N1 T1 hdp hun hret hE9
  intro _ _ _
  k_extra "m my_walk"
  (((k_extra "m my_fq"); k_dflt (refine' (Ctr.use (c_pq1 _ _ _ _ _ _ _ _ hg0 hg1 hw0 hw1 ?q1)) ?z9k1 ?z9k2 ?z9k3 ?z9k4 ?z9k5 ?z9k6 ?z9k7 ?z9k8 ?_; (case z9k1 => k_asm); (case z9k2 => k_asm); (case z9k3 => k_asm); (case z9k4 => k_asm); (case z9k5 => k_asm); (case z9k6 => first | exact rfl | assumption); (case z9k7 => k_extra "m my_rm"); (case z9k8 => k_extra "m my_rm"))))
  case q1 => exact hM.mono (fun p hp => .tail _ (.tail _ (.tail _ hp)))
  k_whole
  intro v8 l8 h8 tk8 hP8 F8 N8
  obtain ⟨⟨b8, t8, e8, hb8⟩, e9⟩ := hP8
  subst e8
  subst e9
  rw [hKS] at hb8
  (try dsimp only)
  k_extra "m my_walk"
  exact hret _ led _ _ ⟨⟨_, _, rfl, by assumption⟩, rfl⟩ (by k_asm) (by k_extra "m my_news")
theorem c_pkq1 (w : World) (x : Addr) (g wait : Int) (ns : List Int) (rs : List (Int × Int × List Int)) (led : List (Addr × Obj)) (hg0 : 0 ≤ g) (hg1 : g < 4294967296) (hw0 : 0 ≤ wait) (hw1 : wait ≤ 0) (hres : ([17, wait, 0, 0] ++ four g : List Int).length ≤ 70000) (hres2 : 8 ≤ ([17, wait, 0, 0] ++ four g : List Int).length) (hM : IsMsg w led x (Str.ofString "query") g wait ns 1 rs) :
    Ctr w 50 300 (.ref 193) [.ref x] led (fun v l => IsBy v (summed ([17, wait, 0, 0] ++ four g) 2) ∧ led = l) := by
  have hM' := hM
  obtain ⟨d, T, R, vs, rv, u1, u2, u3, u4, u5, u6, t1, t2, t3, t4, a, b, c, e, f, i⟩ := hM
  exact (c_pkq1o w x d T R u1 u2 u3 u4 u5 u6 t1 t2 t3 t4 g wait ns rs led hg0 hg1 hw0 hw1 hM' hres hres2).more (mem2 a b)
set_option maxHeartbeats 2000000 in
theorem c_pkq2o (w : World) (x d : Addr) (T R : Addr) (u1 u2 u3 u4 u5 u6 t1 t2 t3 t4 : Tok) (g wait : Int) (ns : List Int) (rs : List (Int × Int × List Int)) (led : List (Addr × Obj)) (hg0 : 0 ≤ g) (hg1 : g < 4294967296) (hw0 : 1 ≤ wait) (hw1 : wait ≤ 255) (hM : IsMsg w led x (Str.ofString "query") g wait ns 2 rs) (hres : ([17, wait, 0, 0] ++ four g : List Int).length ≤ 70000) (hres2 : 8 ≤ ([17, wait, 0, 0] ++ four g : List Int).length) :
    Ctr w 50 300 (.ref 193) [.ref x] ((x, instObj 182 d) :: (d, dictOf [kEn w (Str.ofString "kind") u1 (.str (Str.ofString "query") t1), kEn w (Str.ofString "group") u2 (.int g t2), kEn w (Str.ofString "wait") u3 (.int wait t3), kEn w (Str.ofString "sources") u4 (.ref T), kEn w (Str.ofString "version") u5 (.int 2 t4), kEn w (Str.ofString "records") u6 (.ref R)] 6) :: led) (fun v l => IsBy v (summed ([17, wait, 0, 0] ++ four g) 2) ∧ led = l) := by
  generalize hKS : ([17, wait, 0, 0] ++ four g : List Int) = KS at hres hres2 ⊢
  refine' Ctr.body (binds := [(Str.ofString "message", Value.ref x)]) ?z8o ?z8c ?z8b ?z8l ?z8k ?_
  case z8o => k_is
  case z8c => k_is
  case z8b => exact fun _ => BindsTo.of_eq (by kernel_rfl)
  case z8l => kernel_rfl
  case z8k => kernel_rfl
  intro mean mg mb dp un gd outer A₀ base g1 L1 hp1 gsq drq tkq osq Q E B1 F1 X1 N1 T1 hdp hun hret hE9
  intro _ _ _
  k_extra "m my_walk"
  (((k_extra "m my_fq"); k_dflt (refine' (Ctr.use (c_pq2 _ _ _ _ _ _ _ _ hg0 hg1 hw0 hw1 ?q1)) ?z9k1 ?z9k2 ?z9k3 ?z9k4 ?z9k5 ?z9k6 ?z9k7 ?z9k8 ?_; (case z9k1 => k_asm); (case z9k2 => k_asm); (case z9k3 => k_asm); (case z9k4 => k_asm); (case z9k5 => k_asm); (case z9k6 => first | exact rfl | assumption); (case z9k7 => k_extra "m my_rm"); (case z9k8 => k_extra "m my_rm"))))
  case q1 => exact hM.mono (fun p hp => .tail _ (.tail _ (.tail _ hp)))
  k_whole
  intro v8 l8 h8 tk8 hP8 F8 N8
  obtain ⟨⟨b8, t8, e8, hb8⟩, e9⟩ := hP8
  subst e8
  subst e9
  rw [hKS] at hb8
  (try dsimp only)
  k_extra "m my_walk"
  exact hret _ led _ _ ⟨⟨_, _, rfl, by assumption⟩, rfl⟩ (by k_asm) (by k_extra "m my_news")
theorem c_pkq2 (w : World) (x : Addr) (g wait : Int) (ns : List Int) (rs : List (Int × Int × List Int)) (led : List (Addr × Obj)) (hg0 : 0 ≤ g) (hg1 : g < 4294967296) (hw0 : 1 ≤ wait) (hw1 : wait ≤ 255) (hres : ([17, wait, 0, 0] ++ four g : List Int).length ≤ 70000) (hres2 : 8 ≤ ([17, wait, 0, 0] ++ four g : List Int).length) (hM : IsMsg w led x (Str.ofString "query") g wait ns 2 rs) :
    Ctr w 50 300 (.ref 193) [.ref x] led (fun v l => IsBy v (summed ([17, wait, 0, 0] ++ four g) 2) ∧ led = l) := by
  have hM' := hM
  obtain ⟨d, T, R, vs, rv, u1, u2, u3, u4, u5, u6, t1, t2, t3, t4, a, b, c, e, f, i⟩ := hM
  exact (c_pkq2o w x d T R u1 u2 u3 u4 u5 u6 t1 t2 t3 t4 g wait ns rs led hg0 hg1 hw0 hw1 hM' hres hres2).more (mem2 a b)
set_option maxHeartbeats 2000000 in
theorem c_pkq3o (w : World) (x d : Addr) (T R : Addr) (u1 u2 u3 u4 u5 u6 t1 t2 t3 t4 : Tok) (g wait : Int) (ns : List Int) (rs : List (Int × Int × List Int)) (led : List (Addr × Obj)) (code : Int) (hg0 : 0 ≤ g) (hg1 : g < 4294967296) (hw0 : 0 ≤ code) (hw1 : code < 256) (hz : ns.length ≤ 1000) (hns : ∀ n ∈ ns, 0 ≤ n ∧ n < 4294967296) (hM : IsMsg w led x (Str.ofString "query") g (timeOf code) ns 3 rs) (hres : ([17, code, 0, 0] ++ four g ++ [0, 0] ++ two ns.length ++ (ns.map four).flatten : List Int).length ≤ 70000) (hres2 : 8 ≤ ([17, code, 0, 0] ++ four g ++ [0, 0] ++ two ns.length ++ (ns.map four).flatten : List Int).length) :
    Ctr w 50 300 (.ref 193) [.ref x] ((x, instObj 182 d) :: (d, dictOf [kEn w (Str.ofString "kind") u1 (.str (Str.ofString "query") t1), kEn w (Str.ofString "group") u2 (.int g t2), kEn w (Str.ofString "wait") u3 (.int (timeOf code) t3), kEn w (Str.ofString "sources") u4 (.ref T), kEn w (Str.ofString "version") u5 (.int 3 t4), kEn w (Str.ofString "records") u6 (.ref R)] 6) :: led) (fun v l => IsBy v (summed ([17, code, 0, 0] ++ four g ++ [0, 0] ++ two ns.length ++ (ns.map four).flatten) 2) ∧ led = l) := by
  generalize hKS : ([17, code, 0, 0] ++ four g ++ [0, 0] ++ two ns.length ++ (ns.map four).flatten : List Int) = KS at hres hres2 ⊢
  refine' Ctr.body (binds := [(Str.ofString "message", Value.ref x)]) ?z8o ?z8c ?z8b ?z8l ?z8k ?_
  case z8o => k_is
  case z8c => k_is
  case z8b => exact fun _ => BindsTo.of_eq (by kernel_rfl)
  case z8l => kernel_rfl
  case z8k => kernel_rfl
  intro mean mg mb dp un gd outer A₀ base g1 L1 hp1 gsq drq tkq osq Q E B1 F1 X1 N1 T1 hdp hun hret hE9
  intro _ _ _
  k_extra "m my_walk"
  (((k_extra "m my_fq"); k_dflt (refine' (Ctr.use (c_pq3 _ _ _ _ _ _ _ _ hg0 hg1 hw0 hw1 hz hns ?q1)) ?z9k1 ?z9k2 ?z9k3 ?z9k4 ?z9k5 ?z9k6 ?z9k7 ?z9k8 ?_; (case z9k1 => k_asm); (case z9k2 => k_asm); (case z9k3 => k_asm); (case z9k4 => k_asm); (case z9k5 => k_asm); (case z9k6 => first | exact rfl | assumption); (case z9k7 => k_extra "m my_rm"); (case z9k8 => k_extra "m my_rm"))))
  case q1 => exact hM.mono (fun p hp => .tail _ (.tail _ (.tail _ hp)))
  k_whole
  intro v8 l8 h8 tk8 hP8 F8 N8
  obtain ⟨⟨b8, t8, e8, hb8⟩, e9⟩ := hP8
  subst e8
  subst e9
  rw [hKS] at hb8
  (try dsimp only)
  k_extra "m my_walk"
  exact hret _ led _ _ ⟨⟨_, _, rfl, by assumption⟩, rfl⟩ (by k_asm) (by k_extra "m my_news")
theorem c_pkq3 (w : World) (x : Addr) (g wait : Int) (ns : List Int) (rs : List (Int × Int × List Int)) (led : List (Addr × Obj)) (code : Int) (hg0 : 0 ≤ g) (hg1 : g < 4294967296) (hw0 : 0 ≤ code) (hw1 : code < 256) (hz : ns.length ≤ 1000) (hns : ∀ n ∈ ns, 0 ≤ n ∧ n < 4294967296) (hres : ([17, code, 0, 0] ++ four g ++ [0, 0] ++ two ns.length ++ (ns.map four).flatten : List Int).length ≤ 70000) (hres2 : 8 ≤ ([17, code, 0, 0] ++ four g ++ [0, 0] ++ two ns.length ++ (ns.map four).flatten : List Int).length) (hM : IsMsg w led x (Str.ofString "query") g (timeOf code) ns 3 rs) :
    Ctr w 50 300 (.ref 193) [.ref x] led (fun v l => IsBy v (summed ([17, code, 0, 0] ++ four g ++ [0, 0] ++ two ns.length ++ (ns.map four).flatten) 2) ∧ led = l) := by
  have hM' := hM
  obtain ⟨d, T, R, vs, rv, u1, u2, u3, u4, u5, u6, t1, t2, t3, t4, a, b, c, e, f, i⟩ := hM
  exact (c_pkq3o w x d T R u1 u2 u3 u4 u5 u6 t1 t2 t3 t4 g wait ns rs led code hg0 hg1 hw0 hw1 hz hns hM' hres hres2).more (mem2 a b)
end

theorem rows_16 : True := by
  k_with "m my_stop" => (
  (fail_if_success (with_reducible show wpAny _ _ (eval (Expr.ListComp _ _ _ _) _) _ _ _))
  (fail_if_success (with_reducible show wpAny _ _ (pyIter _) _ _ _))
  (fail_if_success (with_reducible show wpAny _ _ (exec (Stmt.For _ _ _ _ _) _) _ _ _))
  (fail_if_success (with_reducible show wpAny _ _ (exec (Stmt.While _ _ _ _) _) _ _ _)))
  k_with "m my_stop" => (
  (fail_if_success (with_reducible show wpAny _ _ (eval (Expr.ListComp _ _ _ _) _) _ _ _))
  (fail_if_success (with_reducible show wpAny _ _ (pyIter _) _ _ _))
  (fail_if_success (with_reducible show wpAny _ _ (exec (Stmt.For _ _ _ _ _) _) _ _ _))
  (fail_if_success (with_reducible show wpAny _ _ (exec (Stmt.While _ _ _ _) _) _ _ _))
  (fail_if_success (with_reducible show wpAny _ _ (call (Value.ref 150) _) _ _ _)))
  trivial

section
def RdsIn (w : World) (l : List (Addr × Obj)) (v : Value) (d : PyData) : Prop := ∀ (h₀ h : Heap) (L : Addr) (m : Str → Option Value), Fr h₀ L h m → (kay.heap_1 w.params).In h₀ → News h₀ L h l → Reads h v d []
theorem RdsIn.mono {w : World} {l l' : List (Addr × Obj)} {v : Value} {d : PyData} (h : RdsIn w l v d) (hs : ∀ p ∈ l, p ∈ l') : RdsIn w l' v d := fun h₀ hp L m F X N => h h₀ hp L m F X fun p hp => N p (hs p hp)
theorem rds_ints {w : World} {l : List (Addr × Obj)} {T : Addr} {vs : List Value} {ns : List Int} (hT : TupIn w l T vs) (hi : IntsAre vs ns) : RdsIn w l (.ref T) (.tuple (ns.map .int)) := fun h₀ h L m F X N => by
  obtain ⟨n, e⟩ := hT.at (s := ⟨h, #[], {}, 0, default⟩) F X N
  exact .tuple e rfl rfl (by simpa using hi.reads h)
inductive RdsAll (w : World) (l : List (Addr × Obj)) : List Value → List PyData → Prop
  | nil : RdsAll w l [] []
  | cons {v : Value} {d : PyData} {vs : List Value} {ds : List PyData} : RdsIn w l v d → RdsAll w l vs ds → RdsAll w l (v :: vs) (d :: ds)
theorem RdsAll.reads {w : World} {l : List (Addr × Obj)} {vs : List Value} {ds : List PyData} (a : RdsAll w l vs ds) {h₀ h : Heap} {L : Addr} {m : Str → Option Value} (F : Fr h₀ L h m) (X : (kay.heap_1 w.params).In h₀) (N : News h₀ L h l) : ReadsAll h vs ds [] := by
  induction a with
  | nil => exact .nil
  | cons x _ ih => exact .cons (as := []) (x h₀ h L m F X N) ih
theorem RdsAll.mono {w : World} {l l' : List (Addr × Obj)} {vs : List Value} {ds : List PyData} (a : RdsAll w l vs ds) (hs : ∀ p ∈ l, p ∈ l') : RdsAll w l' vs ds := by
  induction a with
  | nil => exact .nil
  | cons x _ ih => exact .cons (x.mono hs) ih
theorem RdsAll.snoc {w : World} {l : List (Addr × Obj)} {vs : List Value} {ds : List PyData} {v : Value} {d : PyData} (a : RdsAll w l vs ds) (b : RdsIn w l v d) : RdsAll w l (vs ++ [v]) (ds ++ [d]) := by
  induction a with
  | nil => exact .cons b .nil
  | cons x _ ih => exact .cons x ih
theorem rds_tup {w : World} {l : List (Addr × Obj)} {D : Addr} {vs : List Value} {n : Nat} {ds : List PyData} (hm : (D, tupObj vs n) ∈ l) (a : RdsAll w l vs ds) : RdsIn w l (.ref D) (.tuple ds) := fun h₀ h L m F X N =>
  .tuple (N _ hm).1 rfl rfl (a.reads F X N)
theorem rds_int {w : World} {l : List (Addr × Obj)} (i : Int) (t : Tok) : RdsIn w l (.int i t) (.int i) := fun _ _ _ _ _ _ _ => .int i t
theorem rds_str {w : World} {l : List (Addr × Obj)} (i : Str) (t : Tok) : RdsIn w l (.str i t) (.str i) := fun _ _ _ _ _ _ _ => .str i t
def recPy (r : Int × Int × List Int) : PyData := .tuple [.int r.1, .int r.2.1, .tuple (r.2.2.map .int)]
def msgPy (kind : Str) (g wait : Int) (ns : List Int) (ver : Int) (rs : List (Int × Int × List Int)) : PyData := .tuple [.str kind, .int g, .int wait, .tuple (ns.map .int), .int ver, .tuple (rs.map recPy)]
set_option maxHeartbeats 2000000 in
theorem c_rtold (w : World) (x d S : Addr) (k g : Int) (u1 u2 u3 t1 t2 : Tok) (led : List (Addr × Obj)) :
    Ctr w 30 200 (.ref 150) [.ref x] ((x, instObj 153 d) :: (d, dictOf [kEn w (Str.ofString "kind") u1 (.int k t1), kEn w (Str.ofString "group") u2 (.int g t2), kEn w (Str.ofString "sources") u3 (.ref S)] 3) :: led) (fun v l' => ∃ D, v = .ref D ∧ (∀ p ∈ led, p.1 < D) ∧ (D, tupObj [.int k t1, .int g t2, .ref S] 0) :: led = l') := by
  refine Ctr.open ?_
  intro mean mg mb dp un gd cn cs a ccd cl outer A₀ base h₀ L m hpq gsq drq tkq osq Q E B F X N T hk hdp hun hret
  (
  refine wpAny_call ?_
  k_dflt (refine' code_def (binds := [(Str.ofString "self", Value.ref x)]) ?z9k1 ?z9k2 ?z9k3 ?z9k4 ?z9k5 ?z9kA ?z9kF ?z9kK ?z9k6 ?z9k7 ?z9k8 ?z9k9 ?z9kB ?_ ?z9c2 ?z9c3 ?z9c4 ?z9c5; (case z9kA => eq_refl); (case z9kF => eq_refl); (case z9kK => assumption); (case z9k1 => k_asm); (case z9k2 => k_asm); (case z9k3 => k_asm); (case z9k4 => k_asm); (case z9k5 => k_asm); (case z9k6 => k_is); (case z9k7 => k_is); (case z9k8 => ktr_room); (case z9k9 => exact BindsTo.of_eq (by kernel_rfl)); (case z9c5 => decide); (case z9kB => exact locs rfl); (case z9c2 => eq_refl); (case z9c3 => eq_refl); (case z9c4 => eq_refl); k_whole))
  intro g1 L1 hp1 FG F1 N1 B1 X1 T1
  k_extra "m my_ent"
  k_extra "m my_walk"
  (with_reducible rename News _ _ _ _ => N9)
  (with_reducible rename _ ∧ _ ∧ AllLt _ _ => l9)
  exact hret _ _ _ _ ⟨_, rfl, allLt_mem _ l9.2.2, rfl⟩ (by k_asm) (fun p hp => (List.mem_cons.mp hp).elim (fun e => e ▸ N9 _ (.head _)) (fun e => N9 p (.tail _ (.tail _ (.tail _ e)))))
section
variable {prog : Program} {w : World} {A : Around} {E : Value → Shared → Prop} {s : Shared} {h₀ : Heap} {L : Addr} {m : Str → Option Value} {env : Env}
theorem comp_tupG {elt : Expr} {x : Str} {scope : Scope} {cl : List (Str × Addr)} {Q : Value → Shared → Prop} {r : Addr} {vs : List Value} {news : List (Addr × Obj)} (R : Nat → List Value → List (Addr × Obj) → Prop)
    (hh : A.handled = none) (F : Fr h₀ L s.heap m) (X : (kay.heap_1 w.params).In h₀) (N : News h₀ L s.heap news) (hr : TupIn w news r vs) (hsz : vs.length ≤ 16384) (hj : R 0 [] news)
    (turn : ∀ (i : Nat) (ys : List Value) (v : Value) (news₁ : List (Addr × Obj)) (I : Addr) (oI : Obj) (C : Addr) (oC : Obj) (D : Addr) (m₂ : Str → Option Value) (h : Heap) (tk : Nat) (S : List (Addr × Obj) → Prop) (E' : Value → Shared → Prop),
      (∀ nw, Adds news nw → S nw) → Adds news news₁ → i < vs.length → ys.length = i → R i ys news₁ → vs[i]? = some v → NsObj oC m₂ → m₂ x = some v → Fr h₀ L h m → News h₀ L h ((I, oI) :: (C, oC) :: (D, lst ys) :: news₁) → Off3 I C D news₁ → ((@Ne Nat I C) ∧ (@Ne Nat I D) ∧ (@Ne Nat C D)) →
      ∀ g, wpAny (model prog w) A (eval elt (compEnvC scope cl C env)) (CompEnd h₀ L m { s with heap := h, toks := tk } I oI C oC D (lst ys) S (fun y news' => Adds news news' ∧ R (i + 1) (ys ++ [y]) news')) E' { ({ s with heap := g } : Shared) with heap := h, toks := tk })
    (fin : ∀ ys news', Adds news news' → ys.length = vs.length → R vs.length ys news' → FinE h₀ L m s Q ys news') :
    wpAny (model prog w) A (pyIter (.ref r)) (CompAt prog w A h₀ L m env elt x scope cl Q) E s :=
  comp_tupIn (news := news) (fun i ys nw => Adds news nw ∧ R i ys nw) hh F X N hr (by rw [sizeLine_eq]; omega) ⟨Adds.refl _, hj⟩
    (fun g i ys news₁ v I oI C oC D m₂ h tk E' hi hl hJ hP hC hx F' N' off ne =>
      turn i ys v news₁ I oI C oC D m₂ h tk _ E' (fun nw a => a.sub) hJ.1 hi hl hJ.2 hP hC hx F' N' off ne g)
    (fun ys news' hl hJ => fin ys news' hJ.1 hl hJ.2)
end
set_option maxHeartbeats 2000000 in
theorem c_mtold (w : World) (x : Addr) (kind : Str) (g wait ver : Int) (ns : List Int) (rs : List (Int × Int × List Int)) (led : List (Addr × Obj)) (hz : rs.length ≤ 1000) (hM : IsMsg w led x kind g wait ns ver rs) :
    Ctr w 40 300 (.ref 179) [.ref x] led (fun v l' => ∃ D, v = .ref D ∧ Adds led l' ∧ RdsIn w l' v (msgPy kind g wait ns ver rs)) := by
  obtain ⟨d, S, R, vs, rv, u1, u2, u3, u4, u5, u6, t1, t2, t3, t4, a1, b1, hS, hi, hR, hrs⟩ := hM
  have hrl := hrs.len
  refine Ctr.open ?_
  intro mean mg mb dp un gd cn cs a ccd cl outer A₀ base h₀ L m hpq gsq drq tkq osq Q E B F X N T hk hdp hun hret
  have N0 := fun p hp => N p (mem2 a1 b1 p hp)
  have N0' : News h₀ L hpq ((x, _) :: (d, _) :: led) := N0
  clear N0 N
  (
  refine wpAny_call ?_
  k_dflt (refine' code_def (binds := [(Str.ofString "self", Value.ref x)]) ?z9k1 ?z9k2 ?z9k3 ?z9k4 ?z9k5 ?z9kA ?z9kF ?z9kK ?z9k6 ?z9k7 ?z9k8 ?z9k9 ?z9kB ?_ ?z9c2 ?z9c3 ?z9c4 ?z9c5; (case z9kA => eq_refl); (case z9kF => eq_refl); (case z9kK => assumption); (case z9k1 => k_asm); (case z9k2 => k_asm); (case z9k3 => k_asm); (case z9k4 => k_asm); (case z9k5 => k_asm); (case z9k6 => k_is); (case z9k7 => k_is); (case z9k8 => ktr_room); (case z9k9 => exact BindsTo.of_eq (by kernel_rfl)); (case z9c5 => decide); (case z9kB => exact locs rfl); (case z9c2 => eq_refl); (case z9c3 => eq_refl); (case z9c4 => eq_refl); k_whole))
  intro g1 L1 hp1 FG F1 N1 B1 X1 T1
  k_extra "m my_ent"
  k_extra "m my_walk"
  k_dflt (refine comp_gen (by k_asm) (by rfl) (by decide) (by rfl) (by decide) (by rfl) ?_ (fun _ => rfl))
  k_extra "m my_walk"
  (with_reducible rename Fr _ _ _ _ => F5)
  (with_reducible rename News _ _ _ _ => N5)
  have N6 := News.tail (News.tail N5)
  k_dflt (refine comp_tupG (vs := rv) (fun i ys nw => RdsAll w nw ys ((rs.take i).map recPy)) (by rfl) F5 (by assumption) N6 hR (by omega) .nil ?_ ?_)
  · intro i ys v news₁ I oI C oC D m₂ h2 tk2 S2 E' hS2 hA hi' hl hys hP hC hx F' N' off2 ne g2
    (try dsimp only)
    k_extra "m my_fq"
    obtain ⟨xr, k, g', nsr, rfl, hrj, hrec⟩ := hrs.at i v hP
    obtain ⟨dr, Tr, vr, v1, v2, v3, s1, s2, ha, hb, hTr, hir⟩ := hrec
    have N2 : News g1 _ h2 ((xr, _) :: (dr, _) :: (I, oI) :: (C, oC) :: (D, lst ys) :: news₁) := fun p hp => by
      rcases List.mem_cons.mp hp with rfl | hp
      · exact N' _ (.tail _ (.tail _ (.tail _ (hA.sub _ ha))))
      · rcases List.mem_cons.mp hp with rfl | hp
        · exact N' _ (.tail _ (.tail _ (.tail _ (hA.sub _ hb))))
        · exact N' _ hp
    clear N'
    k_extra "m my_walk"
    dsimp only [List.cons_append, List.nil_append]
    ((((k_extra "m my_fq"); k_dflt (refine' (Ctr.use (c_rtold _ _ _ _ _ _ _ _ _ _ _ _)) ?z9k1 ?z9k2 ?z9k3 ?z9k4 ?z9k5 ?z9k6 ?z9k7 ?z9k8 ?_; (case z9k1 => k_asm); (case z9k2 => k_asm); (case z9k3 => k_asm); (case z9k4 => k_asm); (case z9k5 => k_asm); (case z9k6 => first | exact rfl | assumption); (case z9k7 => k_extra "m my_rm"); (case z9k8 => k_extra "m my_rm"))); k_whole))
    intro v8 l8 h8 tk8 hP8 F8 N8
    obtain ⟨D8, rfl, hlt8, rfl⟩ := hP8
    (try dsimp only)
    k_extra "m my_walk"
    (with_reducible rename Fr _ _ _ _ => F9)
    (with_reducible rename News _ _ _ _ => N9)
    have hA2 : Adds led ((D8, tupObj [.int k s1, .int g' s2, .ref Tr] 0) :: news₁) := hA.cons (fun q hq => hlt8 q (.tail _ (.tail _ (.tail _ (hA.sub q hq)))))
    refine CompEnd.intro F9 N9 ((D8, tupObj [.int k s1, .int g' s2, .ref Tr] 0) :: news₁) (fun p hp => ?_) ⟨⟨Nat.ne_of_gt (hlt8 (I, oI) (.head _)), Nat.ne_of_gt (hlt8 (C, oC) (.tail _ (.head _))), Nat.ne_of_gt (hlt8 (D, lst ys) (.tail _ (.tail _ (.head _))))⟩, off2⟩ (hS2 _ hA2) ⟨hA2, ?_⟩
    · rcases List.mem_cons.mp hp with rfl | hp
      · exact .tail _ (.head _)
      · rcases List.mem_cons.mp hp with rfl | hp
        · exact .tail _ (.tail _ (.head _))
        · rcases List.mem_cons.mp hp with rfl | hp
          · exact .tail _ (.tail _ (.tail _ (.head _)))
          · rcases List.mem_cons.mp hp with rfl | hp
            · exact .head _
            · exact .tail _ (.tail _ (.tail _ (.tail _ hp)))
    · rw [List.take_add_one, hrj, List.map_append]
      exact (hys.mono (fun p hp => .tail _ hp)).snoc (rds_tup (.head _) (.cons (rds_int _ _) (.cons (rds_int _ _) (.cons (rds_ints (hTr.mono (fun p hp => .tail _ (hA.sub p hp))) hir) .nil))))
  · intro ys news' hA hl hys
    intro D h2 tk2 F' N' off2
    dsimp only
    have N2 : News g1 _ h2 ((D, lst ys) :: (x, _) :: (d, _) :: news') := fun p hp => by
      rcases List.mem_cons.mp hp with rfl | hp
      · exact N' _ (.head _)
      · rcases List.mem_cons.mp hp with rfl | hp
        · exact N' _ (.tail _ (hA.sub _ a1))
        · rcases List.mem_cons.mp hp with rfl | hp
          · exact N' _ (.tail _ (hA.sub _ b1))
          · exact N' _ (.tail _ hp)
    clear N'
    have hyl : ys.length ≤ 1000 := by omega
    k_extra "m my_walk"
    rename_i R1a hha lR hhb _ _ _ _ _ _ _ D1a hhc Fa Na lD kF kN kT kX2
    rw [hrl, List.take_length] at hys
    refine hret _ ((D1a, tupObj [.str kind t1, .int g t2, .int wait t3, .ref S, .int ver t4, .ref R1a] 0) :: (R1a, tupObj ys 0) :: news') _ _ ⟨_, rfl, (hA.cons (fun q hq => allLt_mem _ lR.2.2.2 q (hA.sub q hq))).cons (fun q hq => allLt_mem _ lD.2.2.2.2 q (hA.sub q hq)), ?_⟩ (by k_asm) (fun p hp => ?_)
    · exact rds_tup (.head _) (.cons (rds_str _ _) (.cons (rds_int _ _) (.cons (rds_int _ _) (.cons (rds_ints (hS.mono (fun p hp => .tail _ (.tail _ (hA.sub p hp)))) hi) (.cons (rds_int _ _) (.cons (rds_tup (.tail _ (.head _)) (hys.mono (fun p hp => .tail _ (.tail _ hp)))) .nil))))))
    · rcases List.mem_cons.mp hp with rfl | hp
      · exact kN _ (.head _)
      · rcases List.mem_cons.mp hp with rfl | hp
        · exact kN _ (.tail _ (.head _))
        · exact kN _ (.tail _ (.tail _ (.tail _ (.tail _ (.tail _ hp)))))
end

theorem rows_17 : True := by
  k_with "m my_stop" => (
  (fail_if_success (with_reducible show wpAny _ _ (eval (Expr.ListComp _ _ _ _) _) _ _ _))
  (fail_if_success (with_reducible show wpAny _ _ (pyIter _) _ _ _))
  (fail_if_success (with_reducible show wpAny _ _ (exec (Stmt.For _ _ _ _ _) _) _ _ _))
  (fail_if_success (with_reducible show wpAny _ _ (exec (Stmt.While _ _ _ _) _) _ _ _)))
  k_with "m my_walk" => (repeat' (first | (k_unfold; (try dsimp only)) | (k_extra "m my_stop"; first | walk1 | (dsimp only; walk1) | (dsimp only; k_unfold; (try dsimp only)) | (dsimp only [List.cons_append, List.nil_append]; walk1))))
  k_with "m my_walk" => (repeat' (first | (k_unfold; (try dsimp only)) | (k_extra "m my_stopB"; first | walk1 | (dsimp only; walk1) | (dsimp only; k_unfold; (try dsimp only)) | (dsimp only [List.cons_append, List.nil_append]; walk1))))
  k_with "m k_all" => (assumption)
  k_with "m k_all" => (first | assumption | (with_reducible refine ne_cons ?z9ka ?z9kb; (case z9ka => k_ne); (case z9kb => k_all)))
  k_with "m call type:range" => (k_here; (first | (with_unfolding_all refine' range1E ?z9kF ?z9kN ?_; (case z9kF => k_asm); (case z9kN => k_asm)) | (with_unfolding_all refine' range2E ?z9kF ?z9kN ?_; (case z9kF => k_asm); (case z9kN => k_asm))); intro _ _ _ _ _ _ _ _ _)
  k_with "m my_stopB" => (
  (fail_if_success (with_reducible show wpAny _ _ (eval (Expr.ListComp _ _ _ _) _) _ _ _))
  (fail_if_success (with_reducible show wpAny _ _ (pyIter _) _ _ _))
  (fail_if_success (with_reducible show wpAny _ _ (exec (Stmt.For _ _ _ _ _) _) _ _ _))
  (fail_if_success (with_reducible show wpAny _ _ (exec (Stmt.While _ _ _ _) _) _ _ _))
  (fail_if_success (with_reducible show wpAny _ _ (call (Value.ref 153) _) _ _ _))
  (fail_if_success (with_reducible show wpAny _ _ (exec (Stmt.Assign _ (Expr.ListComp _ _ _ _) _) _) _ _ _))
  (fail_if_success (with_reducible show wpAny _ _ (call (Value.ref 182) _) _ _ _)))
  k_with "m my_asn" => (with_reducible refine wpAny_Assign_Name ?_ ?_; rotate_left; with_unfolding_all rfl)
  trivial

section
section
variable {prog : Program} {w : World} {A : Around} {E : Value → Shared → Prop} {s : Shared} {h₀ : Heap} {L : Addr} {m : Str → Option Value} {env : Env}
theorem comp_listC {elt : Expr} {x : Str} {scope : Scope} {cl : List (Str × Addr)} {Q : Value → Shared → Prop} {r : Addr} {vs : List Value} {k : Nat} {news : List (Addr × Obj)} (R : Nat → List Value → Prop)
    (hh : A.handled = none) (F : Fr h₀ L s.heap m) (N : News h₀ L s.heap news) (hr : (r, PySem.W.listOf vs.toArray k) ∈ news) (hsz : vs.length ≤ 16384) (hj : R 0 [])
    (turn : ∀ (i : Nat) (ys : List Value) (v : Value) (I : Addr) (oI : Obj) (C : Addr) (oC : Obj) (D : Addr) (m₂ : Str → Option Value) (h : Heap) (tk : Nat) (S : List (Addr × Obj) → Prop) (E' : Value → Shared → Prop),
      S news → i < vs.length → ys.length = i → R i ys → vs[i]? = some v → NsObj oC m₂ → m₂ x = some v → Fr h₀ L h m → News h₀ L h ((I, oI) :: (C, oC) :: (D, lst ys) :: news) → Off3 I C D news → ((@Ne Nat I C) ∧ (@Ne Nat I D) ∧ (@Ne Nat C D)) →
      ∀ g, wpAny (model prog w) A (eval elt (compEnvC scope cl C env)) (CompEnd h₀ L m { s with heap := h, toks := tk } I oI C oC D (lst ys) S (fun y news' => news' = news ∧ R (i + 1) (ys ++ [y]))) E' { ({ s with heap := g } : Shared) with heap := h, toks := tk })
    (fin : ∀ ys, ys.length = vs.length → R vs.length ys → FinE h₀ L m s Q ys news) :
    wpAny (model prog w) A (pyIter (.ref r)) (CompAt prog w A h₀ L m env elt x scope cl Q) E s :=
  comp_list (news := news) (fun i ys nw => nw = news ∧ R i ys) hh F N hr (by rw [sizeLine_eq]; omega) ⟨rfl, hj⟩
    (fun g i ys news₁ v I oI C oC D m₂ h tk E' hi hl hJ hP hC hx F' N' off ne => by
      obtain ⟨rfl, hR⟩ := hJ
      exact turn i ys v I oI C oC D m₂ h tk _ E' hr hi hl hR hP hC hx F' N' off ne g)
    (fun ys news' hl hJ => by
      obtain ⟨rfl, hR⟩ := hJ
      exact fin ys hl hR)
end
section
variable {prog : Program} {w : World} {A : Around} {E : Value → Shared → Prop} {s : Shared} {h₀ : Heap} {m : Str → Option Value} {env : Env}
def AsnAt (prog : Program) (w : World) (A : Around) (h₀ : Heap) (m : Str → Option Value) (env : Env) (elt : Expr) (x y : Str) (scope : Scope) (cl : List (Str × Addr)) (Q : Flow → Shared → Prop) (xv : Value) (s₁ : Shared) : Prop :=
  ∃ r a b c t u v n news J, xv = .ref r ∧ A.handled = none ∧ IsRange s₁.heap r a b c t u v ∧ Builtin.Range.small a b c = true ∧ Builtin.Range.rangeSize a b c = ((n : Nat) : Int) ∧ n ≤ sizeLine ∧ Fr h₀ env.locals s₁.heap m ∧ News h₀ env.locals s₁.heap news ∧ J 0 [] news ∧
    (∀ g, CompTurn prog w A h₀ env.locals m env elt x scope cl { s₁ with heap := g } (fun _ => True) (fun i v => ∃ t, v = .int (a + (i : Int) * c) t) n J) ∧ (∀ ys news', ys.length = n → J n ys news' → FinA h₀ env.locals m s₁ y Q ys news')
theorem AsnAt.intro {elt : Expr} {x y : Str} {scope : Scope} {cl : List (Str × Addr)} {Q : Flow → Shared → Prop} {s₁ : Shared} {r : Addr} {a b c : Int} {t u v : Tok} {n : Nat} {news : List (Addr × Obj)} (J : Nat → List Value → List (Addr × Obj) → Prop)
    (hh : A.handled = none) (F : Fr h₀ env.locals s₁.heap m) (N : News h₀ env.locals s₁.heap news) (hr : IsRange s₁.heap r a b c t u v) (hsm : Builtin.Range.small a b c = true) (hn : Builtin.Range.rangeSize a b c = ((n : Nat) : Int)) (hsz : n ≤ sizeLine) (hj : J 0 [] news)
    (turn : ∀ g, CompTurn prog w A h₀ env.locals m env elt x scope cl { s₁ with heap := g } (fun _ => True) (fun i v => ∃ t, v = .int (a + (i : Int) * c) t) n J) (fin : ∀ ys news', ys.length = n → J n ys news' → FinA h₀ env.locals m s₁ y Q ys news') :
    AsnAt prog w A h₀ m env elt x y scope cl Q (.ref r) s₁ := ⟨r, a, b, c, t, u, v, n, news, J, rfl, hh, hr, hsm, hn, hsz, F, N, hj, turn, fin⟩
theorem comp_asn {elt iter : Expr} {x y : Str} {px py : Pos} {scope : Scope} {cl : List (Str × Addr)} {pos spos : Pos} {Q : Flow → Shared → Prop} (_F₀ : Fr h₀ env.locals s.heap m)
    (hsw : swapsWith (.ListComp elt [⟨.Name x px, iter, [], 0⟩] scope pos) (some (.Name y py)) spos.line env = pure true)
    (hclos : closureFor scope env = pure cl) (hcell : ∀ z ∈ scope.names, z.2 ≠ .cell) (hkind : scope.kind = .function)
    (hnames : ∀ z ∈ scope.names, z.2 = .local → scope.names.lookup z.1 = some .local) (hx : scope.names.lookup x = some .local)
    (hy : env.kindOf y = some .local) (hp : (env.scope.kind == .class || (env.scope.kind == .module && env.locals != env.globals)) = false)
    (h : wpAny (model prog w) A (eval iter env) (AsnAt prog w A h₀ m env elt x y scope cl Q) E s)
    (hs : ∀ x, foldedSetIterable iter env x = pure x := by intro _; rfl) :
    wpAny (model prog w) A (exec (.Assign [.Name y py] (.ListComp elt [⟨.Name x px, iter, [], 0⟩] scope pos) spos) env) Q E s := by
  rw [exec_Assign_Name_used _ _ _ _ hsw]
  refine wpAny_bind (wpAny_standAt (wpAny_bind ?_))
  show wpAny _ A (do let _ ← comprehension (.ListComp elt [⟨.Name x px, iter, [], 0⟩] scope pos) scope env _ (newList []) false (eval iter env) (some (assign (.Name y py) env))) _ _ s
  refine wpAny_bind (wpAny_mono (wpAny_comprehension_free (use := some (assign (.Name y py) env)) (Q := fun _ s' => Q .next s') rfl hs hclos hkind hnames
    (wpAny_mono h (fun xv s₁ h₁ => ?_) fun _ _ e => e)) (fun _ s' hq => wpAny_pure (wpAny_pure hq)) fun _ _ e => e)
  obtain ⟨r, a, b, c, t, u, v, n, news, J, rfl, hh, hr, hsm, hn, hsz, F, N, hj, turn, fin⟩ := h₁
  refine wpAny_pyIter_range hr hsm ?_
  have W := Walks.range (prog := prog) (w := w) hh s₁.heap.objs.size a c n
  refine block_U W hsz (fun i h st => ⟨_, st⟩) (S := fun _ => True) ?_ hcell hkind hx (by show IsRangeIter _ _ _ _ _; rw [hn]; simpa using Heap.get?_push_size _ rfl) (fun b hb => ?_)
    (F.keeps fun _ _ e => Heap.get?_push_of_some _ e) (N.grown fun _ _ e => Heap.get?_push_of_some _ e) (Nat.ne_of_lt F.ns.lt) (next_is_new F) (fun p hp => Nat.ne_of_lt (Heap.lt_size (N p hp).1)) trivial (compRest_of (turn _) fin n 0 [] news (by omega) rfl hj) ?_
  · intro i h h' o nw st e e' _ _ _
    have st' : h.get? s₁.heap.objs.size = some _ := st
    show h'.get? s₁.heap.objs.size = some _
    rw [e', ← e]; exact st'
  · rw [List.mem_singleton.mp hb]
    show s₁.heap.objs.size < (s₁.heap.push _).objs.size
    rw [Heap.size_push]; exact Nat.lt_succ_self _
  · intro D C h' tk m' ys news' F' N' o1 hn hC₀ hD₀ hCL hDL hCD offC fin
    show wpAny _ A (assign (.Name y py) env (.ref D)) _ _ _
    refine wpAny_assign_Name (wpAny_storeName_local hy F'.ns (fun h₂ hn₂ hs₂ => ?_) hp)
    have hL₀ : h₀.get? env.locals = none := Heap.get?_none_of_le F'.above
    have F₂ : Fr h₀ env.locals h₂ (fun z => if z = y then some (.ref D) else m z) := ⟨hn₂, fun b o e => hs₂.extBut b o (fun q => by rw [q, hL₀] at e; cases e) (F'.keep b o e), F'.above⟩
    refine ⟨m', hn.sameBut hs₂ hCL, fun h'' hs'' => fin D h'' _ (F₂.change hs'' hCL hC₀) (fun p hp => ?_) o1⟩
    have z : h₂.get? p.1 = some p.2 := hs₂.extBut _ _ (N' p hp).2.1 (N' p hp).1
    refine ⟨hs''.extBut _ _ ?_ z, (N' p hp).2⟩
    rcases List.mem_cons.mp hp with rfl | hp
    · exact Ne.symm hCD
    · exact offC p hp
end
set_option maxHeartbeats 2000000 in
theorem c_recN (w : World) (k g : Int) (tk0 tg : Tok) (l : Addr) (vs : List Value) (ns : List Int) (n : Nat) (led : List (Addr × Obj)) (hm : (l, PySem.W.listOf vs.toArray n) ∈ led) (hz : vs.length ≤ 1000) (hi : IntsAre vs ns) :
    Ctr w 20 160 (.ref 153) [.int k tk0, .int g tg, .ref l] led (fun v l' => ∃ x tl, v = .ref x ∧ (∀ q ∈ led, ∀ p ∈ tl, q.1 < p.1) ∧ tl ++ led = l' ∧ IsRec w tl x k g ns) := by
  refine Ctr.open ?_
  intro mean mg mb dp un gd cn cs a ccd cl outer A₀ base h₀ L m hpq gsq drq tkq osq Q E B F X N T hk hdp hun hret
  k_extra "m my_make"
  intro x6 d6 h6 F6 N6 l61 l62
  have l63 := l61
  (try k_lt l61); (try k_lt2 l62)
  (
  k_dflt (refine' code_def (binds := [(Str.ofString "self", Value.ref x6), (Str.ofString "kind", Value.int k tk0), (Str.ofString "group", Value.int g tg), (Str.ofString "sources", Value.ref l)]) ?z9k1 ?z9k2 ?z9k3 ?z9k4 ?z9k5 ?z9kA ?z9kF ?z9kK ?z9k6 ?z9k7 ?z9k8 ?z9k9 ?z9kB ?_ ?z9c2 ?z9c3 ?z9c4 ?z9c5; (case z9kA => eq_refl); (case z9kF => eq_refl); (case z9kK => assumption); (case z9k1 => k_asm); (case z9k2 => k_asm); (case z9k3 => k_asm); (case z9k4 => k_asm); (case z9k5 => k_asm); (case z9k6 => k_is); (case z9k7 => k_is); (case z9k8 => k_extra "m my_room"); (case z9k9 => first | exact BindsTo.of_eq (by kernel_rfl!) | exact binds_K (by k_in) rfl (by k_is) rfl rfl rfl); (case z9c5 => decide); (case z9kB => exact locs rfl); (case z9c2 => eq_refl); (case z9c3 => eq_refl); (case z9c4 => eq_refl); k_whole))
  intro g1 L1 hp1 FG F1 N1 B1 X1 T1
  k_extra "m my_ent"
  k_extra "m my_walk"
  have hadd : ∀ (D : Addr) (oT oX oD : Obj), x6 < D → ∀ q ∈ led, ∀ p ∈ [(D, oT), (x6, oX), (d6, oD)], q.1 < p.1 := fun D oT oX oD hD q hq p hp => by
    have h1 := l63 q hq
    have h2 : q.1 < x6 := Nat.lt_trans h1 (by omega)
    simp only [List.mem_cons, List.not_mem_nil, or_false] at hp
    rcases hp with rfl | rfl | rfl
    · exact Nat.lt_trans h2 hD
    · exact h2
    · exact h1
  have hx := ‹x6 < _ ∧ d6 < _ ∧ AllLt _ led›
  refine hret _ _ _ _ ⟨_, [(_, _), (_, _), (_, _)], rfl, hadd _ _ _ _ hx.1, rfl, ?_⟩ (by k_asm) (by k_asm)
  exact ⟨_, _, _, _, _, _, _, _, .tail _ (.head _), .tail _ (.tail _ (.head _)), ⟨0, .inl (.head _)⟩, hi⟩
def RG (r : Int × Int × List Int) : Prop := RecGood r ∧ r.2.2.length ≤ 2
theorem recs_len2 (rs : List (Int × Int × List Int)) (h : ∀ r ∈ rs, RG r) : (rs.map recBytes).flatten.length ≤ 16 * rs.length := by
  induction rs with
  | nil => exact Nat.le_refl _
  | cons a r ih =>
    have h1 := ih (fun x hx => h x (.tail _ hx))
    have h2 := (h a (.head _)).2
    rw [List.map_cons, List.flatten_cons, List.length_append, recBytes_len, List.length_cons]
    omega
set_option maxHeartbeats 2000000 in
theorem c_lrecs (w : World) (src : Addr) (rest : List (Addr × Obj)) (o : Obj) (hsep : ∀ p ∈ rest, p.1 ≠ src) (ho : SrcObj o) :
    Ctr w 40 300 (.ref 331) [.ref src] ((src, o) :: rest) (fun v l => ∃ o' tl, (SrcObj o' ∧ ∃ D rw rv nn rs b t, v = .ref D ∧ (D, PySem.W.listOf #[.ref rw, .bytes b t] 0) ∈ tl ∧ (rw, PySem.W.listOf (rv : List Value).toArray nn) ∈ tl ∧ RecsAre w tl rv rs ∧ rs.length ≤ 3 ∧ (∀ r ∈ rs, RG r) ∧ KBw.bInts b = (rs.map recBytes).flatten) ∧ (∀ q ∈ (src, o') :: rest, ∀ p ∈ tl, q.1 < p.1) ∧ tl ++ (src, o') :: rest = l) := by
  refine' Ctr.bodyC (binds := [(Str.ofString "source", Value.ref src)]) ?z8o ?z8c ?z8b ?z8l ?z8k ?_
  case z8o => k_is
  case z8c => k_is
  case z8b => exact fun _ => BindsTo.of_eq (by kernel_rfl)
  case z8l => kernel_rfl
  case z8k => kernel_rfl
  intro mean mg mb dp un gd outer A₀ base g1 L1 hp1 gsq drq tkq osq Q E cells1 B1 F1 X1 N1 Y1 l1 T1 hdp hun hret hE9
  intro _ _ _
  obtain ⟨o1, rfl, d1⟩ := CellsAre.one Y1
  have N2 : News g1 L1 hp1 ((L1 + 1, o1) :: (src, o) :: rest) := N1
  clear N1
  have hsL : @LT.lt Nat _ src L1 := l1 _ (.head _)
  k_extra "m my_walk"
  k_extra "m my_for"
  k_extra "m my_walk"
  rename_i RW hh5 lRW _ _ DD hh4 lDD hh3 _ hh2 _ hh1 FA NA _ _ h8a tk8a FB o8 hS8 x8 t8 hx8 hy8 NB _ hF tkF tt1 uu1 vv1 IR FF NF _
  have NX : News g1 _ hF ((RW, PySem.W.listOf (([] : List Value)).toArray 0) :: (L1 + 1, o1) :: (src, o8) :: ([] ++ rest)) := News.tail NF
  have hn8 : ((x8.toNat : Nat) : Int) = x8 := Int.toNat_of_nonneg hx8
  rw [← hn8] at IR
  k_dflt (refine for_rangeL (n := x8.toNat) (fun j m1 news => ∃ o' rv nn tl rs, news = (RW, PySem.W.listOf (rv : List Value).toArray nn) :: (L1 + 1, o1) :: (src, o') :: (tl ++ rest) ∧ SrcObj o' ∧ (∀ q ∈ (RW, o1) :: (L1 + 1, o1) :: (src, o1) :: rest, ∀ p ∈ tl, q.1 < p.1) ∧ RecsAre w tl rv rs ∧ rs.length = j ∧ (∀ r ∈ rs, RG r) ∧ m1 (Str.ofString "rows") = some (.ref RW) ∧ ∃ b t, m1 (Str.ofString "octets") = some (.bytes b t) ∧ KBw.bInts b = (rs.map recBytes).flatten) ?g1 FF NX IR ?g2 ?g3 ?g4 ?_ ?_)
  case g1 => rfl
  case g2 => exact small_one (by omega) (by omega) (by omega) (by omega)
  case g3 => rw [rangeSize_one]; split <;> omega
  case g4 => exact ⟨o8, [], 0, [], [], rfl, hS8, (fun _ _ _ hp => nomatch hp), .nil, rfl, (fun _ hr => nomatch hr), rfl, _, _, rfl, rfl⟩
  · intro I j t m1 news h tk oI hI hoI hj hJ off F' N'
    (try dsimp only)
    k_extra "m my_fq"
    obtain ⟨o', rv, nn, tl, rs, rfl, hS', hlt, hrs, hrl, hrg, hm1, bo, to, hm2, hbo⟩ := hJ
    have F2 := fr_set (x := Str.ofString "octets") (fr_set (x := Str.ofString "rows") F' hm1) hm2
    clear F'
    have i1 : @LT.lt Nat _ RW I := hI _ (.head _)
    have i2 : @LT.lt Nat _ (L1 + 1) I := hI _ (.tail _ (.head _))
    have i3 : @LT.lt Nat _ src I := hI _ (.tail _ (.tail _ (.head _)))
    have hs1 : ∀ p ∈ tl ++ rest, p.1 ≠ RW := fun p hp => (List.mem_append.mp hp).elim (fun hp => Nat.ne_of_gt (hlt _ (.head _) p hp)) (fun hp => Nat.ne_of_lt (allLt_mem _ lRW.2.2 p hp))
    have hs2 : ∀ p ∈ tl ++ rest, p.1 ≠ src := fun p hp => (List.mem_append.mp hp).elim (fun hp => Nat.ne_of_gt (hlt _ (.tail _ (.tail _ (.head _))) p hp)) (fun hp => hsep p hp)
    k_extra "m my_fold"
    k_extra "m my_walk"
    rename_i ha1 ka1 oA sA xK tK kLo kHi _ _ hb1 kb1 oB sB xG tG gLo gHi _ _ DP hc1 lDP hc2 _ hc3 _ hc4 FP NP
    k_dflt (refine comp_asn FP (by with_unfolding_all rfl) (by rfl) (by decide) (by rfl) (by decide) (by rfl) (by rfl) (by rfl) ?_)
    k_extra "m my_walk"
    rename_i hd1 kd1 FQ oC sC xN tN nLo nHi NQ _ he1 ke1 r1 r2 r3 IR2 FR NR _
    have NW : News g1 _ he1 ((I, oI) :: (RW, PySem.W.listOf rv.toArray nn) :: (L1 + 1, o1) :: (src, oC) :: (tl ++ rest)) := News.tail NR
    have hn2 : ((xN.toNat : Nat) : Int) = xN := Int.toNat_of_nonneg nLo
    rw [← hn2] at IR2
    k_dflt (refine AsnAt.intro (n := xN.toNat) (fun i ys news => ∃ oD ns, news = (I, oI) :: (RW, PySem.W.listOf rv.toArray nn) :: (L1 + 1, o1) :: (src, oD) :: (tl ++ rest) ∧ SrcObj oD ∧ IntsAre ys ns ∧ ns.length = i ∧ ∀ n ∈ ns, 0 ≤ n ∧ n < 4294967296) (by rfl) FR NW IR2 ?_ ?_ ?_ ⟨oC, [], rfl, sC, .nil, rfl, (fun _ h => nomatch h)⟩ ?_ ?_)
    · exact small_one (by omega) (by omega) (by omega) (by omega)
    · rw [rangeSize_one]; split <;> omega
    · rw [sizeLine_eq]; omega
    · intro g i ys news₁ v I2 oI2 C oC2 D m₂ h2 tk2 E' hi' hl hJ hP hC hx F' N' off2 ne
      (try dsimp only)
      k_extra "m my_fq"
      obtain ⟨t2, rfl⟩ := hP
      obtain ⟨oD, ns, rfl, sD, hys, hnl, hnb⟩ := hJ
      obtain ⟨e1, e2, e3, e4, e5⟩ := id off2
      dsimp only at e4
      k_extra "m my_walk"
      (with_reducible rename Fr _ _ _ _ => F9)
      (with_reducible rename News _ _ _ _ => N9)
      refine CompEnd.intro F9 N9 _ (fun _ h => h) off2 trivial ⟨_, ns ++ [_], rfl, by assumption, hys.append (.cons _ _ .nil), by simp [hnl], ?_⟩
      intro n hn
      rcases List.mem_append.mp hn with hn | hn
      · exact hnb n hn
      · rw [List.mem_singleton.mp hn]; exact ⟨by assumption, by assumption⟩
    · intro ys news' hl hJ
      obtain ⟨oD, ns, rfl, sD, hys, hnl, hnb⟩ := hJ
      intro D h2 tk2 F' N' off2
      dsimp only
      obtain ⟨f1, f2, f3, f4, f5⟩ := id off2
      dsimp only at f1 f2 f3 f4
      have hrvl := hrs.len
      have hbl := recs_len2 rs hrg
      k_extra "m my_walk"
      ((k_extra "m my_fq"); k_dflt (refine' (Ctr.use (c_recN _ _ _ _ _ _ ys ns _ _ ?q1 (by omega) hys)) ?z9k1 ?z9k2 ?z9k3 ?z9k4 ?z9k5 ?z9k6 ?z9k7 ?z9k8 ?_; (case z9k1 => k_asm); (case z9k2 => k_asm); (case z9k3 => k_asm); (case z9k4 => k_asm); (case z9k5 => k_asm); (case z9k6 => first | exact rfl | assumption); (case z9k7 => k_extra "m my_rm"); (case z9k8 => k_extra "m my_rm")))
      case q1 => exact .head _
      k_whole
      intro v8 l8 h8 tk8 hP8 F8 N8
      obtain ⟨x9, t9, rfl, hlt9, rfl, hR9⟩ := hP8
      (try dsimp only)
      have N9' : News g1 _ h8 ((D, lst ys) :: (I, oI) :: (RW, PySem.W.listOf rv.toArray nn) :: (L1 + 1, o1) :: (src, oD) :: ((t9 ++ tl) ++ rest)) := fun p hp => N8 p (by simp only [List.mem_cons, List.mem_append] at hp ⊢; rcases hp with hp | hp | hp | hp | hp | (hp | hp) | hp <;> simp [hp])
      have hs3 : ∀ p ∈ (t9 ++ tl) ++ rest, p.1 ≠ RW := fun p hp => by
        rw [List.append_assoc] at hp
        rcases List.mem_append.mp hp with hp | hp
        · exact Nat.ne_of_gt (hlt9 (RW, PySem.W.listOf rv.toArray nn) (.tail _ (.tail _ (.head _))) p hp)
        · exact hs1 p hp
      have hs4 : ∀ p ∈ (t9 ++ tl) ++ rest, p.1 ≠ src := fun p hp => by
        rw [List.append_assoc] at hp
        rcases List.mem_append.mp hp with hp | hp
        · exact Nat.ne_of_gt (hlt9 (src, oD) (.tail _ (.tail _ (.tail _ (.tail _ (.head _))))) p hp)
        · exact hs2 p hp
      clear N8
      k_extra "m my_walk"
      rename_i bQ tQ kQ hQ2 _ hhQ FQ5 _ _
      have hyn : ys.length = ns.length := hys.length
      k_dflt (refine comp_gen (by k_asm) (by rfl) (by decide) (by rfl) (by decide) (by rfl) ?_ (fun _ => rfl))
      k_extra "m my_walk"
      (with_reducible rename Fr _ _ _ _ => F5)
      (with_reducible rename News _ _ _ _ => N5)
      have N6 := News.tail N5
      k_dflt (refine comp_listC (r := D) (vs := ys) (fun i zs => BysAre zs ((ns.take i).map four)) (by rfl) F5 N6 (.head _) (by omega) .nil ?_ ?_)
      · intro i zs v I3 oI3 C oC3 D3 m₂ h3 tk3 S3 E' hS3 hi' hl3 hzs hP hC hx F' N' off3 ne g
        obtain ⟨y, ty, rfl, hy⟩ := hys.at i v hP
        obtain ⟨hy0, hy1⟩ := hnb y (List.mem_of_getElem? hy)
        k_extra "m my_walk"
        (with_reducible rename Fr _ _ _ _ => F9)
        (with_reducible rename News _ _ _ _ => N9)
        refine CompEnd.intro F9 N9 _ (fun _ h => h) off3 hS3 ⟨rfl, ?_⟩
        rw [List.take_add_one, hy, List.map_append]
        exact hzs.append (.cons (by assumption) .nil)
      · intro zs hl3 hzs
        rw [hyn, List.take_length] at hzs
        have hfl := flat4_len ns
        intro D3 h3 tk3 F' N' off3
        dsimp only
        k_extra "m my_walk"
        (with_reducible rename Fr _ _ _ _ => F9)
        (with_reducible rename News _ _ _ _ => N9)
        (rename KBw.bInts _ = _ => hfin)
        have ea : rv.toArray.push (Value.ref x9) = (rv ++ [Value.ref x9]).toArray := by simp
        rw [ea] at N9
        refine turn_next F9 N9 (nx := (RW, PySem.W.listOf (rv ++ [Value.ref x9]).toArray (nn + 1)) :: (L1 + 1, o1) :: (src, oD) :: ((t9 ++ tl) ++ rest)) (fun p hp => ?_) (fun p hp => ?_) ⟨oD, rv ++ [Value.ref x9], nn + 1, t9 ++ tl, rs ++ [(1 + xK, xG, ns)], rfl, sD, (fun q hq p hp => ?_), (hrs.mono (fun p hp => List.mem_append_right _ hp)).snoc (hR9.mono (fun p hp => List.mem_append_left _ hp)), by rw [List.length_append, hrl]; rfl, (fun r hr => ?_), rfl, _, _, rfl, ?_⟩
        · rcases List.mem_cons.mp hp with rfl | hp
          · exact .tail _ (.tail _ (.head _))
          · exact .tail _ (.tail _ (.tail _ hp))
        · rcases List.mem_cons.mp hp with rfl | hp
          · exact Nat.ne_of_lt i1
          · rcases List.mem_cons.mp hp with rfl | hp
            · exact Nat.ne_of_lt i2
            · rcases List.mem_cons.mp hp with rfl | hp
              · exact Nat.ne_of_lt i3
              · rw [List.append_assoc] at hp
                rcases List.mem_append.mp hp with hp | hp
                · exact Nat.ne_of_gt (hlt9 (I, oI) (.tail _ (.head _)) p hp)
                · exact off p (.tail _ (.tail _ (.tail _ hp)))
        · rcases List.mem_append.mp hp with hp | hp
          · rcases List.mem_cons.mp hq with rfl | hq
            · exact hlt9 (RW, PySem.W.listOf rv.toArray nn) (.tail _ (.tail _ (.head _))) p hp
            · rcases List.mem_cons.mp hq with rfl | hq
              · exact hlt9 (L1 + 1, o1) (.tail _ (.tail _ (.tail _ (.head _)))) p hp
              · rcases List.mem_cons.mp hq with rfl | hq
                · exact hlt9 (src, oD) (.tail _ (.tail _ (.tail _ (.tail _ (.head _))))) p hp
                · exact hlt9 q (.tail _ (.tail _ (.tail _ (.tail _ (.tail _ (List.mem_append_right _ hq)))))) p hp
          · exact hlt q hq p hp
        · rcases List.mem_append.mp hr with hr | hr
          · exact hrg r hr
          · rw [List.mem_singleton.mp hr]
            exact ⟨⟨by show 1 ≤ 1 + xK; omega, by show 1 + xK ≤ 6; omega, by show 0 ≤ xG; omega, by show xG < 4294967296; omega, by show ns.length ≤ 366; omega, hnb⟩, by show ns.length ≤ 2; omega⟩
        · rw [hfin]
          simp [recBytes, two, four, hyn, List.append_assoc]
  · intro m1 news h tk hJ F' N'
    obtain ⟨o', rv, nn, tl, rs, rfl, hS', hlt, hrs, hrl, hrg, hm1, bo, to, hm2, hbo⟩ := hJ
    have F2 := fr_set (x := Str.ofString "octets") (fr_set (x := Str.ofString "rows") F' hm1) hm2
    clear F'
    dsimp only
    k_extra "m my_walk"
    rename_i LF hh9 FF9 NN9 lt9
    have lt9' := allLt_mem _ lt9.2.2.2
    refine hret _ _ _ _ ⟨o', (LF, PySem.W.listOf #[.ref RW, .bytes bo to] 0) :: (RW, PySem.W.listOf rv.toArray nn) :: (L1 + 1, o1) :: tl, ⟨hS', LF, RW, rv, nn, rs, bo, to, rfl, .head _, .tail _ (.head _), hrs.mono (fun p hp => .tail _ (.tail _ (.tail _ hp))), by omega, hrg, hbo⟩, (fun q hq p hp => ?_), rfl⟩ (by k_asm) (fun p hp => NN9 p ?_)
    · have hq2 : @LT.lt Nat _ q.1 L1 := by
        rcases List.mem_cons.mp hq with rfl | hq
        · exact hsL
        · exact l1 q (.tail _ hq)
      rcases List.mem_cons.mp hp with rfl | hp
      · have h2 : @LT.lt Nat _ (L1 + 1) LF := lt9.2.1
        show @LT.lt Nat _ q.1 LF
        omega
      · rcases List.mem_cons.mp hp with rfl | hp
        · have h2 : @LT.lt Nat _ (L1 + 1) RW := lRW.1
          show @LT.lt Nat _ q.1 RW
          omega
        · rcases List.mem_cons.mp hp with rfl | hp
          · show @LT.lt Nat _ q.1 (L1 + 1)
            omega
          · have h2 : @LT.lt Nat _ (L1 + 1) p.1 := hlt (L1 + 1, o1) (.tail _ (.head _)) p hp
            show @LT.lt Nat _ q.1 p.1
            omega
    · simp only [List.mem_cons, List.mem_append, List.cons_append] at hp ⊢
      rcases hp with hp | hp | hp | hp | hp | hp <;> simp [hp]
end

theorem rows_18 : True := by
  k_with "m my_walk" => (repeat' (first | (k_unfold; (try dsimp only)) | (k_extra "m my_stop"; first | walk1 | (dsimp only; walk1) | (dsimp only; k_unfold; (try dsimp only)) | (dsimp only [List.cons_append, List.nil_append]; walk1))))
  k_with "m k_all" => (assumption)
  k_with "m call ref" => ((with_reducible show wpAny _ _ (call (Value.ref 113) [Value.bytes _ _, Value.int 10 _]) _ _ _); ((((k_extra "m my_fq"); k_dflt (refine' (Ctr.use (c_withsum _ _ _ _ 10 _ _ (by assumption) (by k_extra "m my_len") (by decide) (by k_extra "m my_len"))) ?z9k1 ?z9k2 ?z9k3 ?z9k4 ?z9k5 ?z9k6 ?z9k7 ?z9k8 ?_; (case z9k1 => k_asm); (case z9k2 => k_asm); (case z9k3 => k_asm); (case z9k4 => k_asm); (case z9k5 => k_asm); (case z9k6 => first | exact rfl | assumption); (case z9k7 => k_extra "m my_rm"); (case z9k8 => k_extra "m my_rm"))); k_whole)); intro _ _ _ _ hP8 _ _; obtain ⟨⟨_, _, e8, hb8⟩, e9⟩ := hP8; subst e8; subst e9; (have hsl8 := congrArg List.length hb8); (rw [summed_len _ (by decide) (by k_extra "m my_len")] at hsl8); (simp only [List.length_append, List.length_cons, List.length_nil, List.length_replicate] at hsl8); (rw [hb8] at hsl8); (revert hb8 hsl8; intro _ _); (try dsimp only))
  trivial

section
theorem summed_len {ks : List Int} (p : Int) (h0 : 0 ≤ p) (h : p + 2 ≤ ks.length) : (summed ks p).length = ks.length := by
  unfold summed
  simp only [List.length_append, List.length_take, List.length_drop, List.length_cons, List.length_nil]
  omega
/-- the head of a packet before its sum: sl octets of options, n octets within -/
def headOf (s t p ttl : Int) (n : Int) (os : List Int) : List Int := [64 + (20 + (os.length : Int)) / 4, 0] ++ two (20 + os.length + n) ++ [0, 0, 0, 0] ++ [ttl, p, 0, 0] ++ four s ++ four t ++ os
set_option maxHeartbeats 2000000 in
theorem c_pview (w : World) (s9 t9 p9 ttl : Int) (u1 u2 u3 u4 tb to : Tok) (b bo : Array UInt8) (ks os : List Int) (led : List (Addr × Obj)) (hs0 : 0 ≤ s9) (hs1 : s9 < 4294967296) (ht0 : 0 ≤ t9) (ht1 : t9 < 4294967296) (hp0 : 0 ≤ p9) (hp1 : p9 < 256) (hl0 : 0 ≤ ttl) (hl1 : ttl < 256) (hb : KBw.bInts b = ks) (hbo : KBw.bInts bo = os) (hk : ks.length ≤ 60000) (ho : os.length = 0 ∨ os.length = 4) :
    Ctr w 30 200 (.ref 258) [.int s9 u1, .int t9 u2, .int p9 u3, .int ttl u4, .bytes b tb, .bytes bo to] led (fun v l => IsBy v (summed (headOf s9 t9 p9 ttl ks.length os) 10 ++ ks) ∧ led = l) := by
  refine Ctr.open ?_
  intro mean mg mb dp un gd cn cs a ccd cl outer A₀ base h₀ L m hpq gsq drq tkq osq Q E B F X N T hk hdp hun hret
  (refine wpAny_call ?_; (
  k_dflt (refine' code_def (binds := [(Str.ofString "source", Value.int s9 u1), (Str.ofString "target", Value.int t9 u2), (Str.ofString "protocol", Value.int p9 u3), (Str.ofString "ttl", Value.int ttl u4), (Str.ofString "payload", Value.bytes b tb), (Str.ofString "options", Value.bytes bo to)]) ?z9k1 ?z9k2 ?z9k3 ?z9k4 ?z9k5 ?z9kA ?z9kF ?z9kK ?z9k6 ?z9k7 ?z9k8 ?z9k9 ?z9kB ?_ ?z9c2 ?z9c3 ?z9c4 ?z9c5; (case z9kA => eq_refl); (case z9kF => eq_refl); (case z9kK => assumption); (case z9k1 => k_asm); (case z9k2 => k_asm); (case z9k3 => k_asm); (case z9k4 => k_asm); (case z9k5 => k_asm); (case z9k6 => k_is); (case z9k7 => k_is); (case z9k8 => k_extra "m my_room"); (case z9k9 => first | exact BindsTo.of_eq (by kernel_rfl!) | exact binds_K (by k_in) rfl (by k_is) rfl rfl rfl); (case z9c5 => decide); (case z9kB => exact locs rfl); (case z9c2 => eq_refl); (case z9c3 => eq_refl); (case z9c4 => eq_refl); k_whole)))
  intro g1 L1 hp1 FG F1 N1 B1 X1 T1
  k_extra "m my_ent"
  k_extra "m my_walk"
  (rename KBw.bInts _ = _ => hfin)
  exact hret _ led _ _ ⟨⟨_, _, rfl, hfin⟩, rfl⟩ (by k_asm) (by k_extra "m my_news")
end

section
inductive IsView (w : World) (l : List (Addr × Obj)) (x : Addr) (ttl p s t : Int) (os pl : List Int) : Prop
  | mk (d : Addr) (u1 u2 u3 u4 u5 u6 u7 t1 t2 t3 t4 t5 t6 : Tok) (bo bp : Array UInt8) (f : Bool) : (x, instObj 246 d) ∈ l →
      (d, dictOf [kEn w (Str.ofString "ttl") u1 (.int ttl t1), kEn w (Str.ofString "protocol") u2 (.int p t2), kEn w (Str.ofString "source") u3 (.int s t3), kEn w (Str.ofString "target") u4 (.int t t4), kEn w (Str.ofString "options") u5 (.bytes bo t5), kEn w (Str.ofString "is_first") u6 (.bool f), kEn w (Str.ofString "payload") u7 (.bytes bp t6)] 7) ∈ l →
      KBw.bInts bo = os → KBw.bInts bp = pl → f = true → IsView w l x ttl p s t os pl
set_option maxHeartbeats 2000000 in
theorem c_view (w : World) (b : Array UInt8) (tb : Tok) (ks : List Int) (led : List (Addr × Obj)) (hb : KBw.bInts b = ks) (hlen : ks.length ≤ 70000) (h20 : 20 ≤ ks.length) (h4 : nth ks 0 / 16 = 4) (hh : 5 ≤ nth ks 0 % 16) (hs0 : 4 * (nth ks 0 % 16) ≤ g2 ks 2) (hs1 : g2 ks 2 ≤ ks.length) (hsum : wsum (ks.take (4 * (nth ks 0 % 16)).toNat) (ks.take (4 * (nth ks 0 % 16)).toNat).length % 65535 = 0) (hpos : 0 < wsum (ks.take (4 * (nth ks 0 % 16)).toNat) (ks.take (4 * (nth ks 0 % 16)).toNat).length) (h6 : g2 ks 6 % 8192 = 0) :
    Ctr w 40 300 (.ref 246) [.bytes b tb] led (fun v l' => ∃ x, v = .ref x ∧ Adds led l' ∧ IsView w l' x (nth ks 8) (nth ks 9) (g4 ks 12) (g4 ks 16) (List.take (4 * (nth ks 0 % 16) - 20).toNat (List.drop 20 ks)) (List.take (g2 ks 2 - 4 * (nth ks 0 % 16)).toNat (List.drop (4 * (nth ks 0 % 16)).toNat ks))) := by
  refine Ctr.open ?_
  intro mean mg mb dp un gd cn cs a ccd cl outer A₀ base h₀ L m hpq gsq drq tkq osq Q E B F X N T hk hdp hun hret
  have h4' : ks.getD 0 0 / 16 = 4 := h4
  have h4'' : ks.getD (Int.toNat 0) 0 / 16 = 4 := h4
  have h6i := h6
  have hh' : 5 ≤ ks.getD 0 0 % 16 := hh
  have hs0' : 4 * (ks.getD 0 0 % 16) ≤ g2 ks 2 := hs0
  have hsum' : wsum (ks.take (4 * (ks.getD 0 0 % 16)).toNat) (ks.take (4 * (ks.getD 0 0 % 16)).toNat).length % 65535 = 0 := hsum
  have hpos' : 0 < wsum (ks.take (4 * (ks.getD 0 0 % 16)).toNat) (ks.take (4 * (ks.getD 0 0 % 16)).toNat).length := hpos
  k_extra "m my_make"
  intro x6 d6 h6 F6 N6 l61 l62
  have l63 := l61
  (try k_lt l61); (try k_lt2 l62)
  (
  k_dflt (refine' code_def (binds := [(Str.ofString "self", Value.ref x6), (Str.ofString "octets", Value.bytes b tb)]) ?z9k1 ?z9k2 ?z9k3 ?z9k4 ?z9k5 ?z9kA ?z9kF ?z9kK ?z9k6 ?z9k7 ?z9k8 ?z9k9 ?z9kB ?_ ?z9c2 ?z9c3 ?z9c4 ?z9c5; (case z9kA => eq_refl); (case z9kF => eq_refl); (case z9kK => assumption); (case z9k1 => k_asm); (case z9k2 => k_asm); (case z9k3 => k_asm); (case z9k4 => k_asm); (case z9k5 => k_asm); (case z9k6 => k_is); (case z9k7 => k_is); (case z9k8 => k_extra "m my_room"); (case z9k9 => first | exact BindsTo.of_eq (by kernel_rfl!) | exact binds_K (by k_in) rfl (by k_is) rfl rfl rfl); (case z9c5 => decide); (case z9kB => exact locs rfl); (case z9c2 => eq_refl); (case z9c3 => eq_refl); (case z9c4 => eq_refl); k_whole))
  intro g1 L1 hp1 FG F1 N1 B1 X1 T1
  k_extra "m my_ent"
  have w3 : ((ktrTop dp un gd cn cs L a ccd cl outer).under (Code.builtin "type.__call__" ⟨[Value.ref 246, Value.bytes b tb], []⟩)).depth = dp + 1 := by simp only [depth_under_make]
  have w4 : ((ktrTop dp un gd cn cs L a ccd cl outer).under (Code.builtin "type.__call__" ⟨[Value.ref 246, Value.bytes b tb], []⟩)).units = un + 1 := rfl
  k_extra "m my_walk"
  have hadd : ∀ (oX oD : Obj), Adds led ((x6, oX) :: (d6, oD) :: led) := fun oX oD => ⟨[(x6, oX), (d6, oD)], fun q hq p hp => by
    have h1 := l63 q hq
    have h2 : q.1 < x6 := Nat.lt_trans h1 (by omega)
    simp only [List.mem_cons, List.not_mem_nil, or_false] at hp
    rcases hp with rfl | rfl
    · exact h2
    · exact h1, rfl⟩
  (with_reducible rename News _ _ _ _ => NF)
  have NG := News.tail NF
  refine hret _ _ _ _ ⟨_, rfl, hadd _ _, ?_⟩ (by k_asm) NG
  exact ⟨_, _, _, _, _, _, _, _, _, _, _, _, _, _, _, _, _, .head _, .tail _ (.head _), by assumption, by assumption, by rw [h6i]; rfl⟩
end

section
section
variable {prog : Program} {w : World} {A₀ : Around} {E : Value → Shared → Prop} {s' : Shared} {base g g₀ G : Heap} {outer : List Env} {L a e C : Addr} {m : Str → Option Value} {name : Str} {scope : Scope} {cd : Value}
  {b₀ : Stmt} {suite : List Stmt} {pos np : Pos} {rest : List ExceptHandler} {Q : Flow → Shared → Prop} {news : List (Addr × Obj)} {KF : Frag}
  {p : Program} {loose : List Str} {mean : ExcName → Option Value} {mg mb : Str → Option Value} {x : Str}
theorem my_caught (R : RaisedSN base G (envOf name scope L a cd :: outer) e (.ref C) news s'.heap) (F : Fr g L G m) (K : Below A₀ base outer g) (hsm : G.UpToSlots s'.heap) (XB : KF.In base) (TB : Top p loose mean mg mb base)
    (ex : nsIn KF mainGlobals x = some (some (.ref C))) (q : ktsIn KF C "BaseException" = true)
    (k : ∀ h' g', KtsTurn (outer.filterMap (·.frame)) g g' → Fr g' L h' m → News g' L h' news → Below A₀ base outer g' → KF.In g' → Top p loose mean mg mb g' →
      wpAny (model prog w) ((A₀.deeper (envOf name scope L a cd)).mark (some (.ref e))) (execs (b₀ :: suite) (envOf name scope L a cd)) Q E { s' with heap := h' })
    (hk : scope.kind = .function := by rfl) (hx : (envOf name scope L a cd).kindOf x = some .globalImplicit := by rfl) (hd : (x == ("__debug__" : Str)) = false := by decide)
    (hE : PassesOwnAt (model prog w) ((A₀.deeper (envOf name scope L a cd)).mark (some (.ref e))) (A₀.deeper (envOf name scope L a cd)) (envOf name scope L a cd) E := by passes_own) :
    wpAny (model prog w) (A₀.deeper (envOf name scope L a cd)) (noteFrame (.ref e) (envOf name scope L a cd))
      (fun _ s₂ => wpAny (model prog w) (A₀.deeper (envOf name scope L a cd)) (setFlight (.ref e) none) (fun _ s₃ =>
        wpAny (model prog w) (A₀.deeper (envOf name scope L a cd)) (handleBy (.ref e) (envOf name scope L a cd) (.ExceptHandler (some (.Name x np)) none (b₀ :: suite) pos :: rest)) Q E s₃) E s₂) E s' := by
  obtain ⟨B, a0, hB, hBG, hl, hfl⟩ := R
  have hL : B.get? L = none := by
    obtain ⟨_, ⟨L', _, hf, hn', _⟩, _⟩ := hfl.2.2.1
    obtain rfl : L = L' := Option.some.inj hf
    exact hn'
  refine wpAny_looks_onW (Around.frames_deeper K.stack) rfl hfl fun h₄ hheld₄ hsm₄ => ?_
  refine wpAny_landsW hheld₄ fun h₅ hheld hsm₅' => ?_
  have hsm₅ := hsm₄.trans hsm₅'
  obtain ⟨g₅, T₅, F₅, K₅⟩ := kts_ground K F hBG hheld.1 (hsm.trans hsm₅)
  have X₅ : KF.In g₅ := XB.keeps K₅.stays
  have P₅ : TopRead p loose mg mb g₅ := topRead_of (TB.keeps K₅.stays)
  obtain ⟨ob, hob, hobc⟩ := hheld.there
  obtain ⟨nm, q', N, bs, bm, hdct, sn, sub, ab, col, dd, k0, k1, k2, k3, k5, newId, hC, hbase, hbT⟩ := kts_cls X₅ q
  have hC₅ := F₅.keep _ _ hC
  refine wpAny_handleBy_cons (codeAny_handlers_test (name_K F₅ X₅ P₅ ex ?_ hk hx hd)) (by intro q; cases q)
  refine wpAny_excMatches_sub_self hC₅ hob hobc hbase (codeAny_handlers_suite ?_)
  refine lands_againW hheld fun h₆ hfl₆ hsm₆ => ?_
  obtain ⟨g₆, T₆, F₆, K₆⟩ := kts_ground K F hBG hfl₆.1 ((hsm.trans hsm₅).trans hsm₆)
  have Nl : News g₆ L h₆ news := fun q hq => ⟨hfl₆.1 _ _ (hl q hq).1, (fun z => by have := (hl q hq).1; rw [z, hL] at this; cases this), T₆.none_ _ (kts_none F.keep (hl q hq).2.1)⟩
  have X₆ : KF.In g₆ := XB.keeps K₆.stays
  have P₆ : Top p loose mean mg mb g₆ := TB.keeps K₆.stays
  exact wpAny_passesOwnAt hE (k h₆ g₆ T₆ F₆ Nl K₆ X₆ P₆)
end
section
variable {prog : Program} {w : World} {A₀ A : Around} {s : Shared} {base h₀ : Heap} {outer : List Env} {L : Addr} {m : Str → Option Value} {env : Env} {news : List (Addr × Obj)} {K : Frag} {p : Program} {loose : List Str} {mean : ExcName → Option Value} {mg mb : Str → Option Value} {R : Result → Shared → Prop}
def LeaveT (K : Frag) (p : Program) (loose : List Str) (mean : ExcName → Option Value) (mg mb : Str → Option Value) (A₀ : Around) (base : Heap) (env : Env) (outer : List Env) (h₀ : Heap) (L : Addr) (m : Str → Option Value) (g : Heap) (R : Result → Shared → Prop) (v : Value) (s' : Shared) : Prop :=
  ∃ g' L' m' news', KtsTurn ((env :: outer).filterMap (·.frame)) g g' ∧ Fr g' L' s'.heap m' ∧ News g' L' s'.heap news' ∧
    ∀ h₀', KtsTurn (outer.filterMap (·.frame)) h₀ h₀' → Fr h₀' L s'.heap m → News h₀' L s'.heap news' → Below A₀ base outer h₀' → K.In h₀' → Top p loose mean mg mb h₀' → R (.ok (.ret v)) s'
theorem envMem {b : Addr} (hf : env.frame = some L) (hm : b ∈ (env :: outer).filterMap (·.frame)) : b = L ∨ b ∈ outer.filterMap (·.frame) := by
  obtain ⟨env', he, hf'⟩ := List.mem_filterMap.mp hm
  rcases List.mem_cons.mp he with rfl | he
  · exact .inl (Option.some.inj (hf.symm.trans hf')).symm
  · exact .inr (List.mem_filterMap.mpr ⟨env', he, hf'⟩)
theorem groundT (B : Below A₀ base outer h₀) (F : Fr h₀ L s.heap m) (N : News h₀ L s.heap news) (XB : K.In base) (TB : Top p loose mean mg mb base) (hA : A.frames = some (env :: outer)) (hf : env.frame = some L) (hke : env.scope.kind = .function) :
    Fr h₀ L (hideAll s.heap (news.map (·.1))) m ∧ Below A base (env :: outer) (hideAll s.heap (news.map (·.1))) ∧ h₀.StaysIn (hideAll s.heap (news.map (·.1))) ∧
      ∀ v s', LeaveT K p loose mean mg mb A₀ base env outer h₀ L m (hideAll s.heap (news.map (·.1))) R v s' → R (.ok (.ret v)) s' := by
  have nm : ∀ b o, h₀.get? b = some o → b ∉ news.map (·.1) := fun b o e q => by
    obtain ⟨p, hp, rfl⟩ := List.mem_map.mp q
    rw [(N p hp).2.2] at e; cases e
  have st : h₀.StaysIn (hideAll s.heap (news.map (·.1))) := fun b o e => hideAll_get _ (F.keep b o e) (nm b o e)
  obtain ⟨oL, es, ep, hL, hLd, hLk, hLf⟩ := F.ns
  have nL : L ∉ news.map (·.1) := fun q => by
    obtain ⟨p, hp, e⟩ := List.mem_map.mp q
    exact (N p hp).2.1 e
  have hLg := hideAll_get (news.map (·.1)) hL nL
  have B₁ := pushX B F hf hke
  refine ⟨⟨⟨oL, es, ep, hLg, hLd, hLk, hLf⟩, st, F.above⟩, ⟨hA, fun b o e => st b o (B.stays b o e), funFrames_hideAll B₁.frames fun env' he b hb hf' => ?_⟩, st, fun v s' hl => ?_⟩
  · cases he with
    | head => exact nL ((Option.some.inj (hf.symm.trans hf') : L = b) ▸ hb)
    | tail _ he =>
      obtain ⟨L₁, o₁, hf₁, ho₁⟩ := funFrames_in B.frames env' he
      rw [hf₁] at hf'
      exact nm L₁ o₁ ho₁ ((Option.some.inj hf' : L₁ = b) ▸ hb)
  · obtain ⟨g', L', m', news', T', F', N', k⟩ := hl
    have nL₀ : h₀.get? L = none := kts_self F
    obtain ⟨sl, hs⟩ := T'.up hLg
    obtain ⟨T₁, S₁⟩ := kts_turn_at (h := s'.heap) (fs := outer.filterMap (·.frame)) (g := h₀)
      (fun b hb => by
        obtain ⟨_, o, ho', _⟩ := B.frames.mem hb
        exact ⟨o, ho'⟩)
      (fun b o e nmem => F'.keep b o (T'.other b o (st b o e) (fun q => by
        rcases envMem hf q with z | z
        · rw [z, nL₀] at e
          cases e
        · exact nmem z)))
      (fun b o e hm => by
        obtain ⟨sl', hs'⟩ := T'.up (st b o e)
        exact ⟨sl', F'.keep _ _ hs'⟩)
    have B₃ : Below A₀ base outer (ktsHeap s'.heap (outer.filterMap (·.frame)) h₀) := ⟨B.stack, fun b o e => T₁.other b o (B.stays b o e) (fun hm => by
      rw [(B.frames.mem hm).1] at e
      cases e), B.frames.of_keeps fun b o e _ => by
      obtain ⟨sl', hs'⟩ := T₁.up e
      exact ⟨_, hs', rfl⟩⟩
    refine k _ T₁ ⟨⟨_, es, ep, F'.keep _ _ hs, hLd, hLk, hLf⟩, S₁, by rw [T₁.size]; exact F.above⟩ (fun p hp => ⟨(N' p hp).1, fun q => ?_, ?_⟩) B₃ (XB.keeps B₃.stays) (TB.keeps B₃.stays)
    · have := (N' p hp).2.2; rw [q, hs] at this; cases this
    · refine T₁.none_ _ ?_
      cases q : h₀.get? p.1 with
      | none => rfl
      | some o =>
        obtain ⟨sl', hs'⟩ := T'.up (st _ _ q)
        have := (N' p hp).2.2
        rw [hs'] at this
        cases this
end
end

section
section
variable {prog : Program} {w : World} {A₀ A : Around} {s : Shared} {base h₀ : Heap} {outer : List Env} {L : Addr} {m : Str → Option Value} {env : Env} {news : List (Addr × Obj)} {K : Frag} {p : Program} {loose : List Str} {mean : ExcName → Option Value} {mg mb : Str → Option Value} {R : Result → Shared → Prop}
theorem code_defT {name qual : Str} {params : Arguments} {body : List Stmt} {scope : Scope} {dV kV doc pm cdv ct oc : Value} {an od : Option Addr} {osl : Array (Option Value)} {f : Addr} {args : Args} {binds : List (Str × Value)}
    (B : Below A₀ base outer h₀) (F : Fr h₀ L s.heap m) (X₀ : K.In h₀) (N : News h₀ L s.heap news) (T : Top p loose mean mg mb h₀) (XB : K.In base) (TB : Top p loose mean mg mb base) (hA : A.frames = some (env :: outer)) (hf : env.frame = some L) (hke : env.scope.kind = .function)
    (ho : K.lookup f = some ⟨oc, od, .func (fnOf name qual params body scope dV kV doc pm an cdv ct), osl⟩) (hcd : codeIn K cdv qual = true) (hroom : A.depth < recursionLimit)
    (hbind : BindsTo s (fnOf name qual params body scope dV kV doc pm an cdv ct) args binds) (hloc : ∀ y ∈ binds, scope.names.lookup y.1 = some .local)
    (h : ∀ g L' h₁, Fr h₀ L g m → Fr g L' h₁ (fun y => binds.reverse.lookup y) → News g L' h₁ news → Below A base (env :: outer) g → K.In g → Top p loose mean mg mb g →
      wpAny (model prog w) (A.deeper (envOf qual scope L' f cdv)) (execs body (envOf qual scope L' f cdv))
        (fun fl s' => LeaveT K p loose mean mg mb A₀ base env outer h₀ L m g R (match fl with | .ret v => v | _ => .none) s')
        (fun e s' => wpAny (model prog w) (A.deeper (envOf qual scope L' f cdv)) (leaving (envOf qual scope L' f cdv) e) (fun _ s'' => R (.error e) s'') (fun e' s'' => R (.error e') s'') s')
        { s with heap := h₁, toks := s.toks + binds.length })
    (hco : scope.isCoroutine = false) (hgen : scope.isGenerator = false) (hk : scope.kind = .function)
    (hcell : ∀ x ∈ scope.names, x.2 ≠ .cell) : codeAny (model prog w) A (.call (.ref f) args) R s := by
  obtain ⟨FG, BG, st, lv⟩ := groundT (R := R) B F N XB TB hA hf hke
  have X := X₀.keeps F.keep
  refine codeAny_call_def (fd := fnOf name qual params body scope dV kV doc pm an cdv ct) (body := body) (binds := binds) hroom (X _ _ ho) rfl (T.nolimit.keeps F.keep) (codeRec_of X hcd) rfl hbind hcell hloc (fun h₁ hns hk₁ => ?_) hco hgen hk
  exact wpAny_mono (h _ s.heap.objs.size h₁ FG ⟨hns, fun b o e => hk₁ b o (of_hideAll _ e), Nat.le_of_eq (hideAll_size _ _)⟩
    (fun p hp => ⟨hk₁ _ _ (N p hp).1, Nat.ne_of_lt (Heap.lt_size (N p hp).1), hideAll_none _ (List.mem_map_of_mem hp)⟩) BG (X₀.keeps st) (T.keeps st)) (fun fl s' hl => lv _ _ hl) fun _ _ y => y
theorem code_defCT {name qual : Str} {params : Arguments} {body : List Stmt} {scope : Scope} {dV kV doc pm cdv ct oc : Value} {an od : Option Addr} {osl : Array (Option Value)} {f : Addr} {args : Args} {binds : List (Str × Value)}
    (B : Below A₀ base outer h₀) (F : Fr h₀ L s.heap m) (X₀ : K.In h₀) (N : News h₀ L s.heap news) (T : Top p loose mean mg mb h₀) (XB : K.In base) (TB : Top p loose mean mg mb base) (hA : A.frames = some (env :: outer)) (hf : env.frame = some L) (hke : env.scope.kind = .function)
    (ho : K.lookup f = some ⟨oc, od, .func (fnOf name qual params body scope dV kV doc pm an cdv ct), osl⟩) (hcd : codeIn K cdv qual = true) (hroom : A.depth < recursionLimit)
    (hbind : BindsTo s (fnOf name qual params body scope dV kV doc pm an cdv ct) args binds) (hkind : (binds.all fun y => scope.names.lookup y.1 == some .local || scope.names.lookup y.1 == some .cell) = true)
    (hnd : ((cellsFrom 0 scope.names []).map (·.1)).Nodup)
    (h : ∀ g L' h₁ tk cells, Fr h₀ L g m → Fr g L' h₁ (bindL (envOfC qual scope L' f cdv).kindOf binds fun _ => none) → News g L' h₁ (cells ++ news) →
      CellsAre (bindC (envOfC qual scope L' f cdv).kindOf binds fun _ => none) (cellsFrom (L' + 1) scope.names []) cells → Below A base (env :: outer) g → K.In g → Top p loose mean mg mb g → (∀ p ∈ news, p.1 < L') →
      wpAny (model prog w) (A.deeper (envOfC qual scope L' f cdv)) (execs body (envOfC qual scope L' f cdv))
        (fun fl s' => LeaveT K p loose mean mg mb A₀ base env outer h₀ L m g R (match fl with | .ret v => v | _ => .none) s')
        (fun e s' => wpAny (model prog w) (A.deeper (envOfC qual scope L' f cdv)) (leaving (envOfC qual scope L' f cdv) e) (fun _ s'' => R (.error e) s'') (fun e' s'' => R (.error e') s'') s')
        { s with heap := h₁, toks := tk })
    (hco : scope.isCoroutine = false) (hgen : scope.isGenerator = false) (hk : scope.kind = .function) : codeAny (model prog w) A (.call (.ref f) args) R s := by
  obtain ⟨FG, BG, st, lv⟩ := groundT (R := R) B F N XB TB hA hf hke
  refine codeAny_call_function hroom ((X₀.keeps F.keep) _ _ ho) rfl hco hgen rfl (codeRec_of (X₀.keeps F.keep) hcd) (hbind _ _ _ _ ?_)
  refine wpAny_newFunctionEnv_cells hk (kindsX hkind _) fun env' he s' x => ?_
  subst he
  refine ⟨(T.nolimit.keeps F.keep).keeps x.toInCall.keep, codeAny_func ?_⟩
  obtain ⟨h₁, tk, rfl, _⟩ := x.done
  have hk₁ := x.toInCall.keep
  obtain ⟨cells, NC, Y⟩ := Cl.news (h₀ := s.heap) (Nat.le_refl _) fun n c hm => ⟨x.cell n c (lookup_of_mem_nodup (cellsFrom_names scope.names 0 (s.heap.objs.size + 1) [] [] rfl ▸ hnd) hm), x.above n c hm⟩
  refine wpAny_mono (h _ s.heap.objs.size h₁ tk cells FG ⟨x.toInCall.ns, fun b o e => hk₁ b o (of_hideAll _ e), Nat.le_of_eq (hideAll_size _ _)⟩ (fun p hp => ?_) Y BG (X₀.keeps st) (T.keeps st) (fun p hp => Heap.lt_size (N p hp).1)) (fun fl s' hl => lv _ _ hl) fun _ _ y => y
  rcases List.mem_append.mp hp with hp | hp
  · refine ⟨(NC p hp).1, (NC p hp).2.1, ?_⟩
    cases q : (hideAll s.heap (news.map (·.1))).get? p.1 with
    | none => rfl
    | some o => have := of_hideAll _ q; rw [(NC p hp).2.2] at this; cases this
  · exact ⟨hk₁ _ _ (N p hp).1, Nat.ne_of_lt (Heap.lt_size (N p hp).1), hideAll_none _ (List.mem_map_of_mem hp)⟩
end
/-- a contract of a call behind which the ground has turned -/
def CtrT (w : World) (D U : Nat) (f : Value) (args : List Value) (led : List (Addr × Obj)) (P : Value → List (Addr × Obj) → Prop) : Prop :=
  ∀ (mean : ExcName → Option Value) (mg mb : Str → Option Value) (dp un : Nat) (gd : Option (List Code)) (cn : Str) (cs : Scope) (a : Addr) (ccd : Value) (cl : List (Str × Addr)) (outer : List Env) (A₀ : Around) (base h₀ : Heap) (L : Addr) (m : Str → Option Value) (s : Shared) (Q E : Value → Shared → Prop),
    Below A₀ base outer h₀ → Fr h₀ L s.heap m → (kay.heap_1 w.params).In h₀ → News h₀ L s.heap led → Top topProg lo mean mg mb h₀ → cs.kind = .function → dp + D < recursionLimit → un + U < cLine →
    (kay.heap_1 w.params).In base → Top topProg lo mean mg mb base →
    (∀ (v : Value) (led' : List (Addr × Obj)) (h' h₀' : Heap) (tk' : Nat), P v led' → KtsTurn (outer.filterMap (·.frame)) h₀ h₀' → Below A₀ base outer h₀' → Fr h₀' L h' m → (kay.heap_1 w.params).In h₀' → News h₀' L h' led' → Top topProg lo mean mg mb h₀' → Q v { s with heap := h', toks := tk' }) →
    wpAny (model pw w) (ktrTop dp un gd cn cs L a ccd cl outer) (call f args) Q E s
theorem CtrT.use {w : World} {D U : Nat} {f : Value} {args : List Value} {led : List (Addr × Obj)} {P : Value → List (Addr × Obj) → Prop} (C : CtrT w D U f args led P)
    {mean : ExcName → Option Value} {mg mb : Str → Option Value} {dp un : Nat} {gd : Option (List Code)} {cn : Str} {cs : Scope} {a : Addr} {ccd : Value} {cl : List (Str × Addr)} {outer : List Env} {A₀ : Around} {base h₀ : Heap} {L : Addr} {m : Str → Option Value} {s : Shared} {Q E : Value → Shared → Prop}
    (B : Below A₀ base outer h₀) (F : Fr h₀ L s.heap m) (X : (kay.heap_1 w.params).In h₀) (N : News h₀ L s.heap led) (T : Top topProg lo mean mg mb h₀) (hk : cs.kind = .function) (hdp : dp + D < recursionLimit) (hun : un + U < cLine)
    (XB : (kay.heap_1 w.params).In base) (TB : Top topProg lo mean mg mb base)
    (h : ∀ (v : Value) (led' : List (Addr × Obj)) (h' h₀' : Heap) (tk' : Nat), P v led' → KtsTurn (outer.filterMap (·.frame)) h₀ h₀' → Below A₀ base outer h₀' → Fr h₀' L h' m → (kay.heap_1 w.params).In h₀' → News h₀' L h' led' → Top topProg lo mean mg mb h₀' → Q v { s with heap := h', toks := tk' }) :
    wpAny (model pw w) (ktrTop dp un gd cn cs L a ccd cl outer) (call f args) Q E s := C _ _ _ _ _ _ _ _ _ _ _ _ _ _ _ _ _ _ _ _ B F X N T hk hdp hun XB TB h
end

theorem rows_19 : True := by
  k_with "m call builtin:len" => (k_here; (with_reducible show wpAny _ _ (call (Value.builtin "len") [Value.ref _]) _ _ _); (k_extra "m my_fq"); k_dflt ((with_reducible refine' lenLE ?z9kN ?z9km ?z9ke ?z9kf ?_); (case z9kN => k_asm); (case z9km => first | k_mem | (k_memK; done) | exact List.Mem.tail _ (by assumption)); (case z9ke => eq_refl); (case z9kf => first | omega | k_extra "m my_len")); intro _ _)
  k_with "m call builtin:len" => (k_here; (with_reducible show wpAny _ _ (call (Value.builtin "len") [Value.bytes _ _]) _ _ _); k_dflt ((with_reducible refine' lenB ?z9kN ?z9ke ?z9kf ?_); (case z9kN => k_extra "m my_ints"); (case z9ke => eq_refl); (case z9kf => k_extra "m my_len")))
  k_with "m call ref" => ((with_reducible show wpAny _ _ (call (Value.ref 44) [Value.str _ _]) _ _ _); ((((k_extra "m my_fq"); k_dflt (refine' (Ctr.use (c_form _ _ _ _)) ?z9k1 ?z9k2 ?z9k3 ?z9k4 ?z9k5 ?z9k6 ?z9k7 ?z9k8 ?_; (case z9k1 => k_asm); (case z9k2 => k_asm); (case z9k3 => k_asm); (case z9k4 => k_asm); (case z9k5 => k_asm); (case z9k6 => first | exact rfl | assumption); (case z9k7 => k_extra "m my_rm"); (case z9k8 => k_extra "m my_rm"))); k_whole)); intro _ _ _ _ hP8 _ _; obtain ⟨_, _, _, ev8, _, _, _, el8⟩ := hP8; subst ev8; subst el8; refine ⟨_, _, _, rfl, (by exact Frag.In.keeps (by assumption) (Fr.keep (by assumption))), ((by assumption : News _ _ _ _) _ (List.mem_cons_self ..)).1, (by assumption), (by assumption), ?_⟩; (try dsimp only))
  k_with "m exec Raise some none" => (k_here; k_dflt (refine' my_Raise1 ?z9q2 ?_; (case z9q2 => eq_refl)))
  k_with "m my_raised" => (
  k_dflt (refine' my_leave_first ?z9k1 ?z9k2 ?z9k3 ?z9k4 ?z9k5 ?_ ?z9k7; (case z9k1 => assumption); (case z9k2 => assumption); (case z9k3 => assumption); (case z9k4 => assumption); (case z9k5 => assumption); (case z9k7 => eq_refl)); intro _ R9 _; rw [(by assumption : Obj.cls _ = Value.ref 44)] at R9; (revert R9; intro _))
  k_with "m my_passed" => (
  k_dflt (refine' my_leave_on ?z9k1 ?z9k2 ?z9k3 ?z9k4 ?_; (case z9k3 => assumption); (case z9k4 => assumption); (case z9k1 => assumption); (case z9k2 => assumption)); intro _ _ _)
  trivial

section
set_option maxHeartbeats 2000000 in
theorem e_unpack (w : World) (b : Array UInt8) (tb : Tok) (ks : List Int) (led : List (Addr × Obj)) (hb : KBw.bInts b = ks) (hlen : ks.length < 8) :
    CtrE w 30 200 (.ref 215) [.bytes b tb] led := by
  intro mean mg mb dp un gd cn cs a ccd cl outer A₀ base h₀ L m s Q E B F X N T hk hdp hun hraise
  (
  refine wpAny_call ?_
  k_dflt (refine' code_def (binds := [(Str.ofString "octets", Value.bytes b tb)]) ?z9k1 ?z9k2 ?z9k3 ?z9k4 ?z9k5 ?z9kA ?z9kF ?z9kK ?z9k6 ?z9k7 ?z9k8 ?z9k9 ?z9kB ?_ ?z9c2 ?z9c3 ?z9c4 ?z9c5; (case z9kA => eq_refl); (case z9kF => eq_refl); (case z9kK => assumption); (case z9k1 => k_asm); (case z9k2 => k_asm); (case z9k3 => k_asm); (case z9k4 => k_asm); (case z9k5 => k_asm); (case z9k6 => k_is); (case z9k7 => k_is); (case z9k8 => ktr_room); (case z9k9 => exact BindsTo.of_eq (by kernel_rfl)); (case z9c5 => decide); (case z9kB => exact locs rfl); (case z9c2 => eq_refl); (case z9c3 => eq_refl); (case z9c4 => eq_refl); k_whole))
  intro g1 L1 hp1 FG F1 N1 B1 X1 T1
  k_extra "m my_ent"
  k_extra "m my_walk"
  k_extra "m my_raised"
  exact hraise _ _ _ _ (by assumption) (by assumption) (by assumption)
end

section
set_option maxHeartbeats 2000000 in
theorem e_unpack2 (w : World) (b : Array UInt8) (tb : Tok) (ks : List Int) (led : List (Addr × Obj)) (hb : KBw.bInts b = ks) (h8 : 8 ≤ ks.length) (hlen : ks.length ≤ 70000) (hS : wsum ks ks.length % 65535 ≠ 0) :
    CtrE w 30 200 (.ref 215) [.bytes b tb] led := by
  intro mean mg mb dp un gd cn cs a ccd cl outer A₀ base h₀ L m s Q E B F X N T hk hdp hun hraise
  (
  refine wpAny_call ?_
  k_dflt (refine' code_def (binds := [(Str.ofString "octets", Value.bytes b tb)]) ?z9k1 ?z9k2 ?z9k3 ?z9k4 ?z9k5 ?z9kA ?z9kF ?z9kK ?z9k6 ?z9k7 ?z9k8 ?z9k9 ?z9kB ?_ ?z9c2 ?z9c3 ?z9c4 ?z9c5; (case z9kA => eq_refl); (case z9kF => eq_refl); (case z9kK => assumption); (case z9k1 => k_asm); (case z9k2 => k_asm); (case z9k3 => k_asm); (case z9k4 => k_asm); (case z9k5 => k_asm); (case z9k6 => k_is); (case z9k7 => k_is); (case z9k8 => ktr_room); (case z9k9 => exact BindsTo.of_eq (by kernel_rfl)); (case z9c5 => decide); (case z9kB => exact locs rfl); (case z9c2 => eq_refl); (case z9c3 => eq_refl); (case z9c4 => eq_refl); k_whole))
  intro g1 L1 hp1 FG F1 N1 B1 X1 T1
  k_extra "m my_ent"
  k_extra "m my_walk"
  k_extra "m my_raised"
  exact hraise _ _ _ _ (by assumption) (by assumption) (by assumption)
theorem no129 : ∀ j : Nat, j < 256 → timeOf j ≠ 129 := by decide +kernel
set_option maxHeartbeats 2000000 in
theorem e_code (w : World) (tx : Tok) (led : List (Addr × Obj)) :
    CtrE w 30 200 (.ref 127) [.int 129 tx] led := by
  intro mean mg mb dp un gd cn cs a ccd cl outer A₀ base h₀ L m s Q E B F X N T hk hdp hun hraise
  (
  refine wpAny_call ?_
  k_dflt (refine' code_def (binds := [(Str.ofString "time", Value.int 129 tx)]) ?z9k1 ?z9k2 ?z9k3 ?z9k4 ?z9k5 ?z9kA ?z9kF ?z9kK ?z9k6 ?z9k7 ?z9k8 ?z9k9 ?z9kB ?_ ?z9c2 ?z9c3 ?z9c4 ?z9c5; (case z9kA => eq_refl); (case z9kF => eq_refl); (case z9kK => assumption); (case z9k1 => k_asm); (case z9k2 => k_asm); (case z9k3 => k_asm); (case z9k4 => k_asm); (case z9k5 => k_asm); (case z9k6 => k_is); (case z9k7 => k_is); (case z9k8 => ktr_room); (case z9k9 => exact BindsTo.of_eq (by kernel_rfl)); (case z9c5 => decide); (case z9kB => exact locs rfl); (case z9c2 => eq_refl); (case z9c3 => eq_refl); (case z9c4 => eq_refl); k_whole))
  intro g1 L1 hp1 FG F1 N1 B1 X1 T1
  k_extra "m my_ent"
  k_extra "m my_walk"
  k_extra "m my_for"
  k_extra "m my_walk"
  k_dflt (refine for_range (n := 256) (news := led) (fun j m1 news => led = news ∧ m1 (Str.ofString "time") = some (.int 129 tx)) (by rfl) (by k_asm) (by k_extra "m my_news") (by assumption) (by decide) (by decide) ⟨rfl, rfl⟩ ?_ ?_)
  · intro I j t m1 news h tk oI hk hJ off F' N'
    (try dsimp only)
    k_extra "m my_fq"
    obtain ⟨rfl, hm⟩ := hJ
    have F2 := fr_set (x := Str.ofString "time") F' hm
    clear F'
    k_extra "m my_fold"
    k_extra "m my_walk"
    · exfalso
      rename_i hq
      rw [show (0 + (j : Int) * 1) = j by omega] at hq
      exact no129 j hk (by first | exact hq | simpa using hq)
    · exact turn_next (by k_asm) (by k_asm) (fun _ h => h) off ⟨rfl, rfl⟩
  · intro m1 news h tk hJ F' N'
    obtain ⟨rfl, hm⟩ := hJ
    dsimp only
    k_extra "m my_walk"
    k_extra "m my_raised"
    exact hraise _ _ _ _ (by assumption) (by assumption) (by assumption)
end

theorem rows_20 : True := by
  k_with "m my_ent" => ((try dsimp only); (refine letAE ?_; intro _ _); (try k_fold))
  trivial

section
set_option maxHeartbeats 2000000 in
theorem c_refusedG (D U : Nat) (w : World) (lam : Addr) (led : List (Addr × Obj)) {nm9 qual9 : Str} {params9 : Arguments} {body9 : Expr} {scope9 : Scope} {cl9 : List (Str × Addr)} {pm9 ctv9 : Value} {c9 : Addr} (hobj : (lam, kla_obj nm9 qual9 params9 body9 scope9 cl9 pm9 c9 ctv9) ∈ led) (hlam : CtrE w D U (.ref lam) [] led) :
    CtrT w (D + 10) (U + 100) (.ref 343) [.ref lam] led (fun v l => v = .bool true ∧ led = l) := by
  intro mean mg mb dp un gd cn cs a ccd cl outer A₀ base h₀ L m s Q E B F X N T hk hdp hun XB TB hret
  (
  refine wpAny_call ?_
  k_dflt (refine' code_defT (binds := [(Str.ofString "call", Value.ref lam)]) ?z9k1 ?z9k2 ?z9k3 ?z9k4 ?z9k5 ?z9kXB ?z9kTB ?z9kA ?z9kF ?z9kK ?z9k6 ?z9k7 ?z9k8 ?z9k9 ?z9kB ?_ ?z9c2 ?z9c3 ?z9c4 ?z9c5; (case z9kA => eq_refl); (case z9kF => eq_refl); (case z9kK => assumption); (case z9k1 => k_asm); (case z9k2 => k_asm); (case z9k3 => k_asm); (case z9k4 => k_asm); (case z9k5 => k_asm); (case z9kXB => assumption); (case z9kTB => assumption); (case z9k6 => k_is); (case z9k7 => k_is); (case z9k8 => ktr_room); (case z9k9 => exact BindsTo.of_eq (by kernel_rfl)); (case z9c5 => decide); (case z9kB => exact locs rfl); (case z9c2 => eq_refl); (case z9c3 => eq_refl); (case z9c4 => eq_refl); k_whole))
  intro g1 L1 hp1 FG F1 N1 B1 X1 T1
  k_extra "m my_ent"
  k_extra "m my_walk"
  k_dflt (refine' callWith_F0 ?k1 ?_; (case k1 => exact FnAt.of (by k_asm) hobj); k_whole)
  (try dsimp only [List.nil_append, List.cons_append])
  ((((k_extra "m my_fq"); k_dflt (refine' (CtrE.use hlam) ?z9k1 ?z9k2 ?z9k3 ?z9k4 ?z9k5 ?z9k6 ?z9k7 ?z9k8 ?_; (case z9k1 => k_asm); (case z9k2 => k_asm); (case z9k3 => k_asm); (case z9k4 => k_asm); (case z9k5 => k_asm); (case z9k6 => first | exact rfl | assumption); (case z9k7 => k_extra "m my_rm"); (case z9k8 => k_extra "m my_rm"))); k_whole))
  intro e5 h5 G5 tk5 F5 R5 U5
  k_dflt (refine' my_caught R5 F5 ?k1 U5 XB TB ?k2 ?k3 ?_; (case k1 => assumption); (case k2 => k_is); (case k3 => kts_isx))
  intro h6 g6 T6 F6 N6 B6 X6 P6
  k_extra "m my_walk"
  (try dsimp only)
  refine ⟨g6, L1, _, led, T6, F6, N6, ?_⟩
  intro h7 T7 F7 N7 B7 X7 P7
  exact hret _ _ _ _ _ ⟨rfl, rfl⟩ T7 B7 F7 X7 N7 P7
theorem c_refused (w : World) (lam : Addr) (led : List (Addr × Obj)) {nm9 qual9 : Str} {params9 : Arguments} {body9 : Expr} {scope9 : Scope} {cl9 : List (Str × Addr)} {pm9 ctv9 : Value} {c9 : Addr} (hobj : (lam, kla_obj nm9 qual9 params9 body9 scope9 cl9 pm9 c9 ctv9) ∈ led) (hlam : CtrE w 40 300 (.ref lam) [] led) :
    CtrT w 50 400 (.ref 343) [.ref lam] led (fun v l => v = .bool true ∧ led = l) := c_refusedG 40 300 w lam led hobj hlam
end

theorem rows_21 : True := by
  k_with "m my_ent" => ((try dsimp only); (try (with_reducible refine toX ?_)); (refine letAE ?_; intro _ _); (try k_fold))
  k_with "m my_stop" => (
  (fail_if_success (with_reducible show wpAny _ _ (eval (Expr.ListComp _ _ _ _) _) _ _ _))
  (fail_if_success (with_reducible show wpAny _ _ (pyIter _) _ _ _))
  (fail_if_success (with_reducible show wpAny _ _ (exec (Stmt.For _ _ _ _ _) _) _ _ _))
  (fail_if_success (with_reducible show wpAny _ _ (exec (Stmt.While _ _ _ _) _) _ _ _)))
  k_with "m my_stop" => (
  (fail_if_success (with_reducible show wpAny _ _ (eval (Expr.ListComp _ _ _ _) _) _ _ _))
  (fail_if_success (with_reducible show wpAny _ _ (pyIter _) _ _ _))
  (fail_if_success (with_reducible show wpAny _ _ (exec (Stmt.For _ _ _ _ _) _) _ _ _))
  (fail_if_success (with_reducible show wpAny _ _ (exec (Stmt.While _ _ _ _) _) _ _ _))
  (fail_if_success (with_reducible show wpAny _ _ (call (Value.ref 127) _) _ _ _))
  (fail_if_success (with_reducible show wpAny _ _ (call (Value.ref 198) _) _ _ _))
  (fail_if_success (with_reducible show wpAny _ _ (call (Value.ref 203) _) _ _ _)))
  k_with "m call builtin:len" => (k_here; (with_reducible show wpAny _ _ (call (Value.builtin "len") [Value.ref _]) _ _ _); (k_extra "m my_fq"); k_dflt ((with_reducible refine' lenLE ?z9kN ?z9km ?z9ke ?z9kf ?_); (case z9kN => k_asm); (case z9km => first | k_mem | (k_memK; done) | exact List.Mem.tail _ (by assumption)); (case z9ke => eq_refl); (case z9kf => first | omega | k_extra "m my_len")); intro _ _)
  k_with "m call builtin:len" => (k_here; (with_reducible show wpAny _ _ (call (Value.builtin "len") [Value.bytes _ _]) _ _ _); k_dflt ((with_reducible refine' lenB ?z9kN ?z9ke ?z9kf ?_); (case z9kN => k_extra "m my_ints"); (case z9ke => eq_refl); (case z9kf => k_extra "m my_len")))
  k_with "m call builtin:len" => (k_here; (with_reducible show wpAny _ _ (call (Value.builtin "len") [Value.ref _]) _ _ _); k_dflt (refine' my_len_tup ?z9kF ?z9kX ?z9kN ?z9kT ?z9kz ?_; (case z9kF => k_asm); (case z9kX => assumption); (case z9kN => k_asm); (case z9kT => k_extra "m my_tupin"); (case z9kz => omega)); intro _ _)
  trivial

section
theorem raised_sub {base G h' : Heap} {fs : List Env} {e : Addr} {cls : Value} {led led' : List (Addr × Obj)} (R : RaisedSN base G fs e cls led' h') (h : ∀ p ∈ led, p ∈ led') : RaisedSN base G fs e cls led h' := by
  obtain ⟨B, a0, hB, hBG, hl, hfl⟩ := R
  exact ⟨B, a0, hB, hBG, fun q hq => hl q (h q hq), hfl⟩
theorem CtrE.more {w : World} {D U : Nat} {f : Value} {args : List Value} {led led' : List (Addr × Obj)} (C : CtrE w D U f args led') (h : ∀ p ∈ led', p ∈ led) (h2 : ∀ p ∈ led, p ∈ led') : CtrE w D U f args led := by
  intro mean mg mb dp un gd cn cs a ccd cl outer A₀ base h₀ L m s Q E B F X N T hk hdp hun hraise
  exact C _ _ _ _ _ _ _ _ _ _ _ _ _ _ _ _ _ _ _ _ B F X (fun p hp => N p (h p hp)) T hk hdp hun fun e h' G tk' F' R U => hraise e h' G tk' F' (raised_sub R h2) U
set_option maxHeartbeats 2000000 in
theorem e_pq3 (w : World) (x d T R : Addr) (u1 u2 u3 u4 u5 u6 t1 t2 t3 t4 : Tok) (kind : Str) (g : Int) (led : List (Addr × Obj))  :
    CtrE w 40 300 (.ref 198) [.ref x] ((x, instObj 182 d) :: (d, dictOf [kEn w (Str.ofString "kind") u1 (.str kind t1), kEn w (Str.ofString "group") u2 (.int g t2), kEn w (Str.ofString "wait") u3 (.int 129 t3), kEn w (Str.ofString "sources") u4 (.ref T), kEn w (Str.ofString "version") u5 (.int 3 t4), kEn w (Str.ofString "records") u6 (.ref R)] 6) :: led) := by
  intro mean mg mb dp un gd cn cs a ccd cl outer A₀ base h₀ L m s Q E B F X N T hk hdp hun hraise
  (
  refine wpAny_call ?_
  k_dflt (refine' code_def (binds := [(Str.ofString "message", Value.ref x)]) ?z9k1 ?z9k2 ?z9k3 ?z9k4 ?z9k5 ?z9kA ?z9kF ?z9kK ?z9k6 ?z9k7 ?z9k8 ?z9k9 ?z9kB ?_ ?z9c2 ?z9c3 ?z9c4 ?z9c5; (case z9kA => eq_refl); (case z9kF => eq_refl); (case z9kK => assumption); (case z9k1 => k_asm); (case z9k2 => k_asm); (case z9k3 => k_asm); (case z9k4 => k_asm); (case z9k5 => k_asm); (case z9k6 => k_is); (case z9k7 => k_is); (case z9k8 => ktr_room); (case z9k9 => exact BindsTo.of_eq (by kernel_rfl)); (case z9c5 => decide); (case z9kB => exact locs rfl); (case z9c2 => eq_refl); (case z9c3 => eq_refl); (case z9c4 => eq_refl); k_whole))
  intro g1 L1 hp1 FG F1 N1 B1 X1 T1
  k_extra "m my_ent"
  k_extra "m my_walk"
  ((((k_extra "m my_fq"); k_dflt (refine' (CtrE.use (e_code _ _ _)) ?z9k1 ?z9k2 ?z9k3 ?z9k4 ?z9k5 ?z9k6 ?z9k7 ?z9k8 ?_; (case z9k1 => k_asm); (case z9k2 => k_asm); (case z9k3 => k_asm); (case z9k4 => k_asm); (case z9k5 => k_asm); (case z9k6 => first | exact rfl | assumption); (case z9k7 => k_extra "m my_rm"); (case z9k8 => k_extra "m my_rm"))); k_whole))
  intro e5 h5 G5 tk5 F5 R5 U5
  k_extra "m my_passed"
  exact hraise _ _ _ _ (by assumption) (by assumption) (by assumption)
set_option maxHeartbeats 2000000 in
theorem e_pq2 (w : World) (x d T R : Addr) (u1 u2 u3 u4 u5 u6 t1 t2 t3 t4 : Tok) (kind : Str) (g : Int) (led : List (Addr × Obj))  :
    CtrE w 40 300 (.ref 198) [.ref x] ((x, instObj 182 d) :: (d, dictOf [kEn w (Str.ofString "kind") u1 (.str kind t1), kEn w (Str.ofString "group") u2 (.int g t2), kEn w (Str.ofString "wait") u3 (.int 0 t3), kEn w (Str.ofString "sources") u4 (.ref T), kEn w (Str.ofString "version") u5 (.int 2 t4), kEn w (Str.ofString "records") u6 (.ref R)] 6) :: led) := by
  intro mean mg mb dp un gd cn cs a ccd cl outer A₀ base h₀ L m s Q E B F X N T hk hdp hun hraise
  (
  refine wpAny_call ?_
  k_dflt (refine' code_def (binds := [(Str.ofString "message", Value.ref x)]) ?z9k1 ?z9k2 ?z9k3 ?z9k4 ?z9k5 ?z9kA ?z9kF ?z9kK ?z9k6 ?z9k7 ?z9k8 ?z9k9 ?z9kB ?_ ?z9c2 ?z9c3 ?z9c4 ?z9c5; (case z9kA => eq_refl); (case z9kF => eq_refl); (case z9kK => assumption); (case z9k1 => k_asm); (case z9k2 => k_asm); (case z9k3 => k_asm); (case z9k4 => k_asm); (case z9k5 => k_asm); (case z9k6 => k_is); (case z9k7 => k_is); (case z9k8 => ktr_room); (case z9k9 => exact BindsTo.of_eq (by kernel_rfl)); (case z9c5 => decide); (case z9kB => exact locs rfl); (case z9c2 => eq_refl); (case z9c3 => eq_refl); (case z9c4 => eq_refl); k_whole))
  intro g1 L1 hp1 FG F1 N1 B1 X1 T1
  k_extra "m my_ent"
  k_extra "m my_walk"
  k_extra "m my_raised"
  exact hraise _ _ _ _ (by assumption) (by assumption) (by assumption)
set_option maxHeartbeats 2000000 in
theorem e_pq1 (w : World) (x d T R : Addr) (u1 u2 u3 u4 u5 u6 t1 t2 t3 t4 : Tok) (kind : Str) (g : Int) (led : List (Addr × Obj))  :
    CtrE w 40 300 (.ref 198) [.ref x] ((x, instObj 182 d) :: (d, dictOf [kEn w (Str.ofString "kind") u1 (.str kind t1), kEn w (Str.ofString "group") u2 (.int g t2), kEn w (Str.ofString "wait") u3 (.int 5 t3), kEn w (Str.ofString "sources") u4 (.ref T), kEn w (Str.ofString "version") u5 (.int 1 t4), kEn w (Str.ofString "records") u6 (.ref R)] 6) :: led) := by
  intro mean mg mb dp un gd cn cs a ccd cl outer A₀ base h₀ L m s Q E B F X N T hk hdp hun hraise
  (
  refine wpAny_call ?_
  k_dflt (refine' code_def (binds := [(Str.ofString "message", Value.ref x)]) ?z9k1 ?z9k2 ?z9k3 ?z9k4 ?z9k5 ?z9kA ?z9kF ?z9kK ?z9k6 ?z9k7 ?z9k8 ?z9k9 ?z9kB ?_ ?z9c2 ?z9c3 ?z9c4 ?z9c5; (case z9kA => eq_refl); (case z9kF => eq_refl); (case z9kK => assumption); (case z9k1 => k_asm); (case z9k2 => k_asm); (case z9k3 => k_asm); (case z9k4 => k_asm); (case z9k5 => k_asm); (case z9k6 => k_is); (case z9k7 => k_is); (case z9k8 => ktr_room); (case z9k9 => exact BindsTo.of_eq (by kernel_rfl)); (case z9c5 => decide); (case z9kB => exact locs rfl); (case z9c2 => eq_refl); (case z9c3 => eq_refl); (case z9c4 => eq_refl); k_whole))
  intro g1 L1 hp1 FG F1 N1 B1 X1 T1
  k_extra "m my_ent"
  k_extra "m my_walk"
  k_extra "m my_raised"
  exact hraise _ _ _ _ (by assumption) (by assumption) (by assumption)
set_option maxHeartbeats 2000000 in
theorem e_pkjoin (w : World) (x d T R : Addr) (u1 u2 u3 u4 u5 u6 t1 t2 t3 t4 : Tok) (g : Int) (led : List (Addr × Obj))  :
    CtrE w 50 400 (.ref 193) [.ref x] ((x, instObj 182 d) :: (d, dictOf [kEn w (Str.ofString "kind") u1 (.str (Str.ofString "join") t1), kEn w (Str.ofString "group") u2 (.int g t2), kEn w (Str.ofString "wait") u3 (.int 0 t3), kEn w (Str.ofString "sources") u4 (.ref T), kEn w (Str.ofString "version") u5 (.int 2 t4), kEn w (Str.ofString "records") u6 (.ref R)] 6) :: led) := by
  intro mean mg mb dp un gd cn cs a ccd cl outer A₀ base h₀ L m s Q E B F X N T hk hdp hun hraise
  (
  refine wpAny_call ?_
  k_dflt (refine' code_def (binds := [(Str.ofString "message", Value.ref x)]) ?z9k1 ?z9k2 ?z9k3 ?z9k4 ?z9k5 ?z9kA ?z9kF ?z9kK ?z9k6 ?z9k7 ?z9k8 ?z9k9 ?z9kB ?_ ?z9c2 ?z9c3 ?z9c4 ?z9c5; (case z9kA => eq_refl); (case z9kF => eq_refl); (case z9kK => assumption); (case z9k1 => k_asm); (case z9k2 => k_asm); (case z9k3 => k_asm); (case z9k4 => k_asm); (case z9k5 => k_asm); (case z9k6 => k_is); (case z9k7 => k_is); (case z9k8 => ktr_room); (case z9k9 => exact BindsTo.of_eq (by kernel_rfl)); (case z9c5 => decide); (case z9kB => exact locs rfl); (case z9c2 => eq_refl); (case z9c3 => eq_refl); (case z9c4 => eq_refl); k_whole))
  intro g1 L1 hp1 FG F1 N1 B1 X1 T1
  k_extra "m my_ent"
  k_extra "m my_walk"
  k_extra "m my_raised"
  (with_reducible rename RaisedSN _ _ _ _ _ _ _ => R9)
  exact hraise _ _ _ _ (by assumption) (raised_sub R9 (fun p hp => .tail _ hp)) (by assumption)
set_option maxHeartbeats 2000000 in
theorem e_pkver (w : World) (x d T R : Addr) (u1 u2 u3 u4 u5 u6 t1 t2 t3 t4 : Tok) (g : Int) (led : List (Addr × Obj))  :
    CtrE w 50 400 (.ref 193) [.ref x] ((x, instObj 182 d) :: (d, dictOf [kEn w (Str.ofString "kind") u1 (.str (Str.ofString "report") t1), kEn w (Str.ofString "group") u2 (.int g t2), kEn w (Str.ofString "wait") u3 (.int 0 t3), kEn w (Str.ofString "sources") u4 (.ref T), kEn w (Str.ofString "version") u5 (.int 4 t4), kEn w (Str.ofString "records") u6 (.ref R)] 6) :: led) := by
  intro mean mg mb dp un gd cn cs a ccd cl outer A₀ base h₀ L m s Q E B F X N T hk hdp hun hraise
  (
  refine wpAny_call ?_
  k_dflt (refine' code_def (binds := [(Str.ofString "message", Value.ref x)]) ?z9k1 ?z9k2 ?z9k3 ?z9k4 ?z9k5 ?z9kA ?z9kF ?z9kK ?z9k6 ?z9k7 ?z9k8 ?z9k9 ?z9kB ?_ ?z9c2 ?z9c3 ?z9c4 ?z9c5; (case z9kA => eq_refl); (case z9kF => eq_refl); (case z9kK => assumption); (case z9k1 => k_asm); (case z9k2 => k_asm); (case z9k3 => k_asm); (case z9k4 => k_asm); (case z9k5 => k_asm); (case z9k6 => k_is); (case z9k7 => k_is); (case z9k8 => ktr_room); (case z9k9 => exact BindsTo.of_eq (by kernel_rfl)); (case z9c5 => decide); (case z9kB => exact locs rfl); (case z9c2 => eq_refl); (case z9c3 => eq_refl); (case z9c4 => eq_refl); k_whole))
  intro g1 L1 hp1 FG F1 N1 B1 X1 T1
  k_extra "m my_ent"
  k_extra "m my_walk"
  k_extra "m my_raised"
  exact hraise _ _ _ _ (by assumption) (by assumption) (by assumption)
theorem e_pq3M (w : World) (x : Addr) (kind : Str) (g : Int) (ns : List Int) (rs : List (Int × Int × List Int)) (led : List (Addr × Obj))  (hM : IsMsg w led x kind g 129 ns 3 rs) : CtrE w 40 300 (.ref 198) [.ref x] led := by
  obtain ⟨d, T, R, vs, rv, u1, u2, u3, u4, u5, u6, t1, t2, t3, t4, a, b, c, e, f, i⟩ := hM
  exact (e_pq3 w x d T R u1 u2 u3 u4 u5 u6 t1 t2 t3 t4 kind g led ).more (mem2 a b) (fun p hp => .tail _ (.tail _ hp))
set_option maxHeartbeats 2000000 in
theorem e_pkq3 (w : World) (x d T R : Addr) (u1 u2 u3 u4 u5 u6 t1 t2 t3 t4 : Tok) (g : Int) (led : List (Addr × Obj)) (ns : List Int) (rs : List (Int × Int × List Int)) (hM : IsMsg w led x (Str.ofString "query") g 129 ns 3 rs) :
    CtrE w 50 400 (.ref 193) [.ref x] ((x, instObj 182 d) :: (d, dictOf [kEn w (Str.ofString "kind") u1 (.str (Str.ofString "query") t1), kEn w (Str.ofString "group") u2 (.int g t2), kEn w (Str.ofString "wait") u3 (.int 129 t3), kEn w (Str.ofString "sources") u4 (.ref T), kEn w (Str.ofString "version") u5 (.int 3 t4), kEn w (Str.ofString "records") u6 (.ref R)] 6) :: led) := by
  intro mean mg mb dp un gd cn cs a ccd cl outer A₀ base h₀ L m s Q E B F X N T hk hdp hun hraise
  (
  refine wpAny_call ?_
  k_dflt (refine' code_def (binds := [(Str.ofString "message", Value.ref x)]) ?z9k1 ?z9k2 ?z9k3 ?z9k4 ?z9k5 ?z9kA ?z9kF ?z9kK ?z9k6 ?z9k7 ?z9k8 ?z9k9 ?z9kB ?_ ?z9c2 ?z9c3 ?z9c4 ?z9c5; (case z9kA => eq_refl); (case z9kF => eq_refl); (case z9kK => assumption); (case z9k1 => k_asm); (case z9k2 => k_asm); (case z9k3 => k_asm); (case z9k4 => k_asm); (case z9k5 => k_asm); (case z9k6 => k_is); (case z9k7 => k_is); (case z9k8 => ktr_room); (case z9k9 => exact BindsTo.of_eq (by kernel_rfl)); (case z9c5 => decide); (case z9kB => exact locs rfl); (case z9c2 => eq_refl); (case z9c3 => eq_refl); (case z9c4 => eq_refl); k_whole))
  intro g1 L1 hp1 FG F1 N1 B1 X1 T1
  k_extra "m my_ent"
  k_extra "m my_walk"
  (
  k_dflt (refine' CtrE.use (e_pq3M _ _ _ _ ns rs _ ?q1) ?z9k1 ?z9k2 ?z9k3 ?z9k4 ?z9k5 ?z9k6 ?z9k7 ?z9k8 ?_; (case z9k1 => k_asm); (case z9k2 => k_asm); (case z9k3 => k_asm); (case z9k4 => k_asm); (case z9k5 => k_asm); (case z9k6 => first | exact rfl | assumption); (case z9k7 => ((try dsimp only [ktrTop]); omega)); (case z9k8 => ((try dsimp only [ktrTop]); omega))))
  case q1 => exact hM.mono (fun p hp => .tail _ (.tail _ (.tail _ hp)))
  k_whole
  intro e5 h5 G5 tk5 F5 R5 U5
  k_extra "m my_passed"
  (with_reducible rename RaisedSN _ _ _ _ _ _ _ => R9)
  exact hraise _ _ _ _ (by assumption) (raised_sub R9 (fun p hp => .tail _ hp)) (by assumption)
theorem e_pkq3M (w : World) (x : Addr) (g : Int) (ns : List Int) (rs : List (Int × Int × List Int)) (led : List (Addr × Obj))  (hM : IsMsg w led x (Str.ofString "query") g 129 ns 3 rs) : CtrE w 50 400 (.ref 193) [.ref x] led := by
  have hM0 := hM
  obtain ⟨d, T, R, vs, rv, u1, u2, u3, u4, u5, u6, t1, t2, t3, t4, a, b, c, e, f, i⟩ := hM
  exact (e_pkq3 w x d T R u1 u2 u3 u4 u5 u6 t1 t2 t3 t4 g led ns rs hM0).more (mem2 a b) (fun p hp => .tail _ (.tail _ hp))
theorem e_pq2M (w : World) (x : Addr) (kind : Str) (g : Int) (ns : List Int) (rs : List (Int × Int × List Int)) (led : List (Addr × Obj))  (hM : IsMsg w led x kind g 0 ns 2 rs) : CtrE w 40 300 (.ref 198) [.ref x] led := by
  obtain ⟨d, T, R, vs, rv, u1, u2, u3, u4, u5, u6, t1, t2, t3, t4, a, b, c, e, f, i⟩ := hM
  exact (e_pq2 w x d T R u1 u2 u3 u4 u5 u6 t1 t2 t3 t4 kind g led ).more (mem2 a b) (fun p hp => .tail _ (.tail _ hp))
set_option maxHeartbeats 2000000 in
theorem e_pkq2 (w : World) (x d T R : Addr) (u1 u2 u3 u4 u5 u6 t1 t2 t3 t4 : Tok) (g : Int) (led : List (Addr × Obj)) (ns : List Int) (rs : List (Int × Int × List Int)) (hM : IsMsg w led x (Str.ofString "query") g 0 ns 2 rs) :
    CtrE w 50 400 (.ref 193) [.ref x] ((x, instObj 182 d) :: (d, dictOf [kEn w (Str.ofString "kind") u1 (.str (Str.ofString "query") t1), kEn w (Str.ofString "group") u2 (.int g t2), kEn w (Str.ofString "wait") u3 (.int 0 t3), kEn w (Str.ofString "sources") u4 (.ref T), kEn w (Str.ofString "version") u5 (.int 2 t4), kEn w (Str.ofString "records") u6 (.ref R)] 6) :: led) := by
  intro mean mg mb dp un gd cn cs a ccd cl outer A₀ base h₀ L m s Q E B F X N T hk hdp hun hraise
  (
  refine wpAny_call ?_
  k_dflt (refine' code_def (binds := [(Str.ofString "message", Value.ref x)]) ?z9k1 ?z9k2 ?z9k3 ?z9k4 ?z9k5 ?z9kA ?z9kF ?z9kK ?z9k6 ?z9k7 ?z9k8 ?z9k9 ?z9kB ?_ ?z9c2 ?z9c3 ?z9c4 ?z9c5; (case z9kA => eq_refl); (case z9kF => eq_refl); (case z9kK => assumption); (case z9k1 => k_asm); (case z9k2 => k_asm); (case z9k3 => k_asm); (case z9k4 => k_asm); (case z9k5 => k_asm); (case z9k6 => k_is); (case z9k7 => k_is); (case z9k8 => ktr_room); (case z9k9 => exact BindsTo.of_eq (by kernel_rfl)); (case z9c5 => decide); (case z9kB => exact locs rfl); (case z9c2 => eq_refl); (case z9c3 => eq_refl); (case z9c4 => eq_refl); k_whole))
  intro g1 L1 hp1 FG F1 N1 B1 X1 T1
  k_extra "m my_ent"
  k_extra "m my_walk"
  (
  k_dflt (refine' CtrE.use (e_pq2M _ _ _ _ ns rs _ ?q1) ?z9k1 ?z9k2 ?z9k3 ?z9k4 ?z9k5 ?z9k6 ?z9k7 ?z9k8 ?_; (case z9k1 => k_asm); (case z9k2 => k_asm); (case z9k3 => k_asm); (case z9k4 => k_asm); (case z9k5 => k_asm); (case z9k6 => first | exact rfl | assumption); (case z9k7 => ((try dsimp only [ktrTop]); omega)); (case z9k8 => ((try dsimp only [ktrTop]); omega))))
  case q1 => exact hM.mono (fun p hp => .tail _ (.tail _ (.tail _ hp)))
  k_whole
  intro e5 h5 G5 tk5 F5 R5 U5
  k_extra "m my_passed"
  (with_reducible rename RaisedSN _ _ _ _ _ _ _ => R9)
  exact hraise _ _ _ _ (by assumption) (raised_sub R9 (fun p hp => .tail _ hp)) (by assumption)
theorem e_pkq2M (w : World) (x : Addr) (g : Int) (ns : List Int) (rs : List (Int × Int × List Int)) (led : List (Addr × Obj))  (hM : IsMsg w led x (Str.ofString "query") g 0 ns 2 rs) : CtrE w 50 400 (.ref 193) [.ref x] led := by
  have hM0 := hM
  obtain ⟨d, T, R, vs, rv, u1, u2, u3, u4, u5, u6, t1, t2, t3, t4, a, b, c, e, f, i⟩ := hM
  exact (e_pkq2 w x d T R u1 u2 u3 u4 u5 u6 t1 t2 t3 t4 g led ns rs hM0).more (mem2 a b) (fun p hp => .tail _ (.tail _ hp))
theorem e_pq1M (w : World) (x : Addr) (kind : Str) (g : Int) (ns : List Int) (rs : List (Int × Int × List Int)) (led : List (Addr × Obj))  (hM : IsMsg w led x kind g 5 ns 1 rs) : CtrE w 40 300 (.ref 198) [.ref x] led := by
  obtain ⟨d, T, R, vs, rv, u1, u2, u3, u4, u5, u6, t1, t2, t3, t4, a, b, c, e, f, i⟩ := hM
  exact (e_pq1 w x d T R u1 u2 u3 u4 u5 u6 t1 t2 t3 t4 kind g led ).more (mem2 a b) (fun p hp => .tail _ (.tail _ hp))
set_option maxHeartbeats 2000000 in
theorem e_pkq1 (w : World) (x d T R : Addr) (u1 u2 u3 u4 u5 u6 t1 t2 t3 t4 : Tok) (g : Int) (led : List (Addr × Obj)) (ns : List Int) (rs : List (Int × Int × List Int)) (hM : IsMsg w led x (Str.ofString "query") g 5 ns 1 rs) :
    CtrE w 50 400 (.ref 193) [.ref x] ((x, instObj 182 d) :: (d, dictOf [kEn w (Str.ofString "kind") u1 (.str (Str.ofString "query") t1), kEn w (Str.ofString "group") u2 (.int g t2), kEn w (Str.ofString "wait") u3 (.int 5 t3), kEn w (Str.ofString "sources") u4 (.ref T), kEn w (Str.ofString "version") u5 (.int 1 t4), kEn w (Str.ofString "records") u6 (.ref R)] 6) :: led) := by
  intro mean mg mb dp un gd cn cs a ccd cl outer A₀ base h₀ L m s Q E B F X N T hk hdp hun hraise
  (
  refine wpAny_call ?_
  k_dflt (refine' code_def (binds := [(Str.ofString "message", Value.ref x)]) ?z9k1 ?z9k2 ?z9k3 ?z9k4 ?z9k5 ?z9kA ?z9kF ?z9kK ?z9k6 ?z9k7 ?z9k8 ?z9k9 ?z9kB ?_ ?z9c2 ?z9c3 ?z9c4 ?z9c5; (case z9kA => eq_refl); (case z9kF => eq_refl); (case z9kK => assumption); (case z9k1 => k_asm); (case z9k2 => k_asm); (case z9k3 => k_asm); (case z9k4 => k_asm); (case z9k5 => k_asm); (case z9k6 => k_is); (case z9k7 => k_is); (case z9k8 => ktr_room); (case z9k9 => exact BindsTo.of_eq (by kernel_rfl)); (case z9c5 => decide); (case z9kB => exact locs rfl); (case z9c2 => eq_refl); (case z9c3 => eq_refl); (case z9c4 => eq_refl); k_whole))
  intro g1 L1 hp1 FG F1 N1 B1 X1 T1
  k_extra "m my_ent"
  k_extra "m my_walk"
  (
  k_dflt (refine' CtrE.use (e_pq1M _ _ _ _ ns rs _ ?q1) ?z9k1 ?z9k2 ?z9k3 ?z9k4 ?z9k5 ?z9k6 ?z9k7 ?z9k8 ?_; (case z9k1 => k_asm); (case z9k2 => k_asm); (case z9k3 => k_asm); (case z9k4 => k_asm); (case z9k5 => k_asm); (case z9k6 => first | exact rfl | assumption); (case z9k7 => ((try dsimp only [ktrTop]); omega)); (case z9k8 => ((try dsimp only [ktrTop]); omega))))
  case q1 => exact hM.mono (fun p hp => .tail _ (.tail _ (.tail _ hp)))
  k_whole
  intro e5 h5 G5 tk5 F5 R5 U5
  k_extra "m my_passed"
  (with_reducible rename RaisedSN _ _ _ _ _ _ _ => R9)
  exact hraise _ _ _ _ (by assumption) (raised_sub R9 (fun p hp => .tail _ hp)) (by assumption)
theorem e_pkq1M (w : World) (x : Addr) (g : Int) (ns : List Int) (rs : List (Int × Int × List Int)) (led : List (Addr × Obj))  (hM : IsMsg w led x (Str.ofString "query") g 5 ns 1 rs) : CtrE w 50 400 (.ref 193) [.ref x] led := by
  have hM0 := hM
  obtain ⟨d, T, R, vs, rv, u1, u2, u3, u4, u5, u6, t1, t2, t3, t4, a, b, c, e, f, i⟩ := hM
  exact (e_pkq1 w x d T R u1 u2 u3 u4 u5 u6 t1 t2 t3 t4 g led ns rs hM0).more (mem2 a b) (fun p hp => .tail _ (.tail _ hp))
theorem e_pkjoinM (w : World) (x : Addr) (g : Int) (ns : List Int) (rs : List (Int × Int × List Int)) (led : List (Addr × Obj))  (hM : IsMsg w led x (Str.ofString "join") g 0 ns 2 rs) : CtrE w 50 400 (.ref 193) [.ref x] led := by
  obtain ⟨d, T, R, vs, rv, u1, u2, u3, u4, u5, u6, t1, t2, t3, t4, a, b, c, e, f, i⟩ := hM
  exact (e_pkjoin w x d T R u1 u2 u3 u4 u5 u6 t1 t2 t3 t4 g led ).more (mem2 a b) (fun p hp => .tail _ (.tail _ hp))
theorem e_pkverM (w : World) (x : Addr) (g : Int) (ns : List Int) (rs : List (Int × Int × List Int)) (led : List (Addr × Obj))  (hM : IsMsg w led x (Str.ofString "report") g 0 ns 4 rs) : CtrE w 50 400 (.ref 193) [.ref x] led := by
  obtain ⟨d, T, R, vs, rv, u1, u2, u3, u4, u5, u6, t1, t2, t3, t4, a, b, c, e, f, i⟩ := hM
  exact (e_pkver w x d T R u1 u2 u3 u4 u5 u6 t1 t2 t3 t4 g led ).more (mem2 a b) (fun p hp => .tail _ (.tail _ hp))
end

section
set_option maxHeartbeats 2000000 in
theorem e_prec7 (w : World) (x d TS R : Addr) (u1 u2 u3 u4 u5 u6 t1 t2 t3 t4 : Tok) (kind : Str) (g wait ver k7 g7 : Int) (n7 : List Int) (rv : List Value) (led : List (Addr × Obj)) (hR : TupIn w led R rv) (hrs : RecsAre w led rv [(k7, g7, n7)]) (h7 : 6 < k7) :
    CtrE w 40 300 (.ref 203) [.ref x] ((x, instObj 182 d) :: (d, dictOf [kEn w (Str.ofString "kind") u1 (.str kind t1), kEn w (Str.ofString "group") u2 (.int g t2), kEn w (Str.ofString "wait") u3 (.int wait t3), kEn w (Str.ofString "sources") u4 (.ref TS), kEn w (Str.ofString "version") u5 (.int ver t4), kEn w (Str.ofString "records") u6 (.ref R)] 6) :: led) := by
  intro mean mg mb dp un gd cn cs a ccd cl outer A₀ base h₀ L m s Q E B F X N T hk hdp hun hraise
  have hrl := hrs.len
  have hrl1 : rv.length = 1 := hrl
  (
  refine wpAny_call ?_
  k_dflt (refine' code_def (binds := [(Str.ofString "message", Value.ref x)]) ?z9k1 ?z9k2 ?z9k3 ?z9k4 ?z9k5 ?z9kA ?z9kF ?z9kK ?z9k6 ?z9k7 ?z9k8 ?z9k9 ?z9kB ?_ ?z9c2 ?z9c3 ?z9c4 ?z9c5; (case z9kA => eq_refl); (case z9kF => eq_refl); (case z9kK => assumption); (case z9k1 => k_asm); (case z9k2 => k_asm); (case z9k3 => k_asm); (case z9k4 => k_asm); (case z9k5 => k_asm); (case z9k6 => k_is); (case z9k7 => k_is); (case z9k8 => ktr_room); (case z9k9 => exact BindsTo.of_eq (by kernel_rfl)); (case z9c5 => decide); (case z9kB => exact locs rfl); (case z9c2 => eq_refl); (case z9c3 => eq_refl); (case z9c4 => eq_refl); k_whole))
  intro g1 L1 hp1 FG F1 N1 B1 X1 T1
  k_extra "m my_ent"
  k_extra "m my_walk"
  k_extra "m my_for"
  k_extra "m my_walk"
  (with_reducible rename Fr _ _ _ _ => FF)
  (with_reducible rename News _ _ _ _ => NN)
  have NX := News.tail (News.tail NN)
  k_dflt (refine for_tupleL (vs := rv) (fun j m1 news => news = ((x, instObj 182 d) :: (d, dictOf [kEn w (Str.ofString "kind") u1 (.str kind t1), kEn w (Str.ofString "group") u2 (.int g t2), kEn w (Str.ofString "wait") u3 (.int wait t3), kEn w (Str.ofString "sources") u4 (.ref TS), kEn w (Str.ofString "version") u5 (.int ver t4), kEn w (Str.ofString "records") u6 (.ref R)] 6) :: led) ∧ j = 0) ?g1 FF X1 NX ?g2 ?g4 ?g3 ?_ ?_)
  case g1 => rfl
  case g2 => exact hR.mono fun p hp => .tail _ (.tail _ hp)
  case g4 => intro i m nx n hJ hp; exact hJ.1 ▸ hp
  case g3 => exact ⟨rfl, rfl⟩
  · intro I j v m1 news h tk oI hI hv hJ off F' N'
    (try dsimp only)
    k_extra "m my_fq"
    obtain ⟨rfl, rfl⟩ := hJ
    obtain ⟨xr, k, g', ns, rfl, hrj, hrec⟩ := hrs.at 0 v hv
    obtain ⟨rfl, rfl, rfl⟩ : k7 = k ∧ g7 = g' ∧ n7 = ns := by simpa using hrj
    obtain ⟨dr, Tr, vr, v1, v2, v3, s1, s2, ha, hb, hTr, hir⟩ := hrec
    have N2 : News g1 _ h ((xr, _) :: (dr, _) :: (I, oI) :: (x, instObj 182 d) :: (d, dictOf [kEn w (Str.ofString "kind") u1 (.str kind t1), kEn w (Str.ofString "group") u2 (.int g t2), kEn w (Str.ofString "wait") u3 (.int wait t3), kEn w (Str.ofString "sources") u4 (.ref TS), kEn w (Str.ofString "version") u5 (.int ver t4), kEn w (Str.ofString "records") u6 (.ref R)] 6) :: led) := fun p hp => by
      rcases List.mem_cons.mp hp with rfl | hp
      · exact N' _ (.tail _ (.tail _ (.tail _ ha)))
      · rcases List.mem_cons.mp hp with rfl | hp
        · exact N' _ (.tail _ (.tail _ (.tail _ hb)))
        · exact N' _ hp
    clear N'
    k_extra "m my_walk"
    k_extra "m my_raised"
    (with_reducible rename RaisedSN _ _ _ _ _ _ _ => R9)
    exact hraise _ _ _ _ (by assumption) (raised_sub R9 (fun p hp => .tail _ (.tail _ (.tail _ hp)))) (by assumption)
  · intro m1 news h tk hJ F' N'
    exact absurd hJ.2 (by rw [hrl1]; decide)
theorem e_prec7M (w : World) (x : Addr) (kind : Str) (g wait ver k7 g7 : Int) (n7 ns : List Int) (led : List (Addr × Obj)) (h7 : 6 < k7) (hM : IsMsg w led x kind g wait ns ver [(k7, g7, n7)]) : CtrE w 40 300 (.ref 203) [.ref x] led := by
  obtain ⟨d, T, R, vs, rv, u1, u2, u3, u4, u5, u6, t1, t2, t3, t4, a, b, c, e, f, i⟩ := hM
  exact (e_prec7 w x d T R u1 u2 u3 u4 u5 u6 t1 t2 t3 t4 kind g wait ver k7 g7 n7 rv led f i h7).more (mem2 a b) (fun p hp => .tail _ (.tail _ hp))
set_option maxHeartbeats 2000000 in
theorem e_pkrec (w : World) (x d T R : Addr) (u1 u2 u3 u4 u5 u6 t1 t2 t3 t4 : Tok) (g wait : Int) (led : List (Addr × Obj)) (ns n7 : List Int) (k7 g7 : Int) (h7 : 6 < k7) (hM : IsMsg w led x (Str.ofString "report") g wait ns 3 [(k7, g7, n7)]) :
    CtrE w 50 400 (.ref 193) [.ref x] ((x, instObj 182 d) :: (d, dictOf [kEn w (Str.ofString "kind") u1 (.str (Str.ofString "report") t1), kEn w (Str.ofString "group") u2 (.int g t2), kEn w (Str.ofString "wait") u3 (.int wait t3), kEn w (Str.ofString "sources") u4 (.ref T), kEn w (Str.ofString "version") u5 (.int 3 t4), kEn w (Str.ofString "records") u6 (.ref R)] 6) :: led) := by
  intro mean mg mb dp un gd cn cs a ccd cl outer A₀ base h₀ L m s Q E B F X N T hk hdp hun hraise
  (
  refine wpAny_call ?_
  k_dflt (refine' code_def (binds := [(Str.ofString "message", Value.ref x)]) ?z9k1 ?z9k2 ?z9k3 ?z9k4 ?z9k5 ?z9kA ?z9kF ?z9kK ?z9k6 ?z9k7 ?z9k8 ?z9k9 ?z9kB ?_ ?z9c2 ?z9c3 ?z9c4 ?z9c5; (case z9kA => eq_refl); (case z9kF => eq_refl); (case z9kK => assumption); (case z9k1 => k_asm); (case z9k2 => k_asm); (case z9k3 => k_asm); (case z9k4 => k_asm); (case z9k5 => k_asm); (case z9k6 => k_is); (case z9k7 => k_is); (case z9k8 => ktr_room); (case z9k9 => exact BindsTo.of_eq (by kernel_rfl)); (case z9c5 => decide); (case z9kB => exact locs rfl); (case z9c2 => eq_refl); (case z9c3 => eq_refl); (case z9c4 => eq_refl); k_whole))
  intro g1 L1 hp1 FG F1 N1 B1 X1 T1
  k_extra "m my_ent"
  k_extra "m my_walk"
  (
  k_dflt (refine' CtrE.use (e_prec7M _ _ _ _ _ _ _ _ _ _ _ h7 ?q1) ?z9k1 ?z9k2 ?z9k3 ?z9k4 ?z9k5 ?z9k6 ?z9k7 ?z9k8 ?_; (case z9k1 => k_asm); (case z9k2 => k_asm); (case z9k3 => k_asm); (case z9k4 => k_asm); (case z9k5 => k_asm); (case z9k6 => first | exact rfl | assumption); (case z9k7 => ((try dsimp only [ktrTop]); omega)); (case z9k8 => ((try dsimp only [ktrTop]); omega))))
  case q1 => exact hM.mono (fun p hp => .tail _ (.tail _ (.tail _ hp)))
  k_whole
  intro e5 h5 G5 tk5 F5 R5 U5
  k_extra "m my_passed"
  (with_reducible rename RaisedSN _ _ _ _ _ _ _ => R9)
  exact hraise _ _ _ _ (by assumption) (raised_sub R9 (fun p hp => .tail _ hp)) (by assumption)
theorem e_pkrecM (w : World) (x : Addr) (g wait k7 g7 : Int) (n7 ns : List Int) (led : List (Addr × Obj)) (h7 : 6 < k7) (hM : IsMsg w led x (Str.ofString "report") g wait ns 3 [(k7, g7, n7)]) : CtrE w 50 400 (.ref 193) [.ref x] led := by
  have hM0 := hM
  obtain ⟨d, T, R, vs, rv, u1, u2, u3, u4, u5, u6, t1, t2, t3, t4, a, b, c, e, f, i⟩ := hM
  exact (e_pkrec w x d T R u1 u2 u3 u4 u5 u6 t1 t2 t3 t4 g wait led ns n7 k7 g7 h7 hM0).more (mem2 a b) (fun p hp => .tail _ (.tail _ hp))
end

theorem rows_22 : True := by
  k_with "m my_stop" => (
  (fail_if_success (with_reducible show wpAny _ _ (eval (Expr.ListComp _ _ _ _) _) _ _ _))
  (fail_if_success (with_reducible show wpAny _ _ (pyIter _) _ _ _))
  (fail_if_success (with_reducible show wpAny _ _ (exec (Stmt.For _ _ _ _ _) _) _ _ _))
  (fail_if_success (with_reducible show wpAny _ _ (exec (Stmt.While _ _ _ _) _) _ _ _)))
  trivial

section
set_option maxHeartbeats 2000000 in
theorem e_viewcut (w : World) (b : Array UInt8) (tb : Tok) (ks : List Int) (led : List (Addr × Obj)) (hb : KBw.bInts b = ks) (hlen : ks.length ≤ 70000) (h20 : 20 ≤ ks.length) (h4 : nth ks 0 / 16 = 4) (hh : 5 ≤ nth ks 0 % 16) (hs0 : 4 * (nth ks 0 % 16) ≤ g2 ks 2) (hs1 : ks.length < g2 ks 2) :
    CtrE w 30 200 (.ref 246) [.bytes b tb] led := by
  intro mean mg mb dp un gd cn cs a ccd cl outer A₀ base h₀ L m s Q E B F X N T hk hdp hun hraise
  have h4' : ks.getD 0 0 / 16 = 4 := h4
  have h4'' : ks.getD (Int.toNat 0) 0 / 16 = 4 := h4
  have hh' : 5 ≤ ks.getD 0 0 % 16 := hh
  have hs0' : 4 * (ks.getD 0 0 % 16) ≤ g2 ks 2 := hs0
  k_extra "m my_make"
  intro x6 d6 h6 F6 N6 l61 l62
  have l63 := l61
  (try k_lt l61); (try k_lt2 l62)
  (
  k_dflt (refine' code_def (binds := [(Str.ofString "self", Value.ref x6), (Str.ofString "octets", Value.bytes b tb)]) ?z9k1 ?z9k2 ?z9k3 ?z9k4 ?z9k5 ?z9kA ?z9kF ?z9kK ?z9k6 ?z9k7 ?z9k8 ?z9k9 ?z9kB ?_ ?z9c2 ?z9c3 ?z9c4 ?z9c5; (case z9kA => eq_refl); (case z9kF => eq_refl); (case z9kK => assumption); (case z9k1 => k_asm); (case z9k2 => k_asm); (case z9k3 => k_asm); (case z9k4 => k_asm); (case z9k5 => k_asm); (case z9k6 => k_is); (case z9k7 => k_is); (case z9k8 => k_extra "m my_room"); (case z9k9 => first | exact BindsTo.of_eq (by kernel_rfl!) | exact binds_K (by k_in) rfl (by k_is) rfl rfl rfl); (case z9c5 => decide); (case z9kB => exact locs rfl); (case z9c2 => eq_refl); (case z9c3 => eq_refl); (case z9c4 => eq_refl); k_whole))
  intro g1 L1 hp1 FG F1 N1 B1 X1 T1
  k_extra "m my_ent"
  have w3 : ((ktrTop dp un gd cn cs L a ccd cl outer).under (Code.builtin "type.__call__" ⟨[Value.ref 246, Value.bytes b tb], []⟩)).depth = dp + 1 := by simp only [depth_under_make]
  have w4 : ((ktrTop dp un gd cn cs L a ccd cl outer).under (Code.builtin "type.__call__" ⟨[Value.ref 246, Value.bytes b tb], []⟩)).units = un + 1 := rfl
  k_extra "m my_walk"
  all_goals
    k_extra "m my_raised"
    (with_reducible rename RaisedSN _ _ _ _ _ _ _ => R9)
    exact hraise _ _ _ _ (by assumption) (raised_sub R9 (fun p hp => .tail _ (.tail _ (.tail _ hp)))) (by assumption)
set_option maxHeartbeats 2000000 in
theorem e_viewsum (w : World) (b : Array UInt8) (tb : Tok) (ks : List Int) (led : List (Addr × Obj)) (hb : KBw.bInts b = ks) (hlen : ks.length ≤ 70000) (h20 : 20 ≤ ks.length) (h4 : nth ks 0 / 16 = 4) (hh : 5 ≤ nth ks 0 % 16) (hsum : wsum (ks.take (4 * (nth ks 0 % 16)).toNat) (ks.take (4 * (nth ks 0 % 16)).toNat).length % 65535 ≠ 0) :
    CtrE w 30 200 (.ref 246) [.bytes b tb] led := by
  intro mean mg mb dp un gd cn cs a ccd cl outer A₀ base h₀ L m s Q E B F X N T hk hdp hun hraise
  have h4' : ks.getD 0 0 / 16 = 4 := h4
  have h4'' : ks.getD (Int.toNat 0) 0 / 16 = 4 := h4
  have hh' : 5 ≤ ks.getD 0 0 % 16 := hh
  have hsum' : wsum (ks.take (4 * (ks.getD 0 0 % 16)).toNat) (ks.take (4 * (ks.getD 0 0 % 16)).toNat).length % 65535 ≠ 0 := hsum
  k_extra "m my_make"
  intro x6 d6 h6 F6 N6 l61 l62
  have l63 := l61
  (try k_lt l61); (try k_lt2 l62)
  (
  k_dflt (refine' code_def (binds := [(Str.ofString "self", Value.ref x6), (Str.ofString "octets", Value.bytes b tb)]) ?z9k1 ?z9k2 ?z9k3 ?z9k4 ?z9k5 ?z9kA ?z9kF ?z9kK ?z9k6 ?z9k7 ?z9k8 ?z9k9 ?z9kB ?_ ?z9c2 ?z9c3 ?z9c4 ?z9c5; (case z9kA => eq_refl); (case z9kF => eq_refl); (case z9kK => assumption); (case z9k1 => k_asm); (case z9k2 => k_asm); (case z9k3 => k_asm); (case z9k4 => k_asm); (case z9k5 => k_asm); (case z9k6 => k_is); (case z9k7 => k_is); (case z9k8 => k_extra "m my_room"); (case z9k9 => first | exact BindsTo.of_eq (by kernel_rfl!) | exact binds_K (by k_in) rfl (by k_is) rfl rfl rfl); (case z9c5 => decide); (case z9kB => exact locs rfl); (case z9c2 => eq_refl); (case z9c3 => eq_refl); (case z9c4 => eq_refl); k_whole))
  intro g1 L1 hp1 FG F1 N1 B1 X1 T1
  k_extra "m my_ent"
  have w3 : ((ktrTop dp un gd cn cs L a ccd cl outer).under (Code.builtin "type.__call__" ⟨[Value.ref 246, Value.bytes b tb], []⟩)).depth = dp + 1 := by simp only [depth_under_make]
  have w4 : ((ktrTop dp un gd cn cs L a ccd cl outer).under (Code.builtin "type.__call__" ⟨[Value.ref 246, Value.bytes b tb], []⟩)).units = un + 1 := rfl
  k_extra "m my_walk"
  all_goals
    k_extra "m my_raised"
    (with_reducible rename RaisedSN _ _ _ _ _ _ _ => R9)
    exact hraise _ _ _ _ (by assumption) (raised_sub R9 (fun p hp => .tail _ (.tail _ (.tail _ hp)))) (by assumption)
end

section
theorem ints_inj {b c : Array UInt8} (h : KBw.bInts b = KBw.bInts c) : b = c := by
  unfold KBw.bInts at h
  have e : b.toList = c.toList := (List.map_inj_right (fun x y hxy => UInt8.toNat_inj.mp (by omega))).mp h
  exact Array.toList_inj.mp e
section
variable {A : Around} {s : Shared}
theorem eqAt_bytes (b : Array UInt8) (t u : Tok) : SeqAt.EqAt A s (.bytes b t) (.bytes b u) true := fun prog w E Q h => by
  unfold eqBool
  refine wpAny_holding ?_
  refine wpAny_ite_split (fun hab => ?_) (fun _ => ?_)
  · exact wpAny_bind (wpAny_rule (wpAny_pure h))
  · exact wpAny_bind (eq_bytes (by rw [beq_self_eq_true]; exact wpAny_truthy_bool h))
end
/-- two values that compare as the same -/
inductive Alike : Value → Value → Prop
  | int (a : Int) (t u : Tok) : Alike (.int a t) (.int a u)
  | bytes {b c : Array UInt8} (t u : Tok) : KBw.bInts b = KBw.bInts c → Alike (.bytes b t) (.bytes c u)
inductive AlikeAll : List Value → List Value → Prop
  | nil : AlikeAll [] []
  | cons {x y : Value} {xs ys : List Value} : Alike x y → AlikeAll xs ys → AlikeAll (x :: xs) (y :: ys)
theorem AlikeAll.len {xs ys : List Value} (h : AlikeAll xs ys) : xs.length = ys.length := by
  induction h with
  | nil => rfl
  | cons _ _ ih => simp [ih]
theorem AlikeAll.at {xs ys : List Value} (h : AlikeAll xs ys) : ∀ (j : Nat) (h1 : j < xs.length) (h2 : j < ys.length), Alike xs[j] ys[j] := by
  induction h with
  | nil => intro j h1; exact absurd h1 (Nat.not_lt_zero _)
  | cons a _ ih =>
    intro j h1 h2
    cases j with
    | zero => exact a
    | succ j => exact ih j (by simpa using h1) (by simpa using h2)
theorem Alike.eqAt {A : Around} {s : Shared} {x y : Value} (h : Alike x y) : SeqAt.EqAt A s x y true := by
  cases h with
  | int a t u => have := SeqAt.EqAt.int_int (A := A) (s := s) a t a u; rwa [beq_self_eq_true] at this
  | bytes t u hb => rw [ints_inj hb]; exact eqAt_bytes _ t u
section
variable {prog : Program} {w : World} {A : Around} {E : Value → Shared → Prop} {s : Shared} {h₀ : Heap} {L a b : Addr} {news : List (Addr × Obj)} {xs ys : List Value} {n k : Nat} {Q : Value → Shared → Prop}
theorem all_true (n : Nat) : ((List.range n).all fun _ => true) = true := List.all_eq_true.mpr fun _ _ => rfl
theorem ne_alike (N : News h₀ L s.heap news) (ma : (a, PySem.W.listOf xs.toArray n) ∈ news) (mb : (b, PySem.W.listOf ys.toArray k) ∈ news) (hA : AlikeAll xs ys) (hu : A.units < cLine) (h : Q (.bool false) s) :
    wpAny (model prog w) A (compareOp .NotEq (.ref a) (.ref b)) Q E s := by
  refine SeqAt.RcNeAt.lists (e := fun _ => true) (News.isList N ma) (News.isList N mb) (by simpa using hA.len) hu (fun j h1 h2 => ?_) prog w E Q ?_
  · have := (hA.at j (by simpa using h1) (by simpa using h2)).eqAt (A := A.in1) (s := s)
    simpa using this
  · rw [all_true]; exact h
theorem eq_alike (N : News h₀ L s.heap news) (ma : (a, PySem.W.listOf xs.toArray n) ∈ news) (mb : (b, PySem.W.listOf ys.toArray k) ∈ news) (hA : AlikeAll xs ys) (hu : A.units < cLine) (h : Q (.bool true) s) :
    wpAny (model prog w) A (compareOp .Eq (.ref a) (.ref b)) Q E s := by
  refine SeqAt.RcAt.lists (e := fun _ => true) (News.isList N ma) (News.isList N mb) (by simpa using hA.len) hu (fun j h1 h2 => ?_) prog w E Q ?_
  · have := (hA.at j (by simpa using h1) (by simpa using h2)).eqAt (A := A.in1) (s := s)
    simpa using this
  · rw [all_true]; exact h
theorem ne_bys {b c : Array UInt8} {t u : Tok} (hb : KBw.bInts b = KBw.bInts c) (h : Q (.bool false) s) : wpAny (model prog w) A (compareOp .NotEq (.bytes b t) (.bytes c u)) Q E s := by
  refine ne_bytes ?_
  rw [ints_inj hb, bne_self_eq_false]
  exact h
theorem ne_told {m : Str → Option Value} {va vb : Value} {d : PyData} {w' : World} (F : Fr h₀ L s.heap m) (X : (kay.heap_1 w'.params).In h₀) (N : News h₀ L s.heap news) (Ra : RdsIn w' news va d) (Rb : RdsIn w' news vb d)
    (hd : SeqAt.shaped d = true) (hu : A.units + 64 < cLine) (h : Q (.bool false) s) : wpAny (model prog w) A (compareOp .NotEq va vb) Q E s := by
  refine ne_dataH (Ra _ _ _ _ F X N) (Rb _ _ _ _ F X N) hd hd hu ?_
  rw [SeqAt.eqv_refl d (SeqAt.canLay_of_shaped hd)]
  exact h
end
theorem lay_ints (ns : List Int) : PyData.canLayAll0 (ns.map .int) = true ∧ PyData.depthAll (ns.map .int) = 0 := by
  induction ns with
  | nil => exact ⟨rfl, rfl⟩
  | cons n ns ih => simp [PyData.canLayAll0, PyData.canLay0, PyData.depthAll, PyData.depth, ih.1, ih.2]
theorem lay_recs (rs : List (Int × Int × List Int)) : PyData.canLayAll0 (rs.map recPy) = true ∧ PyData.depthAll (rs.map recPy) ≤ 2 := by
  induction rs with
  | nil => exact ⟨rfl, Nat.zero_le _⟩
  | cons r rs ih =>
    have h1 := lay_ints r.2.2
    refine ⟨by simp [recPy, PyData.canLayAll0, PyData.canLay0, ih.1, h1.1], ?_⟩
    simp only [List.map_cons, recPy, PyData.depthAll, PyData.depth, h1.2]
    have := ih.2
    omega
theorem msg_shaped (kind : Str) (g wait : Int) (ns : List Int) (ver : Int) (rs : List (Int × Int × List Int)) (hk : PyData.strOk kind = true) : SeqAt.shaped (msgPy kind g wait ns ver rs) = true := by
  have h1 := lay_ints ns
  have h2 := lay_recs rs
  simp only [SeqAt.shaped, msgPy, PyData.canLay0, PyData.canLayAll0, PyData.depth, PyData.depthAll, h1.1, h1.2, h2.1, hk, Bool.and_self, Bool.true_and, decide_eq_true_eq]
  have := h2.2
  omega
end

section
section
variable {M : Model} {A : Around} {E : Value → Shared → Prop} {s : Shared}
theorem newEnv_one {scope : Scope} {env : Env} {n0 n1 x : Str} {k1 : NameKind} {gl : Addr} {qual : Str} {Q : Env → Shared → Prop} (hnm : scope.names = [(n0, .local), (x, .cell), (n1, k1)]) (hk1 : (k1 == NameKind.cell) = false)
    (hQ : Q { scope, locals := s.heap.objs.size, globals := gl, cells := [(x, s.heap.objs.size + 1)], qual := qual, func := none, code := env.code, frame := env.frame, builtins := env.builtins }
      { s with heap := (s.heap.push { cls := .type "dict", data := .dict #[] }).push { cls := .type "cell", data := .cell none } }) :
    wpAny M A (newFunctionEnv scope gl [] [] qual none .none (some env)) Q E s := by
  unfold newFunctionEnv
  refine wpAny_bind (wpAny_alloc ?_)
  rw [hnm]
  simp only [List.forIn_cons, List.forIn_nil, hk1]
  have e : (s.heap.push { cls := .type "dict", data := .dict #[] } : Heap).objs.size = s.heap.objs.size + 1 := Heap.size_push ..
  rw [if_neg (show ¬ ((NameKind.local == NameKind.cell) = true) by decide)]
  refine wpAny_bind (wpAny_bind (wpAny_pure ?_))
  refine wpAny_bind ?_
  rw [if_pos (show (NameKind.cell == NameKind.cell) = true by decide)]
  refine wpAny_bind (wpAny_alloc (wpAny_pure ?_))
  refine wpAny_bind ?_
  rw [if_neg (show ¬ (false = true) by decide)]
  refine wpAny_pure (wpAny_pure (wpAny_bind (wpAny_pure ?_)))
  dsimp only [Option.isSome_some, if_true]
  rw [if_pos rfl, e]
  exact wpAny_pure hQ
end
theorem off1_of {D : Addr} : ∀ {l : List (Addr × Obj)}, (∀ p ∈ l, p.1 ≠ D) → Off1 D l
  | [], _ => trivial
  | _ :: _, h => ⟨h _ (.head _), off1_of fun p hp => h p (.tail _ hp)⟩
/-- four addresses apart from a ledger -/
def Off4 (I C D K : Addr) (l : List (Addr × Obj)) : Prop := ∀ p ∈ l, p.1 ≠ I ∧ p.1 ≠ C ∧ p.1 ≠ D ∧ p.1 ≠ K
/-- what such a turn leaves -/
def CellEnd (h₀ : Heap) (L : Addr) (m : Str → Option Value) (s : Shared) (I C D K : Addr) (oI oC oK : Obj) (J : List (Addr × Obj) → Prop) (ok : Bool) (s' : Shared) : Prop :=
  ok = false ∧ ∃ h' tk' news', s' = { s with heap := h', toks := tk' } ∧ Fr h₀ L h' m ∧ News h₀ L h' ((I, oI) :: (C, oC) :: (D, lst []) :: (K, oK) :: news') ∧ Off4 I C D K news' ∧ J news'
/-- one turn of a comprehension whose test is False and whose name is a cell -/
def CellTurn (prog : Program) (w : World) (A : Around) (h₀ : Heap) (L : Addr) (m : Str → Option Value) (env : Env) (ct : Expr) (x : Str) (scope : Scope) (s : Shared) (vs : List Value) (J : Nat → List (Addr × Obj) → Prop) : Prop :=
  ∀ (i : Nat) (v : Value) (news : List (Addr × Obj)) (I C D K : Addr) (oI oC oK : Obj) (h : Heap) (tk : Nat) (E' : Value → Shared → Prop),
    vs[i]? = some v → J i news → oK.data = .cell (some v) → Fr h₀ L h m → News h₀ L h ((I, oI) :: (C, oC) :: (D, lst []) :: (K, oK) :: news) → Off4 I C D K news →
    wpAny (model prog w) A (isTrue ct (compEnvC scope [(x, K)] C env) (eval ct (compEnvC scope [(x, K)] C env))) (CellEnd h₀ L m s I C D K oI oC oK (J (i + 1))) E' { s with heap := h, toks := tk }
section
variable {prog : Program} {w : World} {A : Around} {E : Value → Shared → Prop} {s : Shared} {h₀ : Heap} {L : Addr} {m : Str → Option Value} {env : Env}
theorem comp_cellF {ct elt iter : Expr} {x n0 n1 : Str} {k1 : NameKind} {px : Pos} {scope : Scope} {pos : Pos} {Q : Value → Shared → Prop} {vs : List Value} {ax : Addr} {k0 : Nat} {news0 : List (Addr × Obj)}
    (J : Nat → List (Addr × Obj) → Prop) (hh : A.handled = none) (F : Fr h₀ L s.heap m) (N : News h₀ L s.heap news0)
    (hclos : closureFor scope env = pure []) (hkind : scope.kind = .function) (hnm : scope.names = [(n0, .local), (x, .cell), (n1, k1)]) (hk1 : (k1 == NameKind.cell) = false)
    (hnames : ∀ y ∈ scope.names, y.2 = .local → scope.names.lookup y.1 = some .local) (hxk : ∀ C K, (compEnvC scope [(x, K)] C env).kindOf x = some .cell)
    (hiter : ∀ Q' : Value → Shared → Prop, Q' (.ref ax) s → wpAny (model prog w) A (eval iter env) Q' E s) (hl : (ax, PySem.W.listOf vs.toArray k0) ∈ news0) (hsz : vs.length ≤ sizeLine) (hj : J 0 news0)
    (hJl : ∀ i nw, J i nw → (ax, PySem.W.listOf vs.toArray k0) ∈ nw)
    (turn : CellTurn prog w A h₀ L m env ct x scope s vs J) (fin : ∀ nw, J vs.length nw → FinE h₀ L m s Q [] nw)
    (hs : ∀ x, foldedSetIterable iter env x = pure x) :
    wpAny (model prog w) A (eval (.ListComp elt [⟨.Name x px, iter, [ct], 0⟩] scope pos) env) Q E s := by
  rw [eval_ListComp]
  refine wpAny_comprehension_free (use := none) rfl hs hclos hkind hnames (hiter _ ?_)
  have hli : s.heap.IsList ax vs.toArray := ⟨_, (N _ hl).1, rfl, k0, rfl⟩
  have hlt : ax < s.heap.objs.size := Heap.lt_size (N _ hl).1
  refine wpAny_pyIter_list hli ?_
  have W := Walks.list (prog := prog) (w := w) hh s.heap.objs.size ax (Nat.ne_of_lt hlt) vs.toArray
  rw [show vs.toArray.size = vs.length from by simp] at W
  generalize hI0 : s.heap.objs.size = I at W ⊢
  have key : ∀ (h1 : Heap), h1 = s.heap.push { cls := .type "list_iterator", data := .fields #[.ref ax, .int 0 0] } →
      wpAny (model prog w) A (newList []) (fun acc s₃ => wpAny (model prog w) A (newFunctionEnv scope env.globals [] [] env.qual none .none (some env)) (fun cenv s₄ =>
        codeAny (model prog w) A (.compStart (.ListComp elt [⟨.Name x px, iter, [ct], 0⟩] scope pos) 0 (.ref I) acc { cenv with scope := relabel scope env }) (compPost (model prog w) A E none Q acc cenv.locals) s₄) E s₃) E { s with heap := h1 } := by
    intro h1 hh1
    have hs1 : h1.objs.size = I + 1 := by rw [hh1, Heap.size_push, hI0]
    refine wpAny_newObj_type (newEnv_one hnm hk1 ?_)
    dsimp only
    rw [hs1]
    generalize hh2 : (h1.push { cls := .type "list", dict := none, data := .seq ([] : List Value).toArray } : Heap) = h2
    have hs2 : h2.objs.size = I + 1 + 1 := by rw [← hh2, Heap.size_push, hs1]
    rw [hs2]
    generalize hh3 : (h2.push { cls := .type "dict", data := .dict #[] } : Heap) = h3
    have hs3 : h3.objs.size = I + 1 + 1 + 1 := by rw [← hh3, Heap.size_push, hs2]
    generalize hh4 : (h3.push { cls := .type "cell", data := .cell none } : Heap) = h4
    have up : ∀ b o, s.heap.get? b = some o → h4.get? b = some o := fun b o e => by
      rw [← hh4, ← hh3, ← hh2, hh1]
      exact Heap.get?_push_of_some _ (Heap.get?_push_of_some _ (Heap.get?_push_of_some _ (Heap.get?_push_of_some _ e)))
    have gI : h4.get? I = some { cls := .type "list_iterator", data := .fields #[.ref ax, .int 0 0] } := by
      rw [← hh4, ← hh3, ← hh2, hh1]
      exact Heap.get?_push_of_some _ (Heap.get?_push_of_some _ (Heap.get?_push_of_some _ (hI0 ▸ Heap.get?_push_size _ rfl)))
    have gD : h4.get? (I + 1) = some (lst []) := by
      rw [← hh4, ← hh3, ← hh2]
      exact Heap.get?_push_of_some _ (Heap.get?_push_of_some _ (hs1 ▸ Heap.get?_push_size _ rfl))
    have gC : h4.Ns (I + 1 + 1) (fun _ => none) := by
      rw [← hh4, ← hh3]
      have := (Heap.Ns.new h2 (.type "dict")).keeps (fun b o e => Heap.get?_push_of_some { cls := .type "cell", data := .cell none } e)
      rw [hs2] at this
      exact this
    have gK : h4.get? (I + 1 + 1 + 1) = some { cls := .type "cell", data := .cell none } := by
      rw [← hh4]
      exact hs3 ▸ Heap.get?_push_size _ rfl
    have fresh : ∀ a, I ≤ a → h₀.get? a = none := fun a ha => Heap.get?_none_of_le (Nat.le_trans (Nat.le_of_lt (Nat.lt_of_le_of_lt F.above F.ns.lt)) (hI0 ▸ ha))
    have hLI : L < I := hI0 ▸ F.ns.lt
    have low : ∀ p ∈ news0, p.1 < I := fun p hp => hI0 ▸ Heap.lt_size (N p hp).1
    have Fr4 : Fr h₀ L h4 m := F.keeps up
    have N4 : News h₀ L h4 news0 := N.grown up
    have it4 : h4.IsListIter I ax 0 := ⟨_, gI, rfl, rfl⟩
    have li4 : h4.IsList ax vs.toArray := ⟨_, up _ _ (N _ hl).1, rfl, k0, rfl⟩
    clear hh1 hh2 hh3 hh4 hs1 hs2 hs3 up
    have loop : ∀ tk, codeAny (model prog w) A (.compLoop (.ListComp elt [⟨.Name x px, iter, [ct], 0⟩] scope pos) 0 (.ref I) (.ref (I + 1)) (compEnvC scope [(x, I + 1 + 1 + 1)] (I + 1 + 1) env))
        (compPost (model prog w) A E none Q (.ref (I + 1)) (I + 1 + 1)) { s with heap := h4, toks := tk } := by
      intro tk
      refine codeAny_compLoop_tests
        (fun k s' => ∃ h' tk i m' oK nw, s' = { s with heap := h', toks := tk } ∧ i ≤ vs.length ∧ k = vs.length + 1 - i ∧ h'.IsListIter I ax i ∧ h'.IsList ax vs.toArray ∧ Fr h₀ L h' m ∧ h'.Ns (I + 1 + 1) m' ∧
          h'.get? (I + 1 + 1 + 1) = some oK ∧ (∃ v, oK.data = .cell v) ∧ h'.get? (I + 1) = some (lst []) ∧ News h₀ L h' nw ∧ Off4 I (I + 1 + 1) (I + 1) (I + 1 + 1 + 1) nw ∧ J i nw) ?_ (vs.length + 1)
        ⟨h4, tk, 0, _, _, news0, rfl, Nat.zero_le _, rfl, it4, li4, Fr4, gC, gK, ⟨_, rfl⟩, gD, N4, fun p hp => ⟨Nat.ne_of_lt (low p hp), by have := low p hp; exact Nat.ne_of_lt (Nat.lt_succ_of_lt (Nat.lt_succ_of_lt this)), by have := low p hp; exact Nat.ne_of_lt (Nat.lt_succ_of_lt this), by have := low p hp; exact Nat.ne_of_lt (Nat.lt_succ_of_lt (Nat.lt_succ_of_lt (Nat.lt_succ_of_lt this)))⟩, hj⟩
      rintro k s' ⟨h', tk, i, m', oK, nw, rfl, hi, rfl, hit, hli', F', hn', hgK, ⟨vK, hdK⟩, hgD, N', off', hJ'⟩
      have nLI : L ≠ I := Nat.ne_of_lt hLI
      have hIC : I ≠ I + 1 + 1 := Nat.ne_of_lt (Nat.lt_succ_of_lt (Nat.lt_succ_self _))
      have hID : I ≠ I + 1 := Nat.ne_of_lt (Nat.lt_succ_self _)
      have hIK : I ≠ I + 1 + 1 + 1 := Nat.ne_of_lt (Nat.lt_succ_of_lt (Nat.lt_succ_of_lt (Nat.lt_succ_self _)))
      have hDC : I + 1 ≠ I + 1 + 1 := Nat.ne_of_lt (Nat.lt_succ_self _)
      have hDK : I + 1 ≠ I + 1 + 1 + 1 := Nat.ne_of_lt (Nat.lt_succ_of_lt (Nat.lt_succ_self _))
      have hCK : I + 1 + 1 ≠ I + 1 + 1 + 1 := Nat.ne_of_lt (Nat.lt_succ_self _)
      have nCL : I + 1 + 1 ≠ L := Nat.ne_of_gt (Nat.lt_succ_of_lt (Nat.lt_succ_of_lt hLI))
      have nDL : I + 1 ≠ L := Nat.ne_of_gt (Nat.lt_succ_of_lt hLI)
      have nKL : I + 1 + 1 + 1 ≠ L := Nat.ne_of_gt (Nat.lt_succ_of_lt (Nat.lt_succ_of_lt (Nat.lt_succ_of_lt hLI)))
      have fI := fresh I (Nat.le_refl _)
      have fD := fresh (I + 1) (Nat.le_succ _)
      have fC := fresh (I + 1 + 1) (Nat.le_of_lt (Nat.lt_succ_of_lt (Nat.lt_succ_self _)))
      have fK := fresh (I + 1 + 1 + 1) (Nat.le_of_lt (Nat.lt_succ_of_lt (Nat.lt_succ_of_lt (Nat.lt_succ_self _))))
      generalize I + 1 + 1 + 1 = K at *
      generalize I + 1 + 1 = C at *
      generalize I + 1 = D at *
      by_cases hlt : i < vs.length
      · refine W.item i _ _ _ hlt ⟨hit, hli'⟩ fun v h₂ tk₂ hPv hst₂ hk₂ => ?_
        have hPv' : vs[i]? = some v := by simpa using hPv
        have hk2 : ∀ b o, b ≠ I → h'.get? b = some o → h₂.get? b = some o := fun b o hb e => hk₂ b o (by simpa using hb) e
        refine wpAny_assign_Name (wpAny_storeName_cell (by simp [compEnvC, relabel, hkind]) (hxk C K) (show List.lookup x [(x, K)] = some K by simp) ⟨oK, hk2 K oK (Ne.symm hIK) hgK, hdK⟩ fun h₃ hc₃ hs₃ => ?_)
        refine wpAny_tests_one ?_
        obtain ⟨oK3, gK3, dK3⟩ := hc₃
        have keep3 : ∀ b o, b ≠ I → b ≠ K → h'.get? b = some o → h₃.get? b = some o := fun b o h1 h2 e => hs₃.extBut b o h2 (hk2 b o h1 e)
        have hlis : h₃.IsListIter I ax (i + 1) := by
          obtain ⟨o, e, r⟩ := hst₂.1
          exact ⟨o, hs₃.extBut _ _ hIK e, r⟩
        obtain ⟨oI, heI, hrI⟩ := hlis
        have hn3 : h₃.Ns C m' := hn'.at' fun o e => keep3 _ _ (Ne.symm hIC) hCK e
        obtain ⟨oC, heC, hoC⟩ := ns_obj hn3
        have F3 : Fr h₀ L h₃ m := ⟨F'.ns.at' fun o e => keep3 L o nLI (Ne.symm nKL) e, fun b o e => keep3 b o (fun q => by rw [q, fI] at e; cases e) (fun q => by rw [q, fK] at e; cases e) (F'.keep b o e), F'.above⟩
        have N3 : News h₀ L h₃ ((I, oI) :: (C, oC) :: (D, lst []) :: (K, oK3) :: nw) := fun p hp => by
          rcases List.mem_cons.mp hp with rfl | hp
          · exact ⟨heI, Ne.symm nLI, fI⟩
          rcases List.mem_cons.mp hp with rfl | hp
          · exact ⟨heC, nCL, fC⟩
          rcases List.mem_cons.mp hp with rfl | hp
          · exact ⟨keep3 _ _ (Ne.symm hID) hDK hgD, nDL, fD⟩
          rcases List.mem_cons.mp hp with rfl | hp
          · exact ⟨gK3, nKL, fK⟩
          · have n := N' p hp
            exact ⟨keep3 _ _ (off' p hp).1 (off' p hp).2.2.2 n.1, n.2⟩
        refine wpAny_mono (turn i v nw I C D K oI oC oK3 h₃ _ _ hPv' hJ' dK3 F3 N3 off') (fun ok s₄ h₄ => ?_) fun _ _ e => e
        obtain ⟨rfl, h5, tk5, nw5, rfl, F5, N5, off5, hJ5⟩ := h₄
        rw [if_neg (by decide)]
        have nI := (N5 _ (.head _)).1
        have nC := (N5 _ (.tail _ (.head _))).1
        have nD := (N5 _ (.tail _ (.tail _ (.head _)))).1
        have nK := (N5 _ (.tail _ (.tail _ (.tail _ (.head _))))).1
        have N5' : News h₀ L h5 nw5 := fun p hp => N5 p (.tail _ (.tail _ (.tail _ (.tail _ hp))))
        exact ⟨vs.length + 1 - (i + 1), by omega, h5, tk5, i + 1, m', oK3, nw5, rfl, hlt, rfl, ⟨oI, nI, hrI⟩, ⟨_, (N5' _ (hJl _ _ hJ5)).1, rfl, k0, rfl⟩, F5, hoC.ns nC, nK, ⟨_, dK3⟩, nD, N5', off5, hJ5⟩
      · obtain rfl : i = vs.length := Nat.le_antisymm hi (Nat.not_lt.mp hlt)
        refine W.done _ _ _ ⟨hit, hli'⟩ fun h₂ tk₂ hk₂ => ?_
        have hk2 : ∀ b o, b ≠ I → h'.get? b = some o → h₂.get? b = some o := fun b o hb e => hk₂ b o (by simpa using hb) e
        refine ⟨m', hn'.at' fun o e => hk2 _ o (Ne.symm hIC) e, fun h'' hs'' => ?_⟩
        refine fin nw hJ' D h'' _ ⟨F'.ns.at' fun o e => hs''.extBut _ _ (Ne.symm nCL) (hk2 L o nLI e), fun b o e => hs''.extBut _ _ (fun q => by rw [q, fC] at e; cases e) (hk2 b o (fun q => by rw [q, fI] at e; cases e) (F'.keep b o e)), F'.above⟩ (fun p hp => ?_) ?_
        · rcases List.mem_cons.mp hp with rfl | hp
          · exact ⟨hs''.extBut _ _ hDC (hk2 _ _ (Ne.symm hID) hgD), nDL, fD⟩
          · have n := N' p hp
            exact ⟨hs''.extBut _ _ (off' p hp).2.1 (hk2 _ _ (off' p hp).1 n.1), n.2⟩
        · exact off1_of fun p hp => (off' p hp).2.2.1
    exact codeAny_compStart_list (loop _) (W.self 0 _ _ _ ⟨it4, li4⟩ (loop _))
  exact key _ rfl
end
end

theorem rows_23 : True := by
  k_with "m my_walk" => (repeat' (first | (k_unfold; (try dsimp only)) | (k_extra "m my_stop"; first | walk1 | (dsimp only; walk1) | (dsimp only; k_unfold; (try dsimp only)) | (dsimp only [List.cons_append, List.nil_append]; walk1))))
  k_with "m my_walk" => (repeat' (first | (k_unfold; (try dsimp only)) | (k_extra "m my_stopB"; first | walk1 | (dsimp only; walk1) | (dsimp only; k_unfold; (try dsimp only)) | (dsimp only [List.cons_append, List.nil_append]; walk1))))
  k_with "m k_all" => (assumption)
  k_with "m k_all" => (first | assumption | (with_reducible refine ne_cons ?z9ka ?z9kb; (case z9ka => k_ne); (case z9kb => k_all)))
  k_with "m call ref" => ((with_reducible show wpAny _ _ (call (Value.ref 312) [Value.bytes _ _, Value.int 2 _]) _ _ _); (((k_extra "m my_fq"); k_dflt (refine' (Ctr.eB (c_summed _ _ _ _ 2 _ _ (by assumption) (by k_extra "m my_len") (by decide) (by k_extra "m my_len"))) ?z9k1 ?z9k2 ?z9k3 ?z9k4 ?z9k5 ?z9k6 ?z9k7 ?z9k8 ?_; (case z9k1 => k_asm); (case z9k2 => k_asm); (case z9k3 => k_asm); (case z9k4 => k_asm); (case z9k5 => k_asm); (case z9k6 => first | exact rfl | assumption); (case z9k7 => k_extra "m my_rm"); (case z9k8 => k_extra "m my_rm"))); k_whole); intro _ _ _ _ _ _ _; (try dsimp only))
  k_with "m my_stopB" => (
  (fail_if_success (with_reducible show wpAny _ _ (eval (Expr.ListComp _ _ _ _) _) _ _ _))
  (fail_if_success (with_reducible show wpAny _ _ (pyIter _) _ _ _))
  (fail_if_success (with_reducible show wpAny _ _ (exec (Stmt.For _ _ _ _ _) _) _ _ _))
  (fail_if_success (with_reducible show wpAny _ _ (exec (Stmt.While _ _ _ _) _) _ _ _))
  (fail_if_success (with_reducible show wpAny _ _ (exec (Stmt.Assign _ (Expr.ListComp _ _ _ _) _) _) _ _ _))
  (fail_if_success (with_reducible show wpAny _ _ (call (Value.ref 293) _) _ _ _))
  (fail_if_success (with_reducible show wpAny _ _ (call (Value.ref 331) _) _ _ _))
  (fail_if_success (with_reducible show wpAny _ _ (call (Value.ref 182) _) _ _ _)))
  k_with "m my_stopI" => (fail_if_success (with_reducible show wpAny _ _ (exec (Stmt.If _ _ _ _) _) _ _ _))
  k_with "m my_walkI" => (repeat' (first | (k_unfold; (try dsimp only)) | (k_extra "m my_stopI"; k_extra "m my_stopB"; first | walk1 | (dsimp only; walk1) | (dsimp only; k_unfold; (try dsimp only)) | (dsimp only [List.cons_append, List.nil_append]; walk1))))
  k_with "m my_one" => (
  ((((k_extra "m my_fq"); k_dflt (refine' (Ctr.use (Ctr.upd (P := MemP _) (fun r hr ha => c_one _ _ _ _ _ r _ hr (ha _ ?z9q1 ?z9q2) ?z9q3 ?z9q4 ?z9q5) ?z9q6)) ?z9k1 ?z9k2 ?z9k3 ?z9k4 ?z9k5 ?z9k6 ?z9k7 ?z9k8 ?_; (case z9k1 => k_asm); (case z9k2 => k_asm); (case z9k3 => k_asm); (case z9k4 => k_asm); (case z9k5 => k_asm); (case z9k6 => first | exact rfl | assumption); (case z9k7 => k_extra "m my_rm"); (case z9k8 => k_extra "m my_rm")))))
  (case z9q6 => k_updF)
  (case z9q1 => k_mem)
  (case z9q2 => k_ne)
  (case z9q3 => simp only [List.length_cons, List.length_nil]; omega)
  (case z9q4 => simp only [List.length_cons, List.length_nil]; omega)
  (case z9q5 => assumption)
  k_whole)
  trivial

section
inductive Good : Str → Int → Int → List Int → Int → List (Int × Int × List Int) → List Int → Prop
  | leave (g : Int) : 0 ≤ g → g < 4294967296 → Good (Str.ofString "leave") g 0 [] 2 [] (summed ([23, 0, 0, 0] ++ four g) 2)
  | rep1 (g : Int) : 0 ≤ g → g < 4294967296 → Good (Str.ofString "report") g 0 [] 1 [] (summed ([18, 0, 0, 0] ++ four g) 2)
  | rep2 (g : Int) : 0 ≤ g → g < 4294967296 → Good (Str.ofString "report") g 0 [] 2 [] (summed ([22, 0, 0, 0] ++ four g) 2)
  | rep3 (rs : List (Int × Int × List Int)) : rs.length ≤ 3 → (∀ r ∈ rs, RG r) → Good (Str.ofString "report") 0 0 [] 3 rs (summed ([34, 0, 0, 0, 0, 0] ++ two rs.length ++ (rs.map recBytes).flatten) 2)
  | q1 (g : Int) : 0 ≤ g → g < 4294967296 → Good (Str.ofString "query") g 0 [] 1 [] (summed ([17, 0, 0, 0] ++ four g) 2)
  | q2 (g wait : Int) : 0 ≤ g → g < 4294967296 → 1 ≤ wait → wait ≤ 255 → Good (Str.ofString "query") g wait [] 2 [] (summed ([17, wait, 0, 0] ++ four g) 2)
  | q3 (g code : Int) (ns : List Int) : 0 ≤ g → g < 4294967296 → 0 ≤ code → code < 256 → ns.length ≤ 2 → (∀ n ∈ ns, 0 ≤ n ∧ n < 4294967296) → Good (Str.ofString "query") g (timeOf code) ns 3 [] (summed ([17, code, 0, 0] ++ four g ++ [0, 0] ++ two ns.length ++ (ns.map four).flatten) 2)
def DrawP (w : World) (src : Addr) (rest : List (Addr × Obj)) (v : Value) (l : List (Addr × Obj)) : Prop :=
  ∃ o' tl D x b t kind g wait ns ver rs ks, SrcObj o' ∧ v = .ref D ∧ (D, PySem.W.listOf #[.ref x, .bytes b t] 0) ∈ tl ∧ IsMsg w (tl ++ rest) x kind g wait ns ver rs ∧ Good kind g wait ns ver rs ks ∧ KBw.bInts b = ks ∧ (∀ q ∈ (src, o') :: rest, ∀ p ∈ tl, q.1 < p.1) ∧ tl ++ (src, o') :: rest = l
theorem SrcObj.cls {o : Obj} (h : SrcObj o) : o.cls = .type "list" := by
  obtain ⟨a, ta, b, tb, n, rfl, _⟩ := h
  rfl
theorem RecsAre.strip {w : World} {t r : List (Addr × Obj)} {a : Addr} {oa : Obj} {vs : List Value} {rs : List (Int × Int × List Int)} (h : RecsAre w (t ++ (a, oa) :: r) vs rs) (h1 : oa.cls ≠ .ref 153) (h2 : oa.cls ≠ .type "dict") (h3 : oa.cls ≠ .type "tuple") : RecsAre w (t ++ r) vs rs := by
  induction h with
  | nil => exact .nil
  | cons x _ ih => exact .cons (x.strip h1 h2 h3) ih
theorem IsMsg.strip {w : World} {t r : List (Addr × Obj)} {a : Addr} {oa : Obj} {x : Addr} {kind : Str} {g wait : Int} {ns : List Int} {ver : Int} {rs : List (Int × Int × List Int)} (h : IsMsg w (t ++ (a, oa) :: r) x kind g wait ns ver rs) (h0 : oa.cls ≠ .ref 182) (h1 : oa.cls ≠ .ref 153) (h2 : oa.cls ≠ .type "dict") (h3 : oa.cls ≠ .type "tuple") : IsMsg w (t ++ r) x kind g wait ns ver rs := by
  obtain ⟨d, T, R, vs, rv, u1, u2, u3, u4, u5, u6, t1, t2, t3, t4, a1, b1, ⟨n, c1⟩, e, ⟨n2, f1⟩, i⟩ := h
  exact ⟨d, T, R, vs, rv, u1, u2, u3, u4, u5, u6, t1, t2, t3, t4, strip_mem a1 (Ne.symm h0), strip_mem b1 (Ne.symm h2), ⟨n, c1.imp (fun c => strip_mem c (Ne.symm h3)) id⟩, e, ⟨n2, f1.imp (fun c => strip_mem c (Ne.symm h3)) id⟩, i.strip h1 h2 h3⟩
theorem IsMsg.stripSrc {w : World} {t r : List (Addr × Obj)} {a : Addr} {oa : Obj} {x : Addr} {kind : Str} {g wait : Int} {ns : List Int} {ver : Int} {rs : List (Int × Int × List Int)} (h : IsMsg w (t ++ (a, oa) :: r) x kind g wait ns ver rs) (hc : oa.cls = .type "list") : IsMsg w (t ++ r) x kind g wait ns ver rs :=
  h.strip (by rw [hc]; decide) (by rw [hc]; decide) (by rw [hc]; decide) (by rw [hc]; decide)
theorem drawn_sub {α : Type} {a b c s p : α} {t8 pre rest : List α} (h : p ∈ (a :: (t8 ++ (pre ++ [c]))) ++ s :: rest) : p ∈ a :: b :: (t8 ++ (pre ++ c :: s :: rest)) := by
  have e : (a :: (t8 ++ (pre ++ [c]))) ++ s :: rest = a :: (t8 ++ (pre ++ c :: s :: rest)) := by simp
  rw [e] at h
  rcases List.mem_cons.mp h with rfl | h
  · exact .head _
  · exact .tail _ (.tail _ h)
theorem drawn_sub2 {α : Type} {a c s p : α} {t8 pre rest : List α} (h : p ∈ (a :: (t8 ++ (pre ++ [c]))) ++ s :: rest) : p ∈ a :: (t8 ++ (pre ++ c :: s :: rest)) := by
  have e : (a :: (t8 ++ (pre ++ [c]))) ++ s :: rest = a :: (t8 ++ (pre ++ c :: s :: rest)) := by simp
  rw [e] at h
  exact h
theorem drawn_sub3 {α : Type} {a c d s p : α} {t8 rest : List α} (h : p ∈ (a :: (t8 ++ ([] ++ [c]))) ++ s :: rest) : p ∈ a :: (t8 ++ d :: c :: s :: rest) := by
  have e : (a :: (t8 ++ ([] ++ [c]))) ++ s :: rest = a :: (t8 ++ (c :: s :: rest)) := by simp
  rw [e] at h
  rcases List.mem_cons.mp h with rfl | h
  · exact .head _
  · rcases List.mem_append.mp h with h | h
    · exact .tail _ (List.mem_append_left _ h)
    · exact .tail _ (List.mem_append_right _ (.tail _ h))
theorem drawn_end {w : World} {src L1 LF x : Addr} {o1 oB : Obj} {rest pre t8 : List (Addr × Obj)} {b : Array UInt8} {t : Tok} {kind : Str} {g wait : Int} {ns : List Int} {ver : Int} {rs : List (Int × Int × List Int)} {ks : List Int}
    (hsL : @LT.lt Nat _ src L1) (hr : ∀ p ∈ rest, @LT.lt Nat _ p.1 L1) (hpre : ∀ p ∈ pre, @LT.lt Nat _ L1 p.1) (hlt8 : ∀ q ∈ pre ++ (L1 + 1, o1) :: (src, oB) :: rest, ∀ p ∈ t8, q.1 < p.1)
    (hM : IsMsg w (t8 ++ (pre ++ (L1 + 1, o1) :: (src, oB) :: rest)) x kind g wait ns ver rs) (hLF : @LT.lt Nat _ (L1 + 1) LF) (sB : SrcObj oB) (hg : Good kind g wait ns ver rs ks) (hb : KBw.bInts b = ks) :
    DrawP w src rest (.ref LF) (((LF, PySem.W.listOf #[.ref x, .bytes b t] 0) :: (t8 ++ (pre ++ [(L1 + 1, o1)]))) ++ (src, oB) :: rest) := by
  refine ⟨oB, (LF, PySem.W.listOf #[.ref x, .bytes b t] 0) :: (t8 ++ (pre ++ [(L1 + 1, o1)])), LF, x, b, t, kind, g, wait, ns, ver, rs, ks, sB, rfl, .head _, ?_, hg, hb, (fun q hq p hp => ?_), rfl⟩
  · have e : t8 ++ (pre ++ (L1 + 1, o1) :: (src, oB) :: rest) = (t8 ++ (pre ++ [(L1 + 1, o1)])) ++ (src, oB) :: rest := by simp
    rw [e] at hM
    exact (hM.stripSrc sB.cls).mono (fun p hp => .tail _ hp)
  · have hq2 : @LT.lt Nat _ q.1 L1 := by
      rcases List.mem_cons.mp hq with rfl | hq
      · exact hsL
      · exact hr q hq
    show @LT.lt Nat _ q.1 p.1
    rcases List.mem_cons.mp hp with rfl | hp
    · show @LT.lt Nat _ q.1 LF
      omega
    · rcases List.mem_append.mp hp with hp | hp
      · have h2 : @LT.lt Nat _ (L1 + 1) p.1 := hlt8 (L1 + 1, o1) (List.mem_append_right _ (.head _)) p hp
        omega
      · rcases List.mem_append.mp hp with hp | hp
        · have h2 := hpre p hp
          omega
        · rw [List.mem_singleton.mp hp]
          show @LT.lt Nat _ q.1 (L1 + 1)
          omega
set_option maxHeartbeats 8000000 in
theorem c_drawn (w : World) (src : Addr) (rest : List (Addr × Obj)) (o : Obj) (hsep : ∀ p ∈ rest, p.1 ≠ src) (ho : SrcObj o) :
    Ctr w 50 400 (.ref 336) [.ref src] ((src, o) :: rest) (DrawP w src rest) := by
  refine' Ctr.bodyC (binds := [(Str.ofString "source", Value.ref src)]) ?z8o ?z8c ?z8b ?z8l ?z8k ?_
  case z8o => k_is
  case z8c => k_is
  case z8b => exact fun _ => BindsTo.of_eq (by kernel_rfl)
  case z8l => kernel_rfl
  case z8k => kernel_rfl
  intro mean mg mb dp un gd outer A₀ base g1 L1 hp1 gsq drq tkq osq Q E cells1 B1 F1 X1 N1 Y1 l1 T1 hdp hun hret hE9
  intro _ _ _
  obtain ⟨o1, rfl, d1⟩ := CellsAre.one Y1
  have N2 : News g1 L1 hp1 ((L1 + 1, o1) :: (src, o) :: rest) := N1
  clear N1
  have hsL : @LT.lt Nat _ src L1 := l1 _ (.head _)
  have hr9 : ∀ p ∈ rest, @LT.lt Nat _ p.1 L1 := fun p hp => l1 p (.tail _ hp)
  k_extra "m my_walkI"
  k_extra "m my_one"
  intro v8 l8 h8 tk8 hP8 F8 N8
  obtain ⟨oB, ⟨hv8, sB⟩, rfl⟩ := hP8
  (try dsimp only at N8)
  (try dsimp only)
  rename_i ha1 ka1 oA sA xW tW wLo wHi _ _ hb1 kb1 oA2 sA2 xG tG gLo gHi _ _ DP hc1 lDP hc2 _ hc3 _ hc4 _ _ _ _ LP hc5 FP NP lLP _
  obtain ⟨xA, tA, rfl, aLo, aHi⟩ : ∃ x t, v8 = .int x t ∧ 0 ≤ x ∧ x < 4294967296 := by
    simp only [List.mem_cons, List.not_mem_nil, or_false] at hv8
    rcases hv8 with rfl | rfl <;> exact ⟨_, _, rfl, by omega, by omega⟩
  have N9 : News g1 L1 h8 ((L1 + 1, o1) :: (src, oB) :: rest) := News.tail (News.tail N8)
  clear N8 NP
  k_extra "m my_walkI"
  rcases (by omega : xW = 0 ∨ xW = 1 ∨ xW = 2 ∨ xW = 3 ∨ xW = 4 ∨ xW = 5 ∨ xW = 6) with rfl | rfl | rfl | rfl | rfl | rfl | rfl
  · k_extra "m my_walk"
    ((((k_extra "m my_fq"); k_dflt (refine' (Ctr.use (c_msg2 _ _ _ _ _ _)) ?z9k1 ?z9k2 ?z9k3 ?z9k4 ?z9k5 ?z9k6 ?z9k7 ?z9k8 ?_; (case z9k1 => k_asm); (case z9k2 => k_asm); (case z9k3 => k_asm); (case z9k4 => k_asm); (case z9k5 => k_asm); (case z9k6 => first | exact rfl | assumption); (case z9k7 => k_extra "m my_rm"); (case z9k8 => k_extra "m my_rm"))); k_whole))
    intro v8 l8 h8 tk8 hP8 F8 N8
    obtain ⟨x8, rfl, ⟨t8, hlt8, e8⟩, hM8⟩ := hP8
    (try dsimp only)
    k_extra "m my_walk"
    rename_i bF tF hfin _ _ LF hhF FF9 kN9 lLF
    subst e8
    have a1 := allLt_mem _ lLF.2 (L1 + 1, o1) (List.mem_append_right _ (.head _))
    have a2 := drawn_end (t := tF) (pre := []) hsL hr9 (fun _ hp => nomatch hp) hlt8 hM8 a1 sB (.leave xG (by omega) (by omega)) hfin
    refine hret _ _ _ _ a2 (by k_asm) (fun p hp => kN9 p ?_)
    exact drawn_sub (pre := []) hp
  · k_extra "m my_walk"
    ((with_reducible rename Addr => D1); (with_reducible rename Heap => hD1); (with_reducible rename News _ _ _ _ => ND1); (with_reducible rename And _ (And _ _) => lD1))
    have NZ : News g1 L1 hD1 ((D1, tupObj [] 0) :: (L1 + 1, o1) :: (src, oB) :: rest) := fun p hp => ND1 p (by
      rcases List.mem_cons.mp hp with rfl | hp
      · exact .head _
      · exact .tail _ (.tail _ hp))
    clear ND1
    (((k_extra "m my_fq"); k_dflt (refine' (Ctr.use (c_msg5T _ _ _ _ _ _ _ _ [] [] _ _ _ ?q1 .nil)) ?z9k1 ?z9k2 ?z9k3 ?z9k4 ?z9k5 ?z9k6 ?z9k7 ?z9k8 ?_; (case z9k1 => k_asm); (case z9k2 => k_asm); (case z9k3 => k_asm); (case z9k4 => k_asm); (case z9k5 => k_asm); (case z9k6 => first | exact rfl | assumption); (case z9k7 => k_extra "m my_rm"); (case z9k8 => k_extra "m my_rm"))))
    case q1 => exact ⟨0, .inl (.head _)⟩
    k_whole
    intro v8 l8 h8 tk8 hP8 F8 N8
    obtain ⟨x8, rfl, ⟨t8, hlt8, e8⟩, hM8⟩ := hP8
    (try dsimp only)
    k_extra "m my_walk"
    rename_i bF tF hfin _ _ LF hhF FF9 kN9 lLF
    subst e8
    have a1 := allLt_mem _ lLF.2 (L1 + 1, o1) (List.mem_append_right _ (.tail _ (.head _)))
    have a2 := drawn_end (t := tF) (pre := [(D1, tupObj [] 0)]) hsL hr9 (fun p hp => by rw [List.mem_singleton.mp hp]; exact Nat.lt_trans (Nat.lt_succ_self L1) lD1.2.1) hlt8 hM8 a1 sB (.rep1 xG (by omega) (by omega)) hfin
    refine hret _ _ _ _ a2 (by k_asm) (fun p hp => kN9 p ?_)
    exact drawn_sub (pre := [(D1, tupObj [] 0)]) hp
  · k_extra "m my_walk"
    ((with_reducible rename Addr => D1); (with_reducible rename Heap => hD1); (with_reducible rename News _ _ _ _ => ND1); (with_reducible rename And _ (And _ _) => lD1))
    have NZ : News g1 L1 hD1 ((D1, tupObj [] 0) :: (L1 + 1, o1) :: (src, oB) :: rest) := fun p hp => ND1 p (by
      rcases List.mem_cons.mp hp with rfl | hp
      · exact .head _
      · exact .tail _ (.tail _ hp))
    clear ND1
    (((k_extra "m my_fq"); k_dflt (refine' (Ctr.use (c_msg5T _ _ _ _ _ _ _ _ [] [] _ _ _ ?q1 .nil)) ?z9k1 ?z9k2 ?z9k3 ?z9k4 ?z9k5 ?z9k6 ?z9k7 ?z9k8 ?_; (case z9k1 => k_asm); (case z9k2 => k_asm); (case z9k3 => k_asm); (case z9k4 => k_asm); (case z9k5 => k_asm); (case z9k6 => first | exact rfl | assumption); (case z9k7 => k_extra "m my_rm"); (case z9k8 => k_extra "m my_rm"))))
    case q1 => exact ⟨0, .inl (.head _)⟩
    k_whole
    intro v8 l8 h8 tk8 hP8 F8 N8
    obtain ⟨x8, rfl, ⟨t8, hlt8, e8⟩, hM8⟩ := hP8
    (try dsimp only)
    k_extra "m my_walk"
    rename_i bF tF hfin _ _ LF hhF FF9 kN9 lLF
    subst e8
    have a1 := allLt_mem _ lLF.2 (L1 + 1, o1) (List.mem_append_right _ (.tail _ (.head _)))
    have a2 := drawn_end (t := tF) (pre := [(D1, tupObj [] 0)]) hsL hr9 (fun p hp => by rw [List.mem_singleton.mp hp]; exact Nat.lt_trans (Nat.lt_succ_self L1) lD1.2.1) hlt8 hM8 a1 sB (.rep2 xG (by omega) (by omega)) hfin
    refine hret _ _ _ _ a2 (by k_asm) (fun p hp => kN9 p ?_)
    exact drawn_sub (pre := [(D1, tupObj [] 0)]) hp
  · k_extra "m my_walk"
    (with_reducible rename News _ _ _ _ => NA)
    have N3 : News g1 L1 _ ((src, oB) :: (L1 + 1, o1) :: rest) := fun p hp => NA p (by
      rcases List.mem_cons.mp hp with rfl | hp
      · exact .tail _ (.head _)
      · rcases List.mem_cons.mp hp with rfl | hp
        · exact .head _
        · exact .tail _ (.tail _ hp))
    clear NA
    have hsep3 : ∀ p ∈ (L1 + 1, o1) :: rest, p.1 ≠ src := ne_cons (Nat.ne_of_gt (Nat.lt_succ_of_lt hsL)) hsep
    ((((k_extra "m my_fq"); k_dflt (refine' (Ctr.use (c_lrecs w src ((L1 + 1, o1) :: rest) oB hsep3 sB)) ?z9k1 ?z9k2 ?z9k3 ?z9k4 ?z9k5 ?z9k6 ?z9k7 ?z9k8 ?_; (case z9k1 => k_asm); (case z9k2 => k_asm); (case z9k3 => k_asm); (case z9k4 => k_asm); (case z9k5 => k_asm); (case z9k6 => first | exact rfl | assumption); (case z9k7 => k_extra "m my_rm"); (case z9k8 => k_extra "m my_rm"))); k_whole))
    intro v8 l8 h8 tk8 hP8 F8 N8
    obtain ⟨o3, tl3, ⟨s3, D3, rw3, rv, nn, rs, b3, t3, rfl, hm1, hm2, hrs, hrl, hrg, hb3⟩, hlt3, rfl⟩ := hP8
    (try dsimp only)
    have N4 : News g1 L1 h8 ((D3, PySem.W.listOf #[.ref rw3, .bytes b3 t3] 0) :: (rw3, PySem.W.listOf rv.toArray nn) :: (tl3 ++ (src, o3) :: (L1 + 1, o1) :: rest)) := fun p hp => by
      rcases List.mem_cons.mp hp with rfl | hp
      · exact N8 _ (List.mem_append_left _ hm1)
      · rcases List.mem_cons.mp hp with rfl | hp
        · exact N8 _ (List.mem_append_left _ hm2)
        · exact N8 _ hp
    clear N8 N3
    have hrvl := hrs.len
    have hbl := recs_len2 rs hrg
    k_extra "m my_walk"
    rename_i bW tW2 kW hW _ hX1 _ _ _ _ D1 hX2 FD1 ND1 lD1 _
    rw [hrvl] at hW
    have NZ : News g1 L1 hX2 ((D1, tupObj [] 0) :: (rw3, PySem.W.listOf rv.toArray nn) :: (tl3 ++ (L1 + 1, o1) :: (src, o3) :: rest)) := fun p hp => ND1 p (by
      rcases List.mem_cons.mp hp with rfl | hp
      · exact .head _
      · rcases List.mem_cons.mp hp with rfl | hp
        · exact .tail _ (.tail _ (.tail _ (.head _)))
        · refine .tail _ (.tail _ (.tail _ (.tail _ ?_)))
          rcases List.mem_append.mp hp with hp | hp
          · exact List.mem_append_left _ hp
          · refine List.mem_append_right _ ?_
            rcases List.mem_cons.mp hp with rfl | hp
            · exact .tail _ (.head _)
            · rcases List.mem_cons.mp hp with rfl | hp
              · exact .head _
              · exact .tail _ (.tail _ hp))
    have hpre3 : ∀ p ∈ (D1, tupObj [] 0) :: (rw3, PySem.W.listOf rv.toArray nn) :: tl3, @LT.lt Nat _ L1 p.1 := fun p hp => by
      have h3 : ∀ p ∈ tl3, @LT.lt Nat _ L1 p.1 := fun p hp => Nat.lt_of_succ_lt (hlt3 (L1 + 1, o1) (.tail _ (.head _)) p hp)
      rcases List.mem_cons.mp hp with rfl | hp
      · exact Nat.lt_trans (h3 _ hm2) lD1.2.2.1
      · rcases List.mem_cons.mp hp with rfl | hp
        · exact h3 _ hm2
        · exact h3 p hp
    clear ND1
    (((k_extra "m my_fq"); k_dflt (refine' (Ctr.use (c_msg6 _ _ _ _ _ _ _ _ [] [] _ _ _ rv nn rs _ ?q1 .nil ?q2 ?q3 ?q4)) ?z9k1 ?z9k2 ?z9k3 ?z9k4 ?z9k5 ?z9k6 ?z9k7 ?z9k8 ?_; (case z9k1 => k_asm); (case z9k2 => k_asm); (case z9k3 => k_asm); (case z9k4 => k_asm); (case z9k5 => k_asm); (case z9k6 => first | exact rfl | assumption); (case z9k7 => k_extra "m my_rm"); (case z9k8 => k_extra "m my_rm"))))
    case q1 => exact ⟨0, .inl (.head _)⟩
    case q2 => exact .tail _ (.head _)
    case q3 => omega
    case q4 => exact hrs.mono (fun p hp => .tail _ (.tail _ (List.mem_append_left _ hp)))
    k_whole
    intro v8 l8 h8 tk8 hP8 F8 N8
    obtain ⟨x8, rfl, ⟨t8, hlt8, e8⟩, hM8⟩ := hP8
    (try dsimp only)
    k_extra "m my_walk"
    rename_i bF tF hfin _ LF hhF FF9 kN9 lLF
    subst e8
    have a1 := lLF (L1 + 1, o1) (List.mem_append_right _ (.tail _ (.tail _ (List.mem_append_right _ (.head _)))))
    have a2 := drawn_end (t := tF) (pre := (D1, tupObj [] 0) :: (rw3, PySem.W.listOf rv.toArray nn) :: tl3) hsL hr9 hpre3 hlt8 hM8 a1 s3 (.rep3 rs hrl hrg) hfin
    refine hret _ _ _ _ a2 (by k_asm) (fun p hp => kN9 p ?_)
    exact drawn_sub2 (pre := (D1, tupObj [] 0) :: (rw3, PySem.W.listOf rv.toArray nn) :: tl3) hp
  · k_extra "m my_walk"
    ((with_reducible rename Addr => D1); (with_reducible rename Heap => hD1); (with_reducible rename News _ _ _ _ => ND1); (with_reducible rename And _ (And _ _) => lD1))
    have NZ : News g1 L1 hD1 ((D1, tupObj [] 0) :: (L1 + 1, o1) :: (src, oB) :: rest) := fun p hp => ND1 p (by
      rcases List.mem_cons.mp hp with rfl | hp
      · exact .head _
      · exact .tail _ hp)
    clear ND1
    (((k_extra "m my_fq"); k_dflt (refine' (Ctr.use (c_msg5T _ _ _ _ _ _ _ _ [] [] _ _ _ ?q1 .nil)) ?z9k1 ?z9k2 ?z9k3 ?z9k4 ?z9k5 ?z9k6 ?z9k7 ?z9k8 ?_; (case z9k1 => k_asm); (case z9k2 => k_asm); (case z9k3 => k_asm); (case z9k4 => k_asm); (case z9k5 => k_asm); (case z9k6 => first | exact rfl | assumption); (case z9k7 => k_extra "m my_rm"); (case z9k8 => k_extra "m my_rm"))))
    case q1 => exact ⟨0, .inl (.head _)⟩
    k_whole
    intro v8 l8 h8 tk8 hP8 F8 N8
    obtain ⟨x8, rfl, ⟨t8, hlt8, e8⟩, hM8⟩ := hP8
    (try dsimp only)
    k_extra "m my_walk"
    rename_i bF tF hfin _ _ LF hhF FF9 kN9 lLF
    subst e8
    have a1 := allLt_mem _ lLF.2 (L1 + 1, o1) (List.mem_append_right _ (.tail _ (.head _)))
    have a2 := drawn_end (t := tF) (pre := [(D1, tupObj [] 0)]) hsL hr9 (fun p hp => by rw [List.mem_singleton.mp hp]; exact Nat.lt_trans (Nat.lt_succ_self L1) lD1.1) hlt8 hM8 a1 sB (.q1 xA aLo aHi) hfin
    refine hret _ _ _ _ a2 (by k_asm) (fun p hp => kN9 p ?_)
    exact drawn_sub (pre := [(D1, tupObj [] 0)]) hp
  · k_extra "m my_walk"
    rename_i oD sD xX tX xLo xHi _ hX9 FX9 NX9 _
    ((((k_extra "m my_fq"); k_dflt (refine' (Ctr.use (c_msg3 _ _ _ _ _ _ _ _)) ?z9k1 ?z9k2 ?z9k3 ?z9k4 ?z9k5 ?z9k6 ?z9k7 ?z9k8 ?_; (case z9k1 => k_asm); (case z9k2 => k_asm); (case z9k3 => k_asm); (case z9k4 => k_asm); (case z9k5 => k_asm); (case z9k6 => first | exact rfl | assumption); (case z9k7 => k_extra "m my_rm"); (case z9k8 => k_extra "m my_rm"))); k_whole))
    intro v8 l8 h8 tk8 hP8 F8 N8
    obtain ⟨x8, rfl, ⟨t8, hlt8, e8⟩, hM8⟩ := hP8
    (try dsimp only)
    k_extra "m my_walk"
    rename_i bF tF hfin _ _ LF hhF FF9 kN9 lLF
    subst e8
    have a1 := allLt_mem _ lLF.2 (L1 + 1, o1) (List.mem_append_right _ (.head _))
    have a2 := drawn_end (t := tF) (pre := []) hsL hr9 (fun _ hp => nomatch hp) hlt8 hM8 a1 sD (.q2 xA (1 + xX) aLo aHi (by omega) (by omega)) hfin
    refine hret _ _ _ _ a2 (by k_asm) (fun p hp => kN9 p ?_)
    exact drawn_sub (pre := []) hp
  · k_extra "m my_walk"
    rename_i oC6 sC6 xC tC cLo cHi NA6 _
    k_dflt (refine comp_gen (by k_asm) (by rfl) (by decide) (by rfl) (by decide) (by rfl) ?_ (fun _ => rfl))
    k_extra "m my_walk"
    rename_i oC sC xN tN nLo nHi NQ _ he1 ke1 r1 r2 r3 IR2 FR NR KR
    have hn2 : ((xN.toNat : Nat) : Int) = xN := Int.toNat_of_nonneg nLo
    rw [← hn2] at IR2
    k_dflt (refine comp_range (n := xN.toNat) (news := (L1 + 1, o1) :: (src, oC) :: rest) (fun i ys news => ∃ oD ns, news = (L1 + 1, o1) :: (src, oD) :: rest ∧ SrcObj oD ∧ IntsAre ys ns ∧ ns.length = i ∧ ∀ n ∈ ns, 0 ≤ n ∧ n < 4294967296) (by rfl) FR NR IR2 ?_ ?_ ?_ ⟨oC, [], rfl, sC, .nil, rfl, (fun _ h => nomatch h)⟩ ?_ ?_)
    · exact small_one (by omega) (by omega) (by omega) (by omega)
    · rw [rangeSize_one]; split <;> omega
    · rw [sizeLine_eq]; omega
    · intro g i ys news₁ v I2 oI2 C oC2 D m₂ h2 tk2 E' hi' hl hJ hP hC hx F' N' off2 ne
      (try dsimp only)
      k_extra "m my_fq"
      obtain ⟨t2, rfl⟩ := hP
      obtain ⟨oD, ns, rfl, sD, hys, hnl, hnb⟩ := hJ
      obtain ⟨e1, e2, e3⟩ := id off2
      dsimp only at e2
      k_extra "m my_walk"
      (with_reducible rename Fr _ _ _ _ => F9)
      (with_reducible rename News _ _ _ _ => N9)
      refine CompEnd.intro F9 N9 _ (fun _ h => h) off2 trivial ⟨_, ns ++ [_], rfl, by assumption, hys.append (.cons _ _ .nil), by simp [hnl], ?_⟩
      intro n hn
      rcases List.mem_append.mp hn with hn | hn
      · exact hnb n hn
      · rw [List.mem_singleton.mp hn]; exact ⟨by assumption, by assumption⟩
    · intro ys news' hl hJ
      obtain ⟨oD, ns, rfl, sD, hys, hnl, hnb⟩ := hJ
      intro D h2 tk2 F' N' off2
      dsimp only
      k_extra "m my_walk"
      all_goals
        skip --ren
        have hyn : ys.length = ns.length := hys.length
        k_dflt (refine comp_gen (by k_asm) (by rfl) (by decide) (by rfl) (by decide) (by rfl) ?_ (fun _ => rfl))
        k_extra "m my_walk"
        (with_reducible rename Fr _ _ _ _ => F5)
        (with_reducible rename News _ _ _ _ => N5)
        have N6 : News g1 L1 _ ((D, lst ys) :: (L1 + 1, o1) :: (src, oD) :: rest) := News.tail (News.tail N5)
        k_dflt (refine comp_listC (r := D) (vs := ys) (fun i zs => BysAre zs ((ns.take i).map four)) (by rfl) F5 N6 (.head _) (by omega) .nil ?_ ?_)
        · intro i zs v I3 oI3 C oC3 D3 m₂ h3 tk3 S3 E' hS3 hi' hl3 hzs hP hC hx F' N' off3 ne g
          obtain ⟨y, ty, rfl, hy⟩ := hys.at i v hP
          obtain ⟨hy0, hy1⟩ := hnb y (List.mem_of_getElem? hy)
          k_extra "m my_walk"
          (with_reducible rename Fr _ _ _ _ => F9)
          (with_reducible rename News _ _ _ _ => N9)
          refine CompEnd.intro F9 N9 _ (fun _ h => h) off3 hS3 ⟨rfl, ?_⟩
          rw [List.take_add_one, hy, List.map_append]
          exact hzs.append (.cons (by assumption) .nil)
        · intro zs hl3 hzs
          rw [hyn, List.take_length] at hzs
          have hfl := flat4_len ns
          intro D3 h3 tk3 F' N' off3
          dsimp only
          k_extra "m my_walk"
          ((with_reducible rename News _ _ _ _ => NX1); (with_reducible rename KBw.bInts _ = _ => hW))
          have NZ : News g1 L1 _ ((D, lst ys) :: (L1 + 1, o1) :: (src, oD) :: rest) := News.tail NX1
          clear NX1
          rw [hyn] at hW
          (((k_extra "m my_fq"); k_dflt (refine' (Ctr.use (c_msg5L _ _ _ _ _ _ _ _ ys ns _ _ _ _ ?q1 (by omega) hys)) ?z9k1 ?z9k2 ?z9k3 ?z9k4 ?z9k5 ?z9k6 ?z9k7 ?z9k8 ?_; (case z9k1 => k_asm); (case z9k2 => k_asm); (case z9k3 => k_asm); (case z9k4 => k_asm); (case z9k5 => k_asm); (case z9k6 => first | exact rfl | assumption); (case z9k7 => k_extra "m my_rm"); (case z9k8 => k_extra "m my_rm"))))
          case q1 => exact .head _
          k_whole
          intro v8 l8 h8 tk8 hP8 F8 N8
          obtain ⟨x8, rfl, ⟨t8, hlt8, e8⟩, hM8⟩ := hP8
          (try dsimp only)
          k_extra "m my_walk"
          rename_i bF tF hfin _ LF hhF FF9 kN9 lLF
          subst e8
          have a1 := lLF (L1 + 1, o1) (List.mem_append_right _ (.tail _ (.head _)))
          have hM9 := hM8.stripSrc rfl
          have hw1 : xC < 128 → xC = timeOf xC := fun h => (if_pos h).symm
          have hw2 : ¬ xC < 128 → (16 + xC % 16) * 2 ^ (3 + (xC - 128) / 16).toNat = timeOf xC := fun h => by
            have e1 : xC / 16 % 8 + 3 = 3 + (xC - 128) / 16 := by omega
            rw [timeOf, if_neg h, e1, Int.add_comm (xC % 16) 16]
          have hM10 : IsMsg w (t8 ++ ([] ++ (L1 + 1, o1) :: (src, oD) :: rest)) x8 (Str.ofString "query") xA (timeOf xC) ns 3 [] := by
            first
            | (rw [hw2 (by omega)] at hM9; exact hM9)
            | (rw [← hw1 (by omega)]; exact hM9)
          have a2 := drawn_end (t := tF) (pre := []) hsL hr9 (fun _ hp => nomatch hp) (fun q hq => hlt8 q (.tail _ hq)) hM10 a1 sD (.q3 xA xC ns aLo aHi cLo cHi (by omega) hnb) hfin
          refine hret _ _ _ _ a2 (by k_asm) (fun p hp => kN9 p ?_)
          exact drawn_sub3 hp
end

section
theorem getD_set (ks : List Int) (k n : Nat) (v : Int) : (ks.set k v).getD n 0 = if k = n ∧ k < ks.length then v else ks.getD n 0 := by
  rw [List.getD_eq_getElem?_getD, List.getD_eq_getElem?_getD, List.getElem?_set]
  by_cases h : k = n
  · subst h
    rw [if_pos rfl]
    by_cases h2 : k < ks.length
    · rw [if_pos h2, if_pos ⟨rfl, h2⟩]; rfl
    · rw [if_neg h2, if_neg (fun x => h2 x.2), List.getElem?_eq_none (by omega)]
  · rw [if_neg h, if_neg (fun x => h x.1)]
theorem wsum_set (ks : List Int) (k : Nat) (v : Int) (hk : k < ks.length) : ∀ n : Nat, wsum (ks.set k v) n = wsum ks n + (if k < n then (v - ks.getD k 0) * wt k else 0)
  | 0 => by simp [wsum]
  | n + 1 => by
    rw [wsum, wsum, wsum_set ks k v hk n, getD_set]
    by_cases h : k = n
    · subst h
      have a1 : (if k = k ∧ k < ks.length then v else ks.getD k 0) = v := if_pos ⟨rfl, hk⟩
      have a2 : (if k < k then (v - ks.getD k 0) * wt k else 0) = 0 := if_neg (by omega)
      have a3 : (if k < k + 1 then (v - ks.getD k 0) * wt k else 0) = (v - ks.getD k 0) * wt k := if_pos (by omega)
      rw [a1, a2, a3, Int.sub_mul]
      omega
    · have a1 : (if k = n ∧ k < ks.length then v else ks.getD n 0) = ks.getD n 0 := if_neg (fun x => h x.1)
      rw [a1]
      by_cases h2 : k < n
      · rw [if_pos h2, if_pos (by omega)]; omega
      · rw [if_neg h2, if_neg (by omega)]; omega
theorem summed_set (ks : List Int) (p : Nat) (h : p + 2 ≤ ks.length) : summed ks p = (ks.set p (chk (wsum ks ks.length) / 256)).set (p + 1) (chk (wsum ks ks.length) % 256) := by
  have e1 : ((p : Int)).toNat = p := by omega
  have e2 : ((p : Int) + 2).toNat = p + 2 := by omega
  rw [summed, e1, e2]
  generalize chk (wsum ks ks.length) / 256 = a
  generalize chk (wsum ks ks.length) % 256 = b
  apply List.ext_getElem?
  intro i
  rw [List.getElem?_set, List.getElem?_set, List.length_set, List.append_assoc, List.getElem?_append, List.length_take, Nat.min_eq_left (by omega)]
  by_cases h1 : i < p
  · rw [if_pos h1, if_neg (by omega), if_neg (by omega), List.getElem?_take, if_pos h1]
  · rw [if_neg h1]
    by_cases h2 : p + 1 = i
    · rw [if_pos h2, if_pos (by omega), ← h2, (by omega : p + 1 - p = 1)]; rfl
    · rw [if_neg h2]
      by_cases h3 : p = i
      · rw [if_pos h3, if_pos (by omega), h3, Nat.sub_self]; rfl
      · rw [if_neg h3, List.getElem?_append_right (by simp; omega), List.getElem?_drop]
        congr 1
        simp; omega
theorem turned_set (ks : List Int) (k : Nat) (d : Int) (h : k < ks.length) : turned ks k d = ks.set k ((ks.getD k 0 + 1 + d) % 256) := by
  have e1 : ((k : Int)).toNat = k := by omega
  have e2 : ((k : Int) + 1).toNat = k + 1 := by omega
  rw [turned, nth, e1, e2, List.set_eq_take_append_cons_drop, if_pos h, List.append_assoc]; rfl
theorem summed_sum (ks : List Int) (p : Nat) (hin : ∀ k ∈ ks, 0 ≤ k ∧ k < 256) (h : p + 2 ≤ ks.length) (he : p % 2 = 0) (z0 : ks.getD p 0 = 0) (z1 : ks.getD (p + 1) 0 = 0) :
    wsum (summed ks p) (summed ks p).length % 65535 = 0 ∧ 0 < wsum (summed ks p) (summed ks p).length := by
  obtain ⟨hS, _⟩ := wsum_bound hin ks.length
  obtain ⟨c0, c1⟩ := chk_in hS
  rw [summed_set ks p h, List.length_set, List.length_set, wsum_set _ _ _ (by rw [List.length_set]; omega), wsum_set _ _ _ (by omega), if_pos (by omega), if_pos (by omega), getD_set, if_neg (by omega), z0, z1, wt, wt, if_pos he, if_neg (by omega)]
  generalize wsum ks ks.length = S at *
  have e : S + (chk S / 256 - 0) * 256 + (chk S % 256 - 0) * 1 = S + chk S := by omega
  rw [e]
  unfold chk
  split <;> omega
theorem turned_sum (ks : List Int) (k : Nat) (d : Int) (hin : ∀ k ∈ ks, 0 ≤ k ∧ k < 256) (h : k < ks.length) (hd0 : 0 ≤ d) (hd1 : d < 254) (n : Nat) (hn : k < n) (hs : wsum ks n % 65535 = 0) :
    wsum (turned ks k d) n % 65535 ≠ 0 := by
  obtain ⟨b0, b1⟩ := byte_at hin k
  rw [turned_set ks k d h, wsum_set _ _ _ h, if_pos hn]
  unfold wt
  split <;> omega +splitDisjunctions
theorem turned_len (ks : List Int) (k : Nat) (d : Int) (h : k < ks.length) : (turned ks k d).length = ks.length := by rw [turned_set ks k d h, List.length_set]
theorem summed_length (ks : List Int) (p : Nat) (h : p + 2 ≤ ks.length) : (summed ks p).length = ks.length := by rw [summed_set ks p h, List.length_set, List.length_set]
/-- an octet that the sum does not touch -/
theorem summed_nth (ks : List Int) (p : Nat) (i : Int) (h : p + 2 ≤ ks.length) (h1 : i.toNat ≠ p) (h2 : i.toNat ≠ p + 1) : nth (summed ks p) i = nth ks i := by
  rw [nth, nth, summed_set ks p h, List.getD_eq_getElem?_getD, List.getElem?_set, if_neg (by omega), List.getElem?_set, if_neg (by omega), ← List.getD_eq_getElem?_getD]
theorem nth_app_l (a b : List Int) (i : Int) (h0 : i.toNat < a.length) : nth (a ++ b) i = nth a i := by
  rw [nth, nth, List.getD_eq_getElem?_getD, List.getD_eq_getElem?_getD, List.getElem?_append_left h0]
theorem nth_app_r (a b : List Int) (i : Int) (h0 : (a.length : Int) ≤ i) : nth (a ++ b) i = nth b (i - a.length) := by
  rw [nth, nth, List.getD_eq_getElem?_getD, List.getD_eq_getElem?_getD, List.getElem?_append_right (by omega)]
  congr 2
  omega
theorem two_in {x : Int} (h0 : 0 ≤ x) (h1 : x < 65536) : ∀ k ∈ two x, 0 ≤ k ∧ k < 256 := by
  intro k hk
  simp only [two, List.mem_cons, List.not_mem_nil, or_false] at hk
  omega
theorem four_in {x : Int} (h0 : 0 ≤ x) (h1 : x < 4294967296) : ∀ k ∈ four x, 0 ≤ k ∧ k < 256 := by
  intro k hk
  simp only [four, List.mem_cons, List.not_mem_nil, or_false] at hk
  omega
theorem in_app {a b : List Int} (ha : ∀ k ∈ a, 0 ≤ k ∧ k < 256) (hb : ∀ k ∈ b, 0 ≤ k ∧ k < 256) : ∀ k ∈ a ++ b, 0 ≤ k ∧ k < 256 := fun k hk => by
  rcases List.mem_append.mp hk with h | h
  · exact ha k h
  · exact hb k h
theorem fours_in {ns : List Int} (h : ∀ n ∈ ns, 0 ≤ n ∧ n < 4294967296) : ∀ k ∈ (ns.map four).flatten, 0 ≤ k ∧ k < 256 := by
  intro k hk
  obtain ⟨l, hl, hk⟩ := List.mem_flatten.mp hk
  obtain ⟨n, hn, rfl⟩ := List.mem_map.mp hl
  exact four_in (h n hn).1 (h n hn).2 k hk
theorem fours_len (ns : List Int) : ((ns.map four).flatten).length = 4 * ns.length := by
  induction ns with
  | nil => rfl
  | cons n ns ih => rw [List.map_cons, List.flatten_cons, List.length_append, ih, List.length_cons]; simp only [four, List.length_cons, List.length_nil]; omega
/-- a part of a list laid at a place -/
def At (ks : List Int) (p : Int) (a : List Int) : Prop := 0 ≤ p ∧ p + a.length ≤ ks.length ∧ ∀ i : Nat, i < a.length → nth ks (p + i) = nth a i
theorem At.left {ks a b : List Int} {p : Int} (h : At ks p (a ++ b)) : At ks p a := by
  obtain ⟨h0, h1, h2⟩ := h
  rw [List.length_append] at h1
  refine ⟨h0, by omega, fun i hi => ?_⟩
  rw [h2 i (by rw [List.length_append]; omega), nth_app_l a b i (by omega)]
theorem At.right {ks a b : List Int} {p : Int} (h : At ks p (a ++ b)) : At ks (p + a.length) b := by
  obtain ⟨h0, h1, h2⟩ := h
  rw [List.length_append] at h1
  refine ⟨by omega, by omega, fun i hi => ?_⟩
  have := h2 (a.length + i) (by rw [List.length_append]; omega)
  rw [nth_app_r a b _ (by omega)] at this
  rw [← (by omega : p + ((a.length + i : Nat) : Int) = p + a.length + i), this]
  congr 1
  omega
theorem At.four {ks : List Int} {p x : Int} (h : At ks p (four x)) (h0 : 0 ≤ x) (h1 : x < 4294967296) : g4 ks p = x := by
  obtain ⟨_, _, h2⟩ := h
  have a0 := h2 0 (by simp [Mine.four, Mine.two])
  have a1 := h2 1 (by simp [Mine.four, Mine.two])
  have a2 := h2 2 (by simp [Mine.four, Mine.two])
  have a3 := h2 3 (by simp [Mine.four, Mine.two])
  have e0 : nth (Mine.four x) ((0 : Nat) : Int) = x / 16777216 := rfl
  have e1 : nth (Mine.four x) ((1 : Nat) : Int) = x / 65536 % 256 := rfl
  have e2 : nth (Mine.four x) ((2 : Nat) : Int) = x / 256 % 256 := rfl
  have e3 : nth (Mine.four x) ((3 : Nat) : Int) = x % 256 := rfl
  rw [e0] at a0; rw [e1] at a1; rw [e2] at a2; rw [e3] at a3
  have b0 : nth ks p = x / 16777216 := by rw [← a0]; congr 1; omega
  have b1 : nth ks (p + 1) = x / 65536 % 256 := a1
  have b2 : nth ks (p + 2) = x / 256 % 256 := a2
  have b3 : nth ks (p + 3) = x % 256 := a3
  rw [g4, b0, b1, b2, b3]
  omega
theorem At.two {ks : List Int} {p x : Int} (h : At ks p (two x)) : g2 ks p = x := by
  obtain ⟨_, _, h2⟩ := h
  have a0 := h2 0 (by simp [Mine.four, Mine.two])
  have a1 := h2 1 (by simp [Mine.four, Mine.two])
  have e0 : nth (Mine.two x) ((0 : Nat) : Int) = x / 256 := rfl
  have e1 : nth (Mine.two x) ((1 : Nat) : Int) = x % 256 := rfl
  rw [e0] at a0; rw [e1] at a1
  have b0 : nth ks p = x / 256 := by rw [← a0]; congr 1; omega
  have b1 : nth ks (p + 1) = x % 256 := a1
  rw [g2, b0, b1]
  omega
theorem At.fours {ks : List Int} {ns : List Int} : ∀ {p : Int}, At ks p (ns.map Mine.four).flatten → (∀ n ∈ ns, 0 ≤ n ∧ n < 4294967296) → srcsAt ks p ns.length = ns := by
  induction ns with
  | nil => intro p _ _; rfl
  | cons n ns ih =>
    intro p h hn
    rw [List.map_cons, List.flatten_cons] at h
    have h1 := h.left.four (hn n (.head _)).1 (hn n (.head _)).2
    have h2 := ih h.right (fun m hm => hn m (.tail _ hm))
    have e4 : ((Mine.four n).length : Int) = 4 := rfl
    rw [e4] at h2
    rw [srcsAt, List.length_cons, List.range_succ_eq_map, List.map_cons, List.map_map]
    congr 1
    · rw [← h1]; congr 1; omega
    · refine Eq.trans ?_ h2
      rw [srcsAt]
      refine List.map_congr_left fun i _ => ?_
      show g4 ks (p + 4 * ((i + 1 : Nat) : Int)) = _
      congr 1
      omega
theorem At.nth {ks : List Int} {p : Int} {a : List Int} {x : Int} {r : List Int} (h : At ks p (a ++ x :: r)) : Mine.nth ks (p + a.length) = x := by
  have := h.right.2.2 0 (by simp)
  rw [← (by omega : p + (a.length : Int) + ((0 : Nat) : Int) = p + a.length), this]; rfl
/-- the parts behind the sum's place stand where they stood -/
theorem At.summed {a b : List Int} (q : Nat) (hq : q + 2 ≤ a.length) : At (summed (a ++ b) q) a.length b := by
  have hl : q + 2 ≤ (a ++ b).length := by rw [List.length_append]; omega
  refine ⟨by omega, by rw [summed_length _ _ hl, List.length_append]; omega, fun i hi => ?_⟩
  rw [summed_nth _ _ _ hl (by omega) (by omega), nth_app_r _ _ _ (by omega)]
  congr 1
  omega
theorem rec_len (r : Int × Int × List Int) : (recBytes r).length = 8 + 4 * r.2.2.length := by
  simp only [recBytes, two, Mine.four, List.length_append, List.length_cons, List.length_nil, fours_len]
theorem At.rec {ks : List Int} {p : Int} {r : Int × Int × List Int} (h : At ks p (recBytes r)) (hr : RecGood r) :
    Mine.nth ks p = r.1 ∧ Mine.nth ks (p + 1) = 0 ∧ g2 ks (p + 2) = r.2.2.length ∧ g4 ks (p + 4) = r.2.1 ∧ srcsAt ks (p + 8) r.2.2.length = r.2.2 := by
  obtain ⟨k, g, ns⟩ := r
  obtain ⟨_, _, r3, r4, _, r6⟩ := hr
  have h1 : At ks p ([k] ++ ([0] ++ (Mine.two ns.length ++ (Mine.four g ++ (ns.map Mine.four).flatten)))) := by
    have e : recBytes (k, g, ns) = [k] ++ ([0] ++ (Mine.two ns.length ++ (Mine.four g ++ (ns.map Mine.four).flatten))) := by simp [recBytes]
    rw [← e]; exact h
  have a := At.nth (a := []) h1
  have h2 := h1.right
  have b := At.nth (a := []) h2
  have h3 := h2.right
  have c := h3.left.two
  have h4 := h3.right
  have d := h4.left.four r3 r4
  have h5 := h4.right
  have e := h5.fours r6
  have s1 : p + (([k] : List Int).length : Int) = p + 1 := rfl
  have s2 : p + (([k] : List Int).length : Int) + (([0] : List Int).length : Int) = p + 2 := by simp; omega
  have s3 : p + (([k] : List Int).length : Int) + (([0] : List Int).length : Int) + ((Mine.two ns.length).length : Int) = p + 4 := by simp [Mine.two]; omega
  have s4 : p + (([k] : List Int).length : Int) + (([0] : List Int).length : Int) + ((Mine.two ns.length).length : Int) + ((Mine.four g).length : Int) = p + 8 := by simp [Mine.two, Mine.four]; omega
  rw [s2] at c; rw [s3] at d; rw [s4] at e
  refine ⟨?_, ?_, c, d, e⟩
  · rw [← a]; congr 1; simp
  · rw [← b]; congr 1; simp
theorem recs_at {ks : List Int} : ∀ (rs : List (Int × Int × List Int)) (m : Nat), At ks (placeAt ks m) (rs.map recBytes).flatten → 8 ≤ placeAt ks m → (∀ r ∈ rs, RecGood r) →
    (∀ i, i < rs.length → RecOk ks (m + i)) ∧ placeAt ks (m + rs.length) ≤ ks.length ∧ (List.range rs.length).map (fun i => recAt ks (m + i)) = rs
  | [], m, h, _, _ => ⟨fun i hi => absurd hi (Nat.not_lt_zero _), by have := h.2.1; simp at this; exact this, rfl⟩
  | r :: rs, m, h, h8, hg => by
    rw [List.map_cons, List.flatten_cons] at h
    have h1 := h.left
    obtain ⟨a, b, c, d, e⟩ := h1.rec (hg r (.head _))
    obtain ⟨q1, q2, q3, q4, q5, q6⟩ := hg r (.head _)
    have hp : placeAt ks (m + 1) = placeAt ks m + (recBytes r).length := by
      rw [placeAt, b, c, rec_len]; omega
    have h2 := h.right
    rw [← hp] at h2
    have hp8 : 8 ≤ placeAt ks (m + 1) := by rw [hp, rec_len]; omega
    obtain ⟨k1, k2, k3⟩ := recs_at rs (m + 1) h2 hp8 (fun r hr => hg r (.tail _ hr))
    refine ⟨fun i hi => ?_, ?_, ?_⟩
    · cases i with
      | zero =>
        have := h1.2.1
        rw [rec_len] at this
        refine ⟨h8, by rw [Nat.add_zero, c]; omega, by rw [Nat.add_zero, c]; omega, by rw [Nat.add_zero, a]; exact q1, by rw [Nat.add_zero, a]; exact q2, by rw [Nat.add_zero, c]; omega⟩
      | succ i =>
        have := k1 i (by simpa using hi)
        rwa [(by omega : m + 1 + i = m + (i + 1))] at this
    · rwa [(by simp; omega : m + 1 + rs.length = m + (r :: rs).length)] at k2
    · rw [List.length_cons, List.range_succ_eq_map, List.map_cons, List.map_map]
      congr 1
      · rw [Nat.add_zero, recAt, a, d, c, Int.toNat_natCast, e]
      · rw [← k3, List.length_map, List.length_range]
        refine List.map_congr_left fun i _ => ?_
        show recAt ks (m + (i + 1)) = recAt ks (m + 1 + i)
        congr 1
        omega

/-- laid octets with the sum at two -/
theorem msg_facts (t c : Int) (r : List Int) (ht0 : 0 ≤ t) (ht1 : t < 256) (hc0 : 0 ≤ c) (hc1 : c < 256) (hr : ∀ k ∈ r, 0 ≤ k ∧ k < 256) :
    (summed ([t, c, 0, 0] ++ r) 2).length = 4 + r.length ∧ nth (summed ([t, c, 0, 0] ++ r) 2) 0 = t ∧ nth (summed ([t, c, 0, 0] ++ r) 2) 1 = c ∧ At (summed ([t, c, 0, 0] ++ r) 2) 4 r ∧
      wsum (summed ([t, c, 0, 0] ++ r) 2) (summed ([t, c, 0, 0] ++ r) 2).length % 65535 = 0 ∧ 0 < wsum (summed ([t, c, 0, 0] ++ r) 2) (summed ([t, c, 0, 0] ++ r) 2).length := by
  have hl : ([t, c, 0, 0] ++ r).length = 4 + r.length := by simp; omega
  have hin : ∀ k ∈ [t, c, 0, 0] ++ r, 0 ≤ k ∧ k < 256 := in_app (fun k hk => by simp only [List.mem_cons, List.not_mem_nil, or_false] at hk; omega) hr
  have e := summed_sum ([t, c, 0, 0] ++ r) 2 hin (by omega) rfl rfl rfl
  have e1 := summed_length ([t, c, 0, 0] ++ r) 2 (by omega)
  have e2 := summed_nth ([t, c, 0, 0] ++ r) 2 0 (by omega) (by decide) (by decide)
  have e3 := summed_nth ([t, c, 0, 0] ++ r) 2 1 (by omega) (by decide) (by decide)
  have e4 : At (summed ([t, c, 0, 0] ++ r) 2) 4 r := At.summed (a := [t, c, 0, 0]) 2 (by simp)
  exact ⟨by rw [← hl]; exact e1, e2, e3, e4, e⟩
theorem msg8 (t c g : Int) (ht0 : 0 ≤ t) (ht1 : t < 256) (hc0 : 0 ≤ c) (hc1 : c < 256) (hg0 : 0 ≤ g) (hg1 : g < 4294967296) :
    (summed ([t, c, 0, 0] ++ four g) 2).length = 8 ∧ nth (summed ([t, c, 0, 0] ++ four g) 2) 0 = t ∧ nth (summed ([t, c, 0, 0] ++ four g) 2) 1 = c ∧ g4 (summed ([t, c, 0, 0] ++ four g) 2) 4 = g ∧
      wsum (summed ([t, c, 0, 0] ++ four g) 2) (summed ([t, c, 0, 0] ++ four g) 2).length % 65535 = 0 ∧ 0 < wsum (summed ([t, c, 0, 0] ++ four g) 2) (summed ([t, c, 0, 0] ++ four g) 2).length := by
  obtain ⟨a, b, c1, d, e⟩ := msg_facts t c (four g) ht0 ht1 hc0 hc1 (four_in hg0 hg1)
  exact ⟨by rw [a]; simp [four], b, c1, d.four hg0 hg1, e⟩
theorem msgq3 (g code : Int) (ns : List Int) (hg0 : 0 ≤ g) (hg1 : g < 4294967296) (hc0 : 0 ≤ code) (hc1 : code < 256) (hl : ns.length ≤ 2) (hn : ∀ n ∈ ns, 0 ≤ n ∧ n < 4294967296)
    (ks : List Int) (hk : ks = summed ([17, code, 0, 0] ++ four g ++ [0, 0] ++ two ns.length ++ (ns.map four).flatten) 2) :
    ks.length = 12 + 4 * ns.length ∧ nth ks 0 = 17 ∧ nth ks 1 = code ∧ g4 ks 4 = g ∧ g2 ks 10 = ns.length ∧ srcsAt ks 12 ns.length = ns ∧ wsum ks ks.length % 65535 = 0 ∧ 0 < wsum ks ks.length := by
  have e : [17, code, 0, 0] ++ four g ++ [0, 0] ++ two ns.length ++ (ns.map four).flatten = [17, code, 0, 0] ++ (four g ++ ([0, 0] ++ (two ns.length ++ (ns.map four).flatten))) := by simp [List.append_assoc]
  rw [e] at hk
  obtain ⟨a, b, c, d, f⟩ := msg_facts 17 code (four g ++ ([0, 0] ++ (two ns.length ++ (ns.map four).flatten))) (by decide) (by decide) hc0 hc1
    (in_app (four_in hg0 hg1) (in_app (by decide) (in_app (two_in (by omega) (by omega)) (fours_in hn))))
  rw [← hk] at a b c d f
  refine ⟨?_, b, c, d.left.four hg0 hg1, d.right.right.left.two, d.right.right.right.fours hn, f⟩
  rw [a]
  simp only [List.length_append, fours_len, four, two, List.length_cons, List.length_nil]
  omega
theorem recs_in {rs : List (Int × Int × List Int)} (h : ∀ r ∈ rs, RG r) : ∀ k ∈ (rs.map recBytes).flatten, 0 ≤ k ∧ k < 256 := by
  intro k hk
  obtain ⟨l, hl, hk⟩ := List.mem_flatten.mp hk
  obtain ⟨⟨a, g, ns⟩, hn, rfl⟩ := List.mem_map.mp hl
  obtain ⟨⟨h1, h2, h3, h4, h5, h6⟩, _⟩ := h _ hn
  dsimp only at h1 h2 h3 h4 h5 h6
  unfold recBytes at hk
  refine in_app (in_app (in_app ?_ (two_in (by dsimp only; omega) (by dsimp only; omega))) (four_in h3 h4)) (fours_in h6) k hk
  intro k hk
  simp only [List.mem_cons, List.not_mem_nil, or_false] at hk
  omega
theorem recs_lenle {rs : List (Int × Int × List Int)} (h : ∀ r ∈ rs, RG r) : ((rs.map recBytes).flatten).length ≤ 16 * rs.length := by
  induction rs with
  | nil => exact Nat.le_refl _
  | cons r rs ih =>
    have h1 := (h r (.head _)).2
    have h2 := ih fun q hq => h q (.tail _ hq)
    rw [List.map_cons, List.flatten_cons, List.length_append, rec_len, List.length_cons]
    omega
theorem msgr3 (rs : List (Int × Int × List Int)) (hl : rs.length ≤ 3) (hr : ∀ r ∈ rs, RG r)
    (ks : List Int) (hk : ks = summed ([34, 0, 0, 0, 0, 0] ++ two rs.length ++ (rs.map recBytes).flatten) 2) :
    8 ≤ ks.length ∧ ks.length ≤ 56 ∧ nth ks 0 = 34 ∧ g2 ks 6 = rs.length ∧ (∀ i, i < rs.length → RecOk ks i) ∧ placeAt ks rs.length ≤ ks.length ∧ (List.range rs.length).map (recAt ks) = rs ∧ wsum ks ks.length % 65535 = 0 ∧ 0 < wsum ks ks.length := by
  have e : [34, 0, 0, 0, 0, 0] ++ two rs.length ++ (rs.map recBytes).flatten = [34, 0, 0, 0] ++ ([0, 0] ++ (two rs.length ++ (rs.map recBytes).flatten)) := by simp
  rw [e] at hk
  obtain ⟨a, b, c, d, f⟩ := msg_facts 34 0 ([0, 0] ++ (two rs.length ++ (rs.map recBytes).flatten)) (by decide) (by decide) (by decide) (by decide)
    (in_app (by decide) (in_app (two_in (by omega) (by omega)) (recs_in hr)))
  rw [← hk] at a b c d f
  have h8 : At ks (placeAt ks 0) (rs.map recBytes).flatten := d.right.right
  obtain ⟨r1, r2, r3⟩ := recs_at rs 0 h8 (by show (8 : Int) ≤ 8; decide) (fun r h => (hr r h).1)
  have hz := recs_lenle hr
  refine ⟨?_, ?_, b, d.right.left.two, fun i hi => by have := r1 i hi; rwa [Nat.zero_add] at this, by rwa [Nat.zero_add] at r2, ?_, f⟩
  · rw [a]; simp only [List.length_append, two, List.length_cons, List.length_nil]; omega
  · rw [a]; simp only [List.length_append, two, List.length_cons, List.length_nil]; omega
  · refine Eq.trans ?_ r3
    refine List.map_congr_left fun i _ => ?_
    rw [Nat.zero_add]
theorem headOf_len (s t p ttl n : Int) (os : List Int) : (headOf s t p ttl n os).length = 20 + os.length := by
  simp only [headOf, two, four, List.length_append, List.length_cons, List.length_nil]
/-- what a laid head tells, whatever stands behind it -/
theorem head_facts (s t p ttl : Int) (n : Nat) (os r : List Int) (hs0 : 0 ≤ s) (hs1 : s < 4294967296) (ht0 : 0 ≤ t) (ht1 : t < 4294967296) (hp0 : 0 ≤ p) (hp1 : p < 256) (hl0 : 0 ≤ ttl) (hl1 : ttl < 256) (hn : n ≤ 60000) (ho : os.length = 0 ∨ os.length = 4) (hos : ∀ k ∈ os, 0 ≤ k ∧ k < 256)
    (hd ks : List Int) (hh : hd = summed (headOf s t p ttl n os) 10) (hk : ks = hd ++ r) :
    hd.length = 20 + os.length ∧ nth ks 0 = 64 + (20 + (os.length : Int)) / 4 ∧ g2 ks 2 = 20 + os.length + n ∧ g2 ks 6 = 0 ∧ nth ks 8 = ttl ∧ nth ks 9 = p ∧ g4 ks 12 = s ∧ g4 ks 16 = t ∧ hd.drop 20 = os ∧
      wsum hd hd.length % 65535 = 0 ∧ 0 < wsum hd hd.length := by
  have hlen : (headOf s t p ttl n os).length = 20 + os.length := headOf_len ..
  have hl : hd.length = 20 + os.length := by rw [hh, ← hlen]; exact summed_length _ 10 (by omega)
  have hin : ∀ k ∈ headOf s t p ttl n os, 0 ≤ k ∧ k < 256 := by
    unfold headOf
    refine in_app (in_app (in_app (in_app (in_app (in_app ?_ (two_in (by omega) (by omega))) (by decide)) ?_) (four_in hs0 hs1)) (four_in ht0 ht1)) hos
    · intro k hk
      simp only [List.mem_cons, List.not_mem_nil, or_false] at hk
      omega
    · intro k hk
      simp only [List.mem_cons, List.not_mem_nil, or_false] at hk
      omega
  have hsum := summed_sum (headOf s t p ttl n os) 10 hin (by omega) rfl rfl rfl
  have key : ∀ i : Int, 0 ≤ i → i < 20 → i.toNat ≠ 10 → i.toNat ≠ 11 → nth ks i = nth (headOf s t p ttl n os) i := fun i h0 h1 h2 h3 => by
    rw [hk, nth_app_l _ _ _ (by omega), hh]
    exact summed_nth _ 10 i (by omega) h2 h3
  have e0 : nth ks 0 = 64 + (20 + (os.length : Int)) / 4 := key 0 (by decide) (by decide) (by decide) (by decide)
  have e2 : nth ks 2 = (20 + os.length + n : Int) / 256 := key 2 (by decide) (by decide) (by decide) (by decide)
  have e3 : nth ks (2 + 1) = (20 + os.length + n : Int) % 256 := key 3 (by decide) (by decide) (by decide) (by decide)
  have e6 : nth ks 6 = 0 := key 6 (by decide) (by decide) (by decide) (by decide)
  have e7 : nth ks (6 + 1) = 0 := key 7 (by decide) (by decide) (by decide) (by decide)
  have e8 : nth ks 8 = ttl := key 8 (by decide) (by decide) (by decide) (by decide)
  have e9 : nth ks 9 = p := key 9 (by decide) (by decide) (by decide) (by decide)
  have s0 : nth ks 12 = s / 16777216 := key 12 (by decide) (by decide) (by decide) (by decide)
  have s1 : nth ks (12 + 1) = s / 65536 % 256 := key 13 (by decide) (by decide) (by decide) (by decide)
  have s2 : nth ks (12 + 2) = s / 256 % 256 := key 14 (by decide) (by decide) (by decide) (by decide)
  have s3 : nth ks (12 + 3) = s % 256 := key 15 (by decide) (by decide) (by decide) (by decide)
  have t0 : nth ks 16 = t / 16777216 := key 16 (by decide) (by decide) (by decide) (by decide)
  have t1 : nth ks (16 + 1) = t / 65536 % 256 := key 17 (by decide) (by decide) (by decide) (by decide)
  have t2 : nth ks (16 + 2) = t / 256 % 256 := key 18 (by decide) (by decide) (by decide) (by decide)
  have t3 : nth ks (16 + 3) = t % 256 := key 19 (by decide) (by decide) (by decide) (by decide)
  refine ⟨hl, e0, by rw [g2, e2, e3]; omega, by rw [g2, e6, e7]; decide, e8, e9, by rw [g4, s0, s1, s2, s3]; omega, by rw [g4, t0, t1, t2, t3]; omega, ?_, by rw [hh]; exact hsum⟩
  rw [hh, summed, List.append_assoc, List.drop_append, List.drop_append]
  have a1 : ((10 : Int).toNat) = 10 := rfl
  have a2 : ((10 + 2 : Int).toNat) = 12 := rfl
  rw [a1, a2, List.drop_drop, List.length_take, Nat.min_eq_left (by omega), List.drop_of_length_le (by rw [List.length_take]; omega), List.nil_append]
  rw [List.drop_of_length_le (by simp), List.nil_append]
  have a3 : 12 + (20 - 10 - [chk (wsum (headOf s t p ttl (↑n) os) (headOf s t p ttl (↑n) os).length) / 256, chk (wsum (headOf s t p ttl (↑n) os) (headOf s t p ttl (↑n) os).length) % 256].length) = 20 := rfl
  rw [a3, headOf]
  exact List.drop_left' (by simp [two, four])
end

section
theorem Ctr.room {w : World} {D U D' U' : Nat} {f : Value} {args : List Value} {led : List (Addr × Obj)} {P : Value → List (Addr × Obj) → Prop} (C : Ctr w D U f args led P) (hD : D ≤ D') (hU : U ≤ U') : Ctr w D' U' f args led P :=
  fun _ _ _ _ _ _ _ _ _ _ _ _ _ _ _ _ _ _ _ _ B F X N T hk hdp hun h => C _ _ _ _ _ _ _ _ _ _ _ _ _ _ _ _ _ _ _ _ B F X N T hk (by omega) (by omega) h
/-- what laid octets have in common -/
theorem good_ks {kind : Str} {g wait : Int} {ns : List Int} {ver : Int} {rs : List (Int × Int × List Int)} {ks : List Int} (h : Good kind g wait ns ver rs ks) :
    8 ≤ ks.length ∧ ks.length ≤ 56 ∧ wsum ks ks.length % 65535 = 0 ∧ PyData.strOk kind = true ∧ rs.length ≤ 3 := by
  cases h with
  | leave g h0 h1 => obtain ⟨a, _, _, _, e, _⟩ := msg8 23 0 g (by decide) (by decide) (by decide) (by decide) h0 h1; exact ⟨by omega, by omega, e, by decide +kernel, by decide⟩
  | rep1 g h0 h1 => obtain ⟨a, _, _, _, e, _⟩ := msg8 18 0 g (by decide) (by decide) (by decide) (by decide) h0 h1; exact ⟨by omega, by omega, e, by decide +kernel, by decide⟩
  | rep2 g h0 h1 => obtain ⟨a, _, _, _, e, _⟩ := msg8 22 0 g (by decide) (by decide) (by decide) (by decide) h0 h1; exact ⟨by omega, by omega, e, by decide +kernel, by decide⟩
  | rep3 rs hl hr => obtain ⟨a, b, _, _, _, _, _, e, _⟩ := msgr3 rs hl hr _ rfl; exact ⟨a, b, e, by decide +kernel, hl⟩
  | q1 g h0 h1 => obtain ⟨a, _, _, _, e, _⟩ := msg8 17 0 g (by decide) (by decide) (by decide) (by decide) h0 h1; exact ⟨by omega, by omega, e, by decide +kernel, by decide⟩
  | q2 g wait h0 h1 h2 h3 => obtain ⟨a, _, _, _, e, _⟩ := msg8 17 wait g (by decide) (by decide) (by omega) (by omega) h0 h1; exact ⟨by omega, by omega, e, by decide +kernel, by decide⟩
  | q3 g code ns h0 h1 h2 h3 h4 h5 => obtain ⟨a, _, _, _, _, _, e, _⟩ := msgq3 g code ns h0 h1 h2 h3 h4 h5 _ rfl; exact ⟨by omega, by omega, e, by decide +kernel, by decide⟩
theorem c_pk (w : World) (x : Addr) {kind : Str} {g wait : Int} {ns : List Int} {ver : Int} {rs : List (Int × Int × List Int)} {ks : List Int} (led : List (Addr × Obj)) (hg : Good kind g wait ns ver rs ks) (hM : IsMsg w led x kind g wait ns ver rs) :
    Ctr w 50 300 (.ref 193) [.ref x] led (fun v l => IsBy v ks ∧ led = l) := by
  cases hg with
  | leave g h0 h1 => exact c_pkleave w x _ _ _ _ led h0 h1 hM
  | rep1 g h0 h1 => exact c_pkrep1 w x _ _ _ _ led h0 h1 hM
  | rep2 g h0 h1 => exact c_pkrep2 w x _ _ _ _ led h0 h1 hM
  | rep3 rs hl hr =>
    have hz := recs_lenle hr
    exact c_pkrep3 w x 0 _ _ rs led (by omega) (fun r h => (hr r h).1) (by simp only [List.length_append, two, List.length_cons, List.length_nil]; omega) (by simp only [List.length_append, two, List.length_cons, List.length_nil]; omega) hM
  | q1 g h0 h1 => exact c_pkq1 w x _ _ _ _ led h0 h1 (by decide) (by decide) (by simp [four]) (by simp [four]) hM
  | q2 g wait h0 h1 h2 h3 => exact c_pkq2 w x _ _ _ _ led h0 h1 h2 h3 (by simp [four]) (by simp [four]) hM
  | q3 g code ns h0 h1 h2 h3 h4 h5 =>
    have hz := fours_len ns
    exact c_pkq3 w x g 0 ns [] led code h0 h1 h2 h3 (by omega) h5 (by simp only [List.length_append, two, four, List.length_cons, List.length_nil]; omega) (by simp only [List.length_append, two, four, List.length_cons, List.length_nil]; omega) hM
theorem c_un (w : World) (b : Array UInt8) (tb : Tok) {kind : Str} {g wait : Int} {ns : List Int} {ver : Int} {rs : List (Int × Int × List Int)} {ks : List Int} (led : List (Addr × Obj)) (hg : Good kind g wait ns ver rs ks) (hb : KBw.bInts b = ks) :
    Ctr w 60 400 (.ref 215) [.bytes b tb] led (fun v l' => ∃ x, v = .ref x ∧ Adds led l' ∧ IsMsg w l' x kind g wait ns ver rs) := by
  cases hg with
  | leave g h0 h1 =>
    obtain ⟨a, b1, c, d, e, f⟩ := msg8 23 0 g (by decide) (by decide) (by decide) (by decide) h0 h1
    have := c_unleave w b tb _ led hb (by omega) (by omega) e f b1
    rw [d] at this
    exact this.room (by decide) (by decide)
  | rep1 g h0 h1 =>
    obtain ⟨a, b1, c, d, e, f⟩ := msg8 18 0 g (by decide) (by decide) (by decide) (by decide) h0 h1
    have := c_unrep1 w b tb _ led hb (by omega) (by omega) e f b1
    rw [d] at this
    exact this.room (by decide) (by decide)
  | rep2 g h0 h1 =>
    obtain ⟨a, b1, c, d, e, f⟩ := msg8 22 0 g (by decide) (by decide) (by decide) (by decide) h0 h1
    have := c_unrep2 w b tb _ led hb (by omega) (by omega) e f b1
    rw [d] at this
    exact this.room (by decide) (by decide)
  | rep3 rs hl hr =>
    obtain ⟨a1, a2, a3, a4, a5, a6, a7, a8, a9⟩ := msgr3 rs hl hr _ rfl
    have := c_unrep3 w b tb _ rs.length led hb (by omega) a1 a4 (by omega) a5 a6 a8 a9 a3
    rw [a7] at this
    exact this
  | q1 g h0 h1 =>
    obtain ⟨a, b1, c, d, e, f⟩ := msg8 17 0 g (by decide) (by decide) (by decide) (by decide) h0 h1
    have := c_unq8z w b tb _ led hb a c e f b1
    rw [d, c] at this
    exact this.room (by decide) (by decide)
  | q2 g wait h0 h1 h2 h3 =>
    obtain ⟨a, b1, c, d, e, f⟩ := msg8 17 wait g (by decide) (by decide) (by omega) (by omega) h0 h1
    have := c_unq8 w b tb _ led hb a (by omega) e f b1
    rw [d, c] at this
    exact this.room (by decide) (by decide)
  | q3 g code ns h0 h1 h2 h3 h4 h5 =>
    obtain ⟨a1, a2, a3, a4, a5, a6, a7, a8⟩ := msgq3 g code ns h0 h1 h2 h3 h4 h5 _ rfl
    have := c_unq3 w b tb _ led hb (by omega) (by omega) (by omega) (by omega) (by omega) a7 a8 a2
    rw [a3, a4, a5, Int.toNat_natCast, a6] at this
    exact this.room (by decide) (by decide)
/-- one octet turned: the sum is wrong -/
theorem turned_facts (ks : List Int) (k d : Int) (b : Array UInt8) (hb : KBw.bInts b = ks) (hk0 : 0 ≤ k) (hk1 : k < ks.length) (hd0 : 0 ≤ d) (hd1 : d < 254) :
    (turned ks k d).length = ks.length ∧ ∀ n : Nat, k < n → wsum ks n % 65535 = 0 → wsum (turned ks k d) n % 65535 ≠ 0 := by
  obtain ⟨j, rfl⟩ := Int.eq_ofNat_of_zero_le hk0
  exact ⟨turned_len ks j d (by omega), fun n hn hs => turned_sum ks j d (fun k hk => KBw.ints_in (hb ▸ hk)) (by omega) hd0 hd1 n (by omega) hs⟩
theorem e_unturned (w : World) (b b2 : Array UInt8) (tb : Tok) {kind : Str} {g wait : Int} {ns : List Int} {ver : Int} {rs : List (Int × Int × List Int)} {ks : List Int} (k d : Int) (led : List (Addr × Obj)) (hg : Good kind g wait ns ver rs ks) (hb : KBw.bInts b = ks)
    (hb2 : KBw.bInts b2 = turned ks k d) (hk0 : 0 ≤ k) (hk1 : k < ks.length) (hd0 : 0 ≤ d) (hd1 : d < 254) : CtrE w 30 200 (.ref 215) [.bytes b2 tb] led := by
  obtain ⟨h8, h56, hs, _⟩ := good_ks hg
  obtain ⟨hl, hw⟩ := turned_facts ks k d b hb hk0 hk1 hd0 hd1
  have := hw ks.length hk1 hs
  rw [← hl] at this
  exact e_unpack2 w b2 tb _ led hb2 (by omega) (by omega) this
/-- the packet: head and what is in it -/
structure Pk (s t p ttl : Int) (os ks whole : List Int) : Prop where
  hs : 0 ≤ s ∧ s < 4294967296
  ht : 0 ≤ t ∧ t < 4294967296
  hp : 0 ≤ p ∧ p < 256
  hl : 0 ≤ ttl ∧ ttl < 256
  hk : 8 ≤ ks.length ∧ ks.length ≤ 56
  ho : os.length = 0 ∨ os.length = 4
  hos : ∀ k ∈ os, 0 ≤ k ∧ k < 256
  hin : ∀ k ∈ ks, 0 ≤ k ∧ k < 256
  hw : whole = summed (headOf s t p ttl ks.length os) 10 ++ ks
theorem Pk.facts {s t p ttl : Int} {os ks whole : List Int} (h : Pk s t p ttl os ks whole) (r : List Int) :
    ∃ hd, whole = hd ++ ks ∧ hd.length = 20 + os.length ∧ 4 * (nth (whole ++ r) 0 % 16) = 20 + os.length ∧ nth (whole ++ r) 0 / 16 = 4 ∧ g2 (whole ++ r) 2 = whole.length ∧ g2 (whole ++ r) 6 = 0 ∧ nth (whole ++ r) 8 = ttl ∧ nth (whole ++ r) 9 = p ∧ g4 (whole ++ r) 12 = s ∧ g4 (whole ++ r) 16 = t ∧ hd.drop 20 = os ∧
      wsum hd hd.length % 65535 = 0 ∧ 0 < wsum hd hd.length ∧ whole.length = 20 + os.length + ks.length := by
  obtain ⟨hs, ht, hp, hl, hk, ho, hos, hin, hw⟩ := h
  obtain ⟨a1, a2, a3, a4, a5, a6, a7, a8, a9, a10, a11⟩ := head_facts s t p ttl ks.length os (ks ++ r) hs.1 hs.2 ht.1 ht.2 hp.1 hp.2 hl.1 hl.2 (by omega) ho hos _ (whole ++ r) rfl (by rw [hw, List.append_assoc])
  have hwl : whole.length = 20 + os.length + ks.length := by rw [hw, List.length_append, a1]
  refine ⟨_, hw, a1, ?_, ?_, ?_, a4, a5, a6, a7, a8, a9, a10, a11, hwl⟩
  · rw [a2]; rcases ho with h | h <;> rw [h] <;> decide
  · rw [a2]; rcases ho with h | h <;> rw [h] <;> decide
  · rw [a3, hwl]; omega
theorem c_viewok (w : World) (b : Array UInt8) (tb : Tok) {s t p ttl : Int} {os ks whole : List Int} (z : Nat) (led : List (Addr × Obj)) (h : Pk s t p ttl os ks whole) (hb : KBw.bInts b = whole ++ List.replicate z 0) (hz : z ≤ 8) :
    Ctr w 40 300 (.ref 246) [.bytes b tb] led (fun v l' => ∃ x, v = .ref x ∧ Adds led l' ∧ IsView w l' x ttl p s t os ks) := by
  obtain ⟨hd, e, a1, a2, a3, a4, a5, a6, a7, a8, a9, a10, a11, a12, a13⟩ := h.facts (List.replicate z 0)
  have ho := h.ho
  have hk := h.hk
  have hl : (whole ++ List.replicate z 0).length = 20 + os.length + ks.length + z := by rw [List.length_append, a13, List.length_replicate]
  have e2 : (20 + (os.length : Int)).toNat = hd.length := by omega
  have e3 : (whole ++ List.replicate z (0 : Int)).take hd.length = hd := by rw [e, List.append_assoc, List.take_left']; rfl
  have := c_view w b tb (whole ++ List.replicate z 0) led hb (by rw [hl]; omega) (by rw [hl]; omega) a3 (by omega) (by rw [a2, a4, a13]; omega) (by rw [a4, a13, hl]; omega) (by rw [a2, e2, e3]; exact a11) (by rw [a2, e2, e3]; exact a12) (by rw [a5]; rfl)
  rw [a6, a7, a8, a9, a2, a4, e2] at this
  have f1 : List.take (20 + (os.length : Int) - 20).toNat (List.drop 20 (whole ++ List.replicate z 0)) = os := by
    rw [(by omega : (20 + (os.length : Int) - 20).toNat = os.length), e, List.append_assoc, List.drop_append, (by omega : 20 - hd.length = 0), List.drop_zero, a10, List.take_left']; rfl
  have f2 : List.take ((whole.length : Int) - (20 + (os.length : Int))).toNat (List.drop hd.length (whole ++ List.replicate z 0)) = ks := by
    rw [(by omega : ((whole.length : Int) - (20 + (os.length : Int))).toNat = ks.length), e, List.append_assoc, List.drop_left', List.take_left']
    · rfl
    · rfl
  rw [f1, f2] at this
  exact this
theorem e_viewshort (w : World) (b : Array UInt8) (tb : Tok) {s t p ttl : Int} {os ks whole : List Int} (led : List (Addr × Obj)) (h : Pk s t p ttl os ks whole) (hb : KBw.bInts b = whole.take (whole.length - 1)) :
    CtrE w 30 200 (.ref 246) [.bytes b tb] led := by
  obtain ⟨hd, e, a1, a2, a3, a4, a5, a6, a7, a8, a9, a10, a11, a12, a13⟩ := h.facts []
  have ho := h.ho
  have hk := h.hk
  rw [List.append_nil] at a2 a3 a4
  have hl : (whole.take (whole.length - 1)).length = whole.length - 1 := by rw [List.length_take]; omega
  have nt : ∀ i : Int, i.toNat < 20 → nth (whole.take (whole.length - 1)) i = nth whole i := fun i hi => by
    rw [nth, nth, List.getD_eq_getElem?_getD, List.getD_eq_getElem?_getD, List.getElem?_take, if_pos (by omega)]
  have g2t : g2 (whole.take (whole.length - 1)) 2 = g2 whole 2 := by rw [g2, g2, nt _ (by decide), nt _ (by decide)]
  exact e_viewcut w b tb _ led hb (by omega) (by omega) (by rw [nt _ (by decide)]; exact a3) (by rw [nt _ (by decide)]; omega) (by rw [nt _ (by decide), g2t, a4, a2, a13]; omega) (by rw [g2t, a4, hl]; omega)
theorem e_viewbent (w : World) (b : Array UInt8) (tb : Tok) {s t p ttl : Int} {os ks whole : List Int} (k d : Int) (led : List (Addr × Obj)) (h : Pk s t p ttl os ks whole) (hk0 : 0 ≤ k) (hk1 : k < 19) (hd0 : 0 ≤ d) (hd1 : d < 254)
    (hb : KBw.bInts b = whole.take 1 ++ turned ((whole.drop 1).take 19) k d ++ whole.drop 20) (hin : ∀ k ∈ whole, 0 ≤ k ∧ k < 256) :
    CtrE w 30 200 (.ref 246) [.bytes b tb] led := by
  obtain ⟨hd, e, a1, a2, a3, a4, a5, a6, a7, a8, a9, a10, a11, a12, a13⟩ := h.facts []
  have ho := h.ho
  have hk := h.hk
  rw [List.append_nil] at a2 a3 a4
  obtain ⟨j, rfl⟩ := Int.eq_ofNat_of_zero_le hk0
  have hl9 : ((whole.drop 1).take 19).length = 19 := by rw [List.length_take, List.length_drop]; omega
  have hset : whole.take 1 ++ turned ((whole.drop 1).take 19) j d ++ whole.drop 20 = whole.set (j + 1) ((whole.getD (j + 1) 0 + 1 + d) % 256) := by
    rw [turned_set _ _ _ (by omega)]
    have e1 : ((whole.drop 1).take 19).getD j 0 = whole.getD (j + 1) 0 := by
      rw [List.getD_eq_getElem?_getD, List.getD_eq_getElem?_getD, List.getElem?_take, if_pos (by omega), List.getElem?_drop, Nat.add_comm]
    rw [e1]
    generalize (whole.getD (j + 1) 0 + 1 + d) % 256 = v
    apply List.ext_getElem?
    intro i
    rw [List.getElem?_append, List.getElem?_append, List.length_append, List.length_set, hl9, List.length_take, (by omega : min 1 whole.length = 1)]
    by_cases i1 : i < 1
    · rw [if_pos (by omega), if_pos i1, List.getElem?_take, if_pos i1, List.getElem?_set, if_neg (by omega)]
    · by_cases i2 : i < 20
      · rw [if_pos (by omega), if_neg i1, List.getElem?_set, List.getElem?_set, hl9]
        by_cases i3 : j + 1 = i
        · rw [if_pos (by omega), if_pos (by omega), if_pos i3, if_pos (by omega)]
        · rw [if_neg (by omega), if_neg i3, List.getElem?_take, if_pos (by omega), List.getElem?_drop]
          congr 1
          omega
      · rw [if_neg (by omega), List.getElem?_drop, List.getElem?_set, if_neg (by omega)]
        congr 1
        omega
  rw [hset] at hb
  have hn0 : nth (whole.set (j + 1) ((whole.getD (j + 1) 0 + 1 + d) % 256)) 0 = nth whole 0 := by
    rw [nth, nth, getD_set, if_neg (by omega)]
  have ht : (whole.set (j + 1) ((whole.getD (j + 1) 0 + 1 + d) % 256)).take (20 + os.length) = turned hd (j + 1 : Nat) d := by
    have hj : j + 1 < hd.length := by omega
    rw [turned_set hd (j + 1) d hj, List.take_set, e, (by omega : 20 + os.length = hd.length), List.take_left' rfl]
    congr 2
    rw [List.getD_eq_getElem?_getD, List.getD_eq_getElem?_getD, List.getElem?_append_left hj]
  refine e_viewsum w b tb _ led hb (by rw [List.length_set]; omega) (by rw [List.length_set]; omega) (by rw [hn0]; exact a3) (by rw [hn0]; omega) ?_
  rw [hn0, a2, (by omega : (20 + (os.length : Int)).toNat = 20 + os.length), ht, turned_len hd (j + 1) d (by omega)]
  exact turned_sum hd (j + 1) d (fun k hk => hin k (by rw [e]; exact List.mem_append_left _ hk)) (by omega) hd0 hd1 hd.length (by omega) a11
end

section
/-- a code object of a nested text named q -/
def CodeOk (q : Str) (oc : Obj) : Prop := ∃ vs t, oc.data = .fields vs ∧ vs[1]? = some (.str q t)
/-- a table of nested code objects, all in the ledger -/
inductive TabL (q : Str) (l : List (Addr × Obj)) : List Value → Prop
  | nil : TabL q l []
  | cons (a b : Int) (c : Addr) (oc : Obj) {ps : List Value} : (c, oc) ∈ l → CodeOk q oc → TabL q l ps → TabL q l (rawInt a :: rawInt b :: .ref c :: ps)
theorem TabL.mono {q : Str} {l l' : List (Addr × Obj)} {ps : List Value} (h : TabL q l ps) (hs : ∀ p ∈ l, p ∈ l') : TabL q l' ps := by
  induction h with
  | nil => exact .nil
  | cons a b c oc hm hc _ ih => exact .cons a b c oc (hs _ hm) hc ih
theorem TabL.app {q : Str} {l : List (Addr × Obj)} {ps qs : List Value} (h : TabL q l ps) (g : TabL q l qs) : TabL q l (ps ++ qs) := by
  induction h with
  | nil => exact g
  | cons a b c oc hm hc _ ih => exact .cons a b c oc hm hc ih
theorem TabL.triples {q : Str} {l : List (Addr × Obj)} {ps : List Value} (h : TabL q l ps) : TriplesOk ps := by
  induction h with
  | nil => trivial
  | cons a b c oc hm hc _ ih => exact ih
theorem TabL.among {q : Str} {l : List (Addr × Obj)} {ps : List Value} (h : TabL q l ps) (pos : Pos) : codeAmong pos ps = none ∨ ∃ c oc, codeAmong pos ps = some (.ref c) ∧ (c, oc) ∈ l ∧ CodeOk q oc := by
  induction h with
  | nil => exact .inl rfl
  | cons a b c oc hm hc _ ih =>
    unfold codeAmong rawInt
    dsimp only
    split
    · exact .inr ⟨c, oc, rfl, hm, hc⟩
    · exact ih
section
variable {M : Model} {A : Around} {E : Value → Shared → Prop} {s : Shared} {h₀ : Heap} {L a c P : Addr} {m mg mb : Str → Option Value} {cn : Str} {cs : Scope} {ccd : Value} {cl : List (Str × Addr)} {news : List (Addr × Obj)}
  {p : Program} {loose : List Str} {mean : ExcName → Option Value} {name qual : Str} {params : Arguments} {body : Expr} {scope : Scope} {ps : List Value} {pos : Pos} {firstLine : Nat} {clos : List (Str × Addr)}
/-- a nested text is made, or found in the table -/
theorem kla_any {Q : Value → Shared → Prop} {pre rest : List (Addr × Obj)} (F : Fr h₀ L s.heap m) (N : News h₀ L s.heap ((P, tabObj ps.toArray) :: (pre ++ rest))) (T : Top p loose mean mg mb h₀) (C : CodeHd h₀ c P) (hcd : ccd = .ref c) (hsep : ∀ q ∈ pre ++ rest, q.1 ≠ P) (ht : TabL qual rest ps)
    (hcl : closureFor scope (envX cn cs L a ccd cl) = pure clos)
    (h : ∀ f c' oc ps' new ctv h' tk, Fr h₀ L h' m → (∀ q ∈ new, P < q.1 ∧ ∀ r ∈ pre ++ rest, r.1 < q.1) →
      News h₀ L h' ((f, kla_obj name qual params body scope clos ((mg "__name__").getD .none) c' ctv) :: (P, tabObj ps'.toArray) :: (pre ++ (new ++ rest))) →
      (c', oc) ∈ new ++ rest → CodeOk qual oc → TabL qual (new ++ rest) ps' → P < f → (∀ r ∈ pre ++ (new ++ rest), r.1 < f) → Q (.ref f) { s with heap := h', toks := tk }) :
    wpAny M A (makeFunction name qual params (.expr body) scope (envX cn cs L a ccd cl) [] [] [] pos firstLine) Q E s := by
  rcases ht.among pos with hn | ⟨c', oc, hf, hm, hc⟩
  · refine kla_nest F N T C hcd (UpdF.head hsep) ht.triples hn hcl fun f c' oc vs t ctv h' tk F' N' hd hv l1 l2 => ?_
    have hP : P < c' := l1 _ (.head _)
    have e : (ps.toArray ++ #[rawInt pos.line, rawInt pos.col, Value.ref c']) = (ps ++ [rawInt pos.line, rawInt pos.col, Value.ref c']).toArray := by simp
    have hm : TabL qual ([(c', oc)] ++ rest) (ps ++ [rawInt pos.line, rawInt pos.col, Value.ref c']) := TabL.app (ht.mono fun q hq => List.mem_append_right _ hq) (.cons _ _ c' oc (List.mem_append_left _ (.head _)) ⟨vs, t, hd, hv⟩ .nil)
    refine h f c' oc _ [(c', oc)] ctv h' tk F' (fun q hq => ?_) (fun q hq => ?_) (List.mem_append_left _ (.head _)) ⟨vs, t, hd, hv⟩ hm (Nat.lt_trans hP l2) (fun r hr => ?_)
    · rw [List.mem_singleton.mp hq]
      exact ⟨hP, fun r hr => l1 r (.tail _ hr)⟩
    · rw [← e] at hq
      rcases List.mem_cons.mp hq with rfl | hq
      · exact N' _ (.head _)
      · rcases List.mem_cons.mp hq with rfl | hq
        · exact N' _ (.tail _ (.tail _ (.head _)))
        · rcases List.mem_append.mp hq with hq | hq
          · exact N' _ (.tail _ (.tail _ (.tail _ (List.mem_append_left _ hq))))
          · rcases List.mem_append.mp hq with hq | hq
            · rw [List.mem_singleton.mp hq]; exact N' _ (.tail _ (.head _))
            · exact N' _ (.tail _ (.tail _ (.tail _ (List.mem_append_right _ hq))))
    · rcases List.mem_append.mp hr with hr | hr
      · exact Nat.lt_trans (l1 r (.tail _ (List.mem_append_left _ hr))) l2
      · rcases List.mem_append.mp hr with hr | hr
        · rw [List.mem_singleton.mp hr]; exact l2
        · exact Nat.lt_trans (l1 r (.tail _ (List.mem_append_right _ hr))) l2
  · refine kla_hit F N T C hcd (.head _) ht.triples hf hcl fun f ctv h' tk F' N' l1 => ?_
    exact h f c' oc ps [] ctv h' tk F' (fun _ hq => nomatch hq) N' hm hc ht (l1 _ (.head _)) (fun r hr => l1 r (.tail _ hr))
theorem codeRec_ok {h : Heap} {q : Str} {c' : Addr} {oc : Obj} {l : List (Addr × Obj)} (N : News h₀ L h l) (hm : (c', oc) ∈ l) (hc : CodeOk q oc) : h.CodeRec (.ref c') q := by
  obtain ⟨vs, t, hd, hv⟩ := hc
  exact codeRec_news N hm hd hv
end
end

theorem rows_24 : True := by
  k_with "m call ref" => ((with_reducible show wpAny _ _ (call (Value.ref 350) [Value.ref _, Value.bytes _ _]) _ _ _); (((k_extra "m my_fq"); k_dflt (refine' (Ctr.use (Ctr.upd (P := TurnP _) (fun r hr _ => c_turned _ _ _ _ _ r _ hr ?z9q1 ?z9q2 ?z9q3 ?z9q4) ?z9q6)) ?z9k1 ?z9k2 ?z9k3 ?z9k4 ?z9k5 ?z9k6 ?z9k7 ?z9k8 ?_; (case z9k1 => k_asm); (case z9k2 => k_asm); (case z9k3 => k_asm); (case z9k4 => k_asm); (case z9k5 => k_asm); (case z9k6 => first | exact rfl | assumption); (case z9k7 => k_extra "m my_rm"); (case z9k8 => k_extra "m my_rm")))); (case z9q6 => k_updF); (case z9q1 => assumption); (case z9q2 => k_extra "m my_len"); (case z9q3 => k_extra "m my_len"); (case z9q4 => assumption); k_whole; intro _ _ _ _ hP8 _ N8; obtain ⟨_, ⟨⟨_, _, ⟨_, _, e8, _⟩, _, _, _, _⟩, _⟩, e9⟩ := hP8; subst e8; subst e9; (revert N8; (try dsimp only); intro _))
  k_with "m my_stopP" => (
  (fail_if_success (with_reducible show wpAny _ _ (eval (Expr.ListComp _ _ _ _) _) _ _ _))
  (fail_if_success (with_reducible show wpAny _ _ (pyIter _) _ _ _))
  (fail_if_success (with_reducible show wpAny _ _ (exec (Stmt.For _ _ _ _ _) _) _ _ _))
  (fail_if_success (with_reducible show wpAny _ _ (exec (Stmt.While _ _ _ _) _) _ _ _))
  (fail_if_success (with_reducible show wpAny _ _ (call (Value.ref 293) _) _ _ _))
  (fail_if_success (with_reducible show wpAny _ _ (call (Value.ref 246) _) _ _ _))
  (fail_if_success (with_reducible show wpAny _ _ (call (Value.ref 343) _) _ _ _))
  (fail_if_success (with_reducible show wpAny _ _ (call (Value.ref 258) _) _ _ _))
  (fail_if_success (with_reducible show wpAny _ _ (call (Value.ref 312) _) _ _ _))
  (fail_if_success (with_reducible show wpAny _ _ (call (Value.ref 350) _) _ _ _))
  (fail_if_success (with_reducible show wpAny _ _ (eval (Expr.Lambda _ _ _ _) _) _ _ _))
  (fail_if_success (with_reducible show wpAny _ _ (compareOp _ (Value.ref _) (Value.ref _)) _ _ _)))
  k_with "m my_walkP" => (repeat' (first | (k_unfold; (try dsimp only)) | (k_extra "m my_stopP"; first | walk1 | (dsimp only; walk1) | (dsimp only; k_unfold; (try dsimp only)) | (dsimp only [List.cons_append, List.nil_append]; walk1))))
  k_with "m compareOp NotEq bytes bytes" => (k_here; (with_reducible show wpAny _ _ (compareOp _ (Value.bytes _ _) (Value.bytes _ _)) _ _ _); k_dflt (refine' ne_bys ?z9ka ?_; (case z9ka => first | assumption | exact Eq.trans (by assumption) (Eq.symm (by assumption)))))
  k_with "m my_lam" => (refine wpAny_call ?_; refine' kla_code ?z9k1 ?z9k2 ?z9k3 ?z9k4 ?z9k5 ?z9kA ?z9kF ?z9kK ?z9k6 ?z9k7 ?z9k8 ?z9k9 ?z9kB ?_ ?z9c2 ?z9c3 ?z9c4 ?z9c5; (case z9kA => eq_refl); (case z9kF => eq_refl); (case z9kK => assumption); (case z9k1 => k_asm); (case z9k2 => k_asm); (case z9k3 => k_asm); (case z9k4 => k_asm); (case z9k5 => k_asm); (case z9k6 => exact .head _); (case z9k7 => exact codeRec_ok (by k_asm) (.tail _ (.tail _ (.tail _ (.tail _ (.tail _ (List.mem_append_right _ (by assumption))))))) (by assumption)); (case z9k8 => ktr_room); (case z9k9 => eq_refl); (case z9c5 => decide); (case z9kB => exact locs rfl); (case z9c2 => eq_refl); (case z9c3 => eq_refl); (case z9c4 => eq_refl); k_whole; intro _ _ _ _ _ _ B' _ _; (try dsimp only); (try k_lift B'); (revert B'; intro _); (try k_fold))
  trivial

section
/-- a contract of a call behind which the ground has turned, met where the code object cd has the table tb -/
def CtrTC (w : World) (cd tb : Addr) (D U : Nat) (f : Value) (args : List Value) (led : List (Addr × Obj)) (P : Value → List (Addr × Obj) → Prop) : Prop :=
  ∀ (mean : ExcName → Option Value) (mg mb : Str → Option Value) (dp un : Nat) (gd : Option (List Code)) (cn : Str) (cs : Scope) (a : Addr) (ccd : Value) (cl : List (Str × Addr)) (outer : List Env) (A₀ : Around) (base h₀ : Heap) (L : Addr) (m : Str → Option Value) (s : Shared) (Q E : Value → Shared → Prop),
    CodeHd base cd tb → Below A₀ base outer h₀ → Fr h₀ L s.heap m → (kay.heap_1 w.params).In h₀ → News h₀ L s.heap led → Top topProg lo mean mg mb h₀ → cs.kind = .function → dp + D < recursionLimit → un + U < cLine →
    (kay.heap_1 w.params).In base → Top topProg lo mean mg mb base →
    (∀ (v : Value) (led' : List (Addr × Obj)) (h' h₀' : Heap) (tk' : Nat), P v led' → KtsTurn (outer.filterMap (·.frame)) h₀ h₀' → Below A₀ base outer h₀' → Fr h₀' L h' m → (kay.heap_1 w.params).In h₀' → News h₀' L h' led' → Top topProg lo mean mg mb h₀' → Q v { s with heap := h', toks := tk' }) →
    wpAny (model pw w) (ktrTop dp un gd cn cs L a ccd cl outer) (call f args) Q E s
theorem both_front {g h : Heap} {L : Addr} {l : List (Addr × Obj)} {p q : Addr × Obj} (hp : p ∈ l) (hq : q ∈ l) (N : News g L h l) : News g L h (p :: q :: l) := fun x hx => by
  rcases List.mem_cons.mp hx with rfl | hx
  · exact N _ hp
  · rcases List.mem_cons.mp hx with rfl | hx
    · exact N _ hq
    · exact N _ hx
theorem both_front2 {g h : Heap} {L : Addr} {t l : List (Addr × Obj)} {p q : Addr × Obj} (hp : p ∈ t ++ l) (hq : q ∈ t ++ l) (N : News g L h (t ++ l)) : News g L h (p :: q :: l) := fun x hx => by
  rcases List.mem_cons.mp hx with rfl | hx
  · exact N _ hp
  · rcases List.mem_cons.mp hx with rfl | hx
    · exact N _ hq
    · exact N _ (List.mem_append_right _ hx)
theorem bent_of_len {whole : List Int} (h : 20 ≤ whole.length) : (List.take (20 - 1 : Int).toNat (List.drop (Int.toNat 1) whole)).length = 19 := by
  rw [List.length_take, List.length_drop]
  show min 19 (whole.length - 1) = 19
  omega
theorem bent_of {bT : Array UInt8} {whole : List Int} {k d : Int} (hbT : KBw.bInts bT = turned (List.take (20 - 1 : Int).toNat (List.drop (Int.toNat 1) whole)) k d) (h : 20 ≤ whole.length) (k0 : 0 ≤ k) (k1 : k < (List.take (20 - 1 : Int).toNat (List.drop (Int.toNat 1) whole)).length) :
    ∃ tl, KBw.bInts bT = tl ∧ tl = turned ((whole.drop 1).take 19) k d ∧ tl.length = 19 := by
  have e := bent_of_len h
  obtain ⟨j, rfl⟩ := Int.eq_ofNat_of_zero_le k0
  refine ⟨_, hbT, rfl, ?_⟩
  rw [turned_len _ j d (by omega), e]
theorem tab_first {g h : Heap} {L : Addr} {l : List (Addr × Obj)} {a b c d : Addr × Obj} (N : News g L h (a :: b :: c :: d :: l)) : News g L h (d :: ([a, b, c] ++ l)) := fun x hx => by
  rcases List.mem_cons.mp hx with rfl | hx
  · exact N _ (.tail _ (.tail _ (.tail _ (.head _))))
  · rcases List.mem_cons.mp hx with rfl | hx
    · exact N _ (.head _)
    · rcases List.mem_cons.mp hx with rfl | hx
      · exact N _ (.tail _ (.head _))
      · rcases List.mem_cons.mp hx with rfl | hx
        · exact N _ (.tail _ (.tail _ (.head _)))
        · exact N _ (.tail _ (.tail _ (.tail _ (.tail _ hx))))
theorem ne_app {t r : List (Addr × Obj)} {a : Addr} (h1 : ∀ p ∈ t, p.1 ≠ a) (h2 : ∀ p ∈ r, p.1 ≠ a) : ∀ p ∈ t ++ r, p.1 ≠ a := fun p hp => by
  rcases List.mem_append.mp hp with hp | hp
  · exact h1 p hp
  · exact h2 p hp
theorem packet_new {a b c : Addr × Obj} {n3 n2 more cs : List (Addr × Obj)} (h3 : ∀ q ∈ n3, 352 < q.1 ∧ ∀ r ∈ ([a, b, c] ++ more) ++ (n2 ++ cs), r.1 < q.1) (h2 : ∀ q ∈ n2, 352 < q.1 ∧ ∀ r ∈ ([a, b, c] ++ more) ++ cs, r.1 < q.1) : ∀ q ∈ n3 ++ n2, c.1 < q.1 ∧ 352 < q.1 ∧ ∀ r ∈ more ++ cs, r.1 < q.1 := fun q hq => by
  rcases List.mem_append.mp hq with hq | hq
  · obtain ⟨x, y⟩ := h3 q hq
    refine ⟨y c (.tail _ (.tail _ (.head _))), x, fun r hr => y r ?_⟩
    rcases List.mem_append.mp hr with hr | hr
    · exact List.mem_append_left _ (List.mem_append_right _ hr)
    · exact List.mem_append_right _ (List.mem_append_right _ hr)
  · obtain ⟨x, y⟩ := h2 q hq
    refine ⟨y c (.tail _ (.tail _ (.head _))), x, fun r hr => y r ?_⟩
    rcases List.mem_append.mp hr with hr | hr
    · exact List.mem_append_left _ (List.mem_append_right _ hr)
    · exact List.mem_append_right _ hr
theorem packet_led {g h : Heap} {L : Addr} {n3 n2 more cs : List (Addr × Obj)} {f t a b c : Addr × Obj} (N : News g L h (f :: t :: a :: b :: c :: (more ++ (n3 ++ (n2 ++ cs))))) : News g L h (c :: t :: (more ++ ((n3 ++ n2) ++ cs))) := fun x hx => by
  rcases List.mem_cons.mp hx with rfl | hx
  · exact N _ (.tail _ (.tail _ (.tail _ (.tail _ (.head _)))))
  · rcases List.mem_cons.mp hx with rfl | hx
    · exact N _ (.tail _ (.head _))
    · rw [List.append_assoc] at hx
      exact N _ (.tail _ (.tail _ (.tail _ (.tail _ (.tail _ hx)))))
theorem pk_of {bW b : Array UInt8} {s t p ttl : Int} {os ks : List Int} (hbW : KBw.bInts bW = summed (headOf s t p ttl ks.length os) 10 ++ ks) (hb : KBw.bInts b = ks) (s0 : 0 ≤ s) (s1 : s < 4294967296) (t0 : 0 ≤ t) (t1 : t < 4294967296) (p0 : 0 ≤ p) (p1 : p < 256) (l0 : 0 ≤ ttl) (l1 : ttl < 256)
    (k0 : 8 ≤ ks.length) (k1 : ks.length ≤ 56) (ho : os.length = 0 ∨ os.length = 4) (hos : ∀ k ∈ os, 0 ≤ k ∧ k < 256) : ∃ wl, KBw.bInts bW = wl ∧ Pk s t p ttl os ks wl ∧ wl = summed (headOf s t p ttl ks.length os) 10 ++ ks ∧ wl.length = 20 + os.length + ks.length := by
  have hPk : Pk s t p ttl os ks (summed (headOf s t p ttl ks.length os) 10 ++ ks) := ⟨⟨s0, s1⟩, ⟨t0, t1⟩, ⟨p0, p1⟩, ⟨l0, l1⟩, ⟨k0, k1⟩, ho, hos, fun k hk => KBw.ints_in (hb ▸ hk), rfl⟩
  obtain ⟨_, _, _, _, _, _, _, _, _, _, _, _, _, _, h⟩ := hPk.facts []
  exact ⟨_, hbW, hPk, rfl, h⟩
set_option maxHeartbeats 8000000 in
theorem c_packet1 (w : World) (src : Addr) (b : Array UInt8) (tb : Tok) (ks : List Int) (more cs : List (Addr × Obj)) (o : Obj) (hsep : ∀ p ∈ more ++ cs, p.1 ≠ src) (hsep2 : ∀ p ∈ more ++ cs, p.1 ≠ 352) (ps : List Value) (ht : TabL (Str.ofString "_law_packet_right.<locals>.<lambda>") cs ps) (hs2 : @LT.lt Nat _ 352 src) (ho : SrcObj o) (hb : KBw.bInts b = ks) (hk0 : 8 ≤ ks.length) (hk1 : ks.length ≤ 56) :
    CtrTC w 356 352 60 500 (.ref 357) [.ref src, .bytes b tb] ((src, o) :: (352, tabObj ps.toArray) :: (more ++ cs)) (fun v l => v = .bool true ∧ ∃ oT ps' new, SrcObj oT ∧ TabL (Str.ofString "_law_packet_right.<locals>.<lambda>") (new ++ cs) ps' ∧ (∀ q ∈ new, src < q.1 ∧ 352 < q.1 ∧ ∀ r ∈ more ++ cs, r.1 < q.1) ∧ (src, oT) :: (352, tabObj ps'.toArray) :: (more ++ (new ++ cs)) = l) := by
  intro mean mg mb dp un gd cn cs0 a ccd cl outer A₀ base h₀ L m s Q E CB B F X N T hk hdp hun XB TB hret
  (
  refine wpAny_call ?_
  k_dflt (refine' code_defCT (binds := [(Str.ofString "source", Value.ref src), (Str.ofString "octets", Value.bytes b tb)]) ?z9k1 ?z9k2 ?z9k3 ?z9k4 ?z9k5 ?z9kXB ?z9kTB ?z9kA ?z9kF ?z9kK ?z9k6 ?z9k7 ?z9k8 ?z9k9 ?z9kB ?z9kD ?_ ?z9c2 ?z9c3 ?z9c4; (case z9kA => eq_refl); (case z9kF => eq_refl); (case z9kK => assumption); (case z9k1 => k_asm); (case z9k2 => k_asm); (case z9k3 => k_asm); (case z9k4 => k_asm); (case z9k5 => k_asm); (case z9kXB => assumption); (case z9kTB => assumption); (case z9k6 => k_is); (case z9k7 => k_is); (case z9k8 => ktr_room); (case z9k9 => exact BindsTo.of_eq (by kernel_rfl)); (case z9kB => eq_refl); (case z9kD => decide +kernel); (case z9c2 => eq_refl); (case z9c3 => eq_refl); (case z9c4 => eq_refl); k_whole))
  intro g1 L1 hp1 tk1 cells1 FG F1 N1 Y1 B1 X1 T1 l1
  obtain ⟨o1, o2, rfl, d1, d2⟩ := CellsAre.two Y1
  k_extra "m my_ent"
  have N2 : News g1 L1 hp1 ((L1 + 1 + 1, o1) :: (L1 + 1, o2) :: (src, o) :: (352, tabObj ps.toArray) :: (more ++ cs)) := N1
  clear N1
  have hsL : @LT.lt Nat _ src L1 := l1 _ (.head _)
  have hr9 : ∀ p ∈ more ++ cs, @LT.lt Nat _ p.1 L1 := fun p hp => l1 p (.tail _ (.tail _ hp))
  have hsepA : ∀ p ∈ more ++ cs, p.1 ≠ L1 + 1 := fun p hp => Nat.ne_of_lt (Nat.lt_succ_of_lt (hr9 p hp))
  have hsepB : ∀ p ∈ more ++ cs, p.1 ≠ L1 + 1 + 1 := fun p hp => Nat.ne_of_lt (Nat.lt_succ_of_lt (Nat.lt_succ_of_lt (hr9 p hp)))
  k_extra "m my_walkP"
  k_extra "m my_one"
  intro v8 l8 h8 tk8 hP8 F8 N8
  obtain ⟨oB, ⟨hv8, sB⟩, rfl⟩ := hP8
  (try dsimp only at N8)
  (try dsimp only)
  obtain ⟨xP, tP, rfl, pLo, pHi⟩ : ∃ x t, v8 = .int x t ∧ 0 ≤ x ∧ x < 256 := by
    simp only [List.mem_cons, List.not_mem_nil, or_false] at hv8
    rcases hv8 with rfl | rfl <;> exact ⟨_, _, rfl, by omega, by omega⟩
  clear hv8
  have N9 := News.tail N8
  clear N8
  k_extra "m my_walkP"
  k_extra "m my_one"
  intro v8 l8 h8 tk8 hP8 F8 N8
  obtain ⟨oC, ⟨hv8, sC⟩, rfl⟩ := hP8
  (try dsimp only at N8)
  (try dsimp only)
  obtain ⟨bO, tO, rfl, hbO, hbL⟩ : ∃ b t, v8 = .bytes b t ∧ (KBw.bInts b = KBw.bInts b) ∧ ((KBw.bInts b).length = 0 ∨ (KBw.bInts b).length = 4) := by
    simp only [List.mem_cons, List.not_mem_nil, or_false] at hv8
    rcases hv8 with rfl | rfl
    · exact ⟨_, _, rfl, rfl, .inl (by rfl)⟩
    · refine ⟨_, _, rfl, rfl, .inr ?_⟩
      rw [KBa.ints_make (by assumption)]; rfl
  clear hv8
  have hbO1 : ∀ k ∈ KBw.bInts bO, 0 ≤ k ∧ k < 256 := fun k hk => KBw.ints_in hk
  generalize hos : KBw.bInts bO = os at *
  clear hbO
  have NA := News.tail (News.tail (News.tail N8))
  clear N8
  k_extra "m my_walkP"
  (with_reducible rename News _ _ _ _ => NB)
  have NC := News.tail NB
  clear NB
  ((((k_extra "m my_fq"); k_dflt (refine' (Ctr.use (c_pview _ _ _ _ _ _ _ _ _ _ _ _ _ _ _ _ (by omega) (by omega) (by omega) (by omega) (by omega) (by omega) (by omega) (by omega) hb hos (by omega) (by omega))) ?z9k1 ?z9k2 ?z9k3 ?z9k4 ?z9k5 ?z9k6 ?z9k7 ?z9k8 ?_; (case z9k1 => k_asm); (case z9k2 => k_asm); (case z9k3 => k_asm); (case z9k4 => k_asm); (case z9k5 => k_asm); (case z9k6 => first | exact rfl | assumption); (case z9k7 => k_extra "m my_rm"); (case z9k8 => k_extra "m my_rm"))); k_whole))
  intro v8 l8 h8 tk8 hP8 F8 N8
  obtain ⟨⟨bW, tW, rfl, hbW⟩, rfl⟩ := hP8
  (try dsimp only)
  obtain ⟨wl, hbW2, hPk, hwl, hwlen⟩ := pk_of hbW hb (by omega) (by omega) (by omega) (by omega) pLo pHi (by omega) (by omega) hk0 hk1 hbL hbO1
  clear hbW
  k_extra "m my_walkP"
  (with_reducible rename News _ _ _ _ => NB)
  have NC := News.tail (News.tail NB)
  clear NB
  ((((k_extra "m my_fq"); k_dflt (refine' (Ctr.use (c_summed _ _ _ _ 10 _ _ (by assumption) (by k_extra "m my_len") (by decide) (by k_extra "m my_len"))) ?z9k1 ?z9k2 ?z9k3 ?z9k4 ?z9k5 ?z9k6 ?z9k7 ?z9k8 ?_; (case z9k1 => k_asm); (case z9k2 => k_asm); (case z9k3 => k_asm); (case z9k4 => k_asm); (case z9k5 => k_asm); (case z9k6 => first | exact rfl | assumption); (case z9k7 => k_extra "m my_rm"); (case z9k8 => k_extra "m my_rm"))); k_whole))
  intro v8 l8 h8 tk8 hP8 F8 N8
  obtain ⟨⟨bH, tH, rfl, hbH⟩, rfl⟩ := hP8
  (try dsimp only)
  have h69 : (69 + (os.length : Int) / 4) = 64 + (20 + (os.length : Int)) / 4 := by omega
  rw [h69] at hbH
  have hbWH : KBw.bInts bH ++ ks = wl := by rw [hbH]; exact hwl.symm
  clear hbH hwl
  generalize hhl : KBw.bInts bH = hl at *
  subst hbWH
  have hHl : hl.length = 20 + os.length := by rw [List.length_append] at hwlen; omega
  k_extra "m my_walkP"
  (with_reducible rename News _ _ _ _ => NB)
  refine' Ctr.use (c_viewok w _ _ _ _ hPk ?q1 ?q2) ?k1 ?k2 ?k3 ?k4 ?k5 ?k6 ?k7 ?k8 ?_
  case k1 => k_asm
  case k2 => k_asm
  case k3 => k_asm
  case k4 => k_asm
  case k5 => k_asm
  case k6 => first | exact rfl | assumption
  case q1 => assumption
  case q2 => omega
  case k7 => ((try dsimp only [ktrTop]); omega)
  case k8 => ((try dsimp only [ktrTop]); omega)
  k_whole
  intro v8 l8 h8 tk8 hP8 F8 N8
  obtain ⟨xV, rfl, ⟨t8, hlt8, rfl⟩, dV, u1, u2, u3, u4, u5, u6, u7, v1, v2, v3, v4, v5, v6, bV, bP, fV, a1, a2, a3, a4, rfl⟩ := hP8
  have ND := both_front2 a1 a2 N8
  clear N8 NB
  (try dsimp only)
  k_extra "m my_walkP"
  refine' ne_alike ?kN ?ka ?kb ?kA ?ku ?_
  case kN => k_asm
  case ka => exact .tail _ (.head _)
  case kb => exact .head _
  case kA => exact .cons (.int _ _ _) (.cons (.int _ _ _) (.cons (.int _ _ _) (.cons (.int _ _ _) (.cons (.bytes _ _ (a3.trans hos.symm)) .nil))))
  case ku => first | exact rm0 hun (Eq.refl true) | (with_unfolding_all exact rm0 hun (Eq.refl true)) | (show un + _ < cLine; exact rm0 hun (Eq.refl true)) | (dsimp (config := {zetaDelta := true}) only [ktrTop]; omega)
  k_extra "m my_walkP"
  (with_reducible rename News _ _ _ _ => NB)
  have NC := News.tail (News.tail (News.tail (News.tail NB)))
  clear NB
  (((k_extra "m my_fq"); k_dflt (refine' (Ctr.use (Ctr.upd (P := TurnP _) (fun r hr _ => c_turned _ _ _ _ _ r _ hr ?q1 ?q2 ?q3 ?q4) ?q6)) ?z9k1 ?z9k2 ?z9k3 ?z9k4 ?z9k5 ?z9k6 ?z9k7 ?z9k8 ?_; (case z9k1 => k_asm); (case z9k2 => k_asm); (case z9k3 => k_asm); (case z9k4 => k_asm); (case z9k5 => k_asm); (case z9k6 => first | exact rfl | assumption); (case z9k7 => k_extra "m my_rm"); (case z9k8 => k_extra "m my_rm"))))
  (case q6 => k_updF)
  (case q1 => assumption)
  (case q2 => k_extra "m my_len")
  (case q3 => k_extra "m my_len")
  (case q4 => assumption)
  k_whole
  intro v8 l8 h8 tk8 hP8 F8 N8
  obtain ⟨oT, ⟨⟨kT, dT, ⟨bT, tT, rfl, hbT⟩, kT0, kT1, dT0, dT1⟩, sT⟩, rfl⟩ := hP8
  (try dsimp only at N8)
  (try dsimp only)
  obtain ⟨tls, hbT2, hTe, hTl⟩ := bent_of (whole := hl ++ ks) hbT (by rw [hwlen]; omega) kT0 kT1
  clear hbT
  have kT2 : kT < 19 := by
    have := bent_of_len (whole := hl ++ ks) (by rw [hwlen]; omega)
    omega
  k_extra "m my_walkP"
  k_dflt (refine' kla_eval ?d0 ?_; (case d0 => eq_refl))
  (with_reducible rename Fr _ _ _ _ => FB)
  (with_reducible rename News _ _ _ _ => NB)
  have hq : TabL (Str.ofString "_law_packet_right.<locals>.<lambda>") cs ps := ht
  refine kla_any (pre := [(L1 + 1 + 1, _), (L1 + 1, _), (src, oT)] ++ more) (rest := cs) FB (tab_first NB) T1 (CB.keeps B1.stays) rfl ?hs hq rfl ?_
  case hs => exact ne_cons (by k_ne) (ne_cons (by k_ne) (ne_cons (by k_ne) hsep2))
  intro f2 c2 oc2 ps2 new2 ctv2 h2 tk2 F2 hnew2 N2 hm2 hc2 ht2 lf1 lf2
  dsimp only [List.cons_append, List.nil_append] at N2 lf2
  clear NB
  have hin : ∀ k ∈ hl ++ ks, 0 ≤ k ∧ k < 256 := fun k hk => KBw.ints_in (hbW2 ▸ hk)
  (with_reducible rename KBw.bInts _ = List.take _ _ ++ tls ++ List.drop _ _ => hbent)
  rw [hTe] at hbent
  k_extra "m my_walkP"
  (
  k_dflt (refine' CtrT.use (c_refused w f2 _ (.head _) ?hlam) ?z9k1 ?z9k2 ?z9k3 ?z9k4 ?z9k5 ?z9k6 ?z9k7 ?z9k8 ?z9kXB ?z9kTB ?_; (case z9k1 => k_asm); (case z9k2 => k_asm); (case z9k3 => k_asm); (case z9k4 => k_asm); (case z9k5 => k_asm); (case z9k6 => first | exact rfl | assumption); (case z9k7 => k_extra "m my_rm"); (case z9k8 => k_extra "m my_rm"); (case z9kXB => assumption); (case z9kTB => assumption)))
  case hlam =>
    intro mean2 mg2 mb2 dp2 un2 gd2 cn2 cs2 a2 ccd2 cl2 outer2 A₀2 base2 h₀2 L2 m2 s2 Q2 E2 B2 F22 X2 N22 T2 hk2 hdp2 hun2 hraise2
    k_extra "m my_lam"
    k_extra "m my_walkP"
    ((((k_extra "m my_fq"); k_dflt (refine' (CtrE.use (e_viewbent w _ _ kT dT _ hPk kT0 kT2 dT0 dT1 hbent hin)) ?z9k1 ?z9k2 ?z9k3 ?z9k4 ?z9k5 ?z9k6 ?z9k7 ?z9k8 ?_; (case z9k1 => k_asm); (case z9k2 => k_asm); (case z9k3 => k_asm); (case z9k4 => k_asm); (case z9k5 => k_asm); (case z9k6 => first | exact rfl | assumption); (case z9k7 => k_extra "m my_rm"); (case z9k8 => k_extra "m my_rm"))); k_whole))
    intro e5 h5 G5 tk5 F5 R5 U5
    k_extra "m my_passed"
    exact hraise2 _ _ _ _ (by assumption) (by assumption) (by assumption)
  k_whole
  intro v8 l8 h8 h08 tk8 hP8 T8 B8 F8 X8 N8 P8
  obtain ⟨rfl, rfl⟩ := hP8
  (try dsimp only)
  k_extra "m my_walkP"
  k_dflt (refine' kla_eval ?d0 ?_; (case d0 => eq_refl))
  (with_reducible rename Fr _ _ _ _ => FB)
  (with_reducible rename News _ _ _ _ => NB)
  refine kla_any (pre := [(L1 + 1 + 1, _), (L1 + 1, _), (src, oT)] ++ more) (rest := new2 ++ cs) FB (News.tail NB) P8 (CB.keeps B8.stays) rfl ?hs ht2 rfl ?_
  case hs => exact ne_cons (by k_ne) (ne_cons (by k_ne) (ne_cons (by k_ne) (show ∀ p ∈ more ++ (new2 ++ cs), p.1 ≠ 352 from ne_app (fun q hq => hsep2 q (List.mem_append_left _ hq)) (ne_app (fun q hq => Nat.ne_of_gt (hnew2 q hq).1) (fun q hq => hsep2 q (List.mem_append_right _ hq))))))
  intro f3 c3 oc3 ps3 new3 ctv3 h3 tk3 F3 hnew3 N3 hm3 hc3 ht3 lf3 lf4
  dsimp only [List.cons_append, List.nil_append] at N3 lf4
  clear NB
  k_extra "m my_walkP"
  (
  k_dflt (refine' CtrT.use (c_refused w f3 _ (.head _) ?hlam) ?z9k1 ?z9k2 ?z9k3 ?z9k4 ?z9k5 ?z9k6 ?z9k7 ?z9k8 ?z9kXB ?z9kTB ?_; (case z9k1 => k_asm); (case z9k2 => k_asm); (case z9k3 => k_asm); (case z9k4 => k_asm); (case z9k5 => k_asm); (case z9k6 => first | exact rfl | assumption); (case z9k7 => k_extra "m my_rm"); (case z9k8 => k_extra "m my_rm"); (case z9kXB => assumption); (case z9kTB => assumption)))
  case hlam =>
    intro mean2 mg2 mb2 dp2 un2 gd2 cn2 cs2 a2 ccd2 cl2 outer2 A₀2 base2 h₀2 L2 m2 s2 Q2 E2 B2 F22 X2 N22 T2 hk2 hdp2 hun2 hraise2
    k_extra "m my_lam"
    k_extra "m my_walkP"
    ((((k_extra "m my_fq"); k_dflt (refine' (CtrE.use (e_viewshort w _ _ _ hPk (by assumption))) ?z9k1 ?z9k2 ?z9k3 ?z9k4 ?z9k5 ?z9k6 ?z9k7 ?z9k8 ?_; (case z9k1 => k_asm); (case z9k2 => k_asm); (case z9k3 => k_asm); (case z9k4 => k_asm); (case z9k5 => k_asm); (case z9k6 => first | exact rfl | assumption); (case z9k7 => k_extra "m my_rm"); (case z9k8 => k_extra "m my_rm"))); k_whole))
    intro e5 h5 G5 tk5 F5 R5 U5
    k_extra "m my_passed"
    exact hraise2 _ _ _ _ (by assumption) (by assumption) (by assumption)
  k_whole
  intro v9 l9 h9 h09 tk9 hP9 T9 B9 F9 X9 N9 P9
  obtain ⟨rfl, rfl⟩ := hP9
  (try dsimp only)
  k_extra "m my_walkP"
  (with_reducible rename Fr _ _ _ _ => FC)
  (with_reducible rename News _ _ _ _ => NC)
  refine ⟨_, L1, _, _, T8.trans T9, FC, NC, ?_⟩
  intro h7 T7 F7 N7 B7 X7 P7
  exact hret _ _ _ _ _ ⟨rfl, oT, ps3, new3 ++ new2, sT, by rw [List.append_assoc]; exact ht3, packet_new hnew3 hnew2, rfl⟩ T7 B7 F7 X7 (packet_led N7) P7
end

section
theorem CtrS.use {w : World} {D U : Nat} {f : Value} {args : List Value} {H : Heap → Prop} {led : List (Addr × Obj)} {P : Value → List (Addr × Obj) → Prop} (C : CtrS w D U f args H led P)
    {mean : ExcName → Option Value} {mg mb : Str → Option Value} {dp un : Nat} {gd : Option (List Code)} {cn : Str} {cs : Scope} {a : Addr} {ccd : Value} {cl : List (Str × Addr)} {outer : List Env} {A₀ : Around} {base h₀ : Heap} {L : Addr} {m : Str → Option Value} {s : Shared} {Q E : Value → Shared → Prop}
    (hH : H h₀) (B : Below A₀ base outer h₀) (F : Fr h₀ L s.heap m) (X : (kay.heap_1 w.params).In h₀) (N : News h₀ L s.heap led) (T : Top topProg lo mean mg mb h₀) (hk : cs.kind = .function) (hdp : dp + D < recursionLimit) (hun : un + U < cLine)
    (h : ∀ (v : Value) (led' : List (Addr × Obj)) (h' : Heap) (tk' : Nat), P v led' → Fr h₀ L h' m → News h₀ L h' led' → Q v { s with heap := h', toks := tk' }) :
    wpAny (model pw w) (ktrTop dp un gd cn cs L a ccd cl outer) (call f args) Q E s := C _ _ _ _ _ _ _ _ _ _ _ _ _ _ _ _ _ _ _ _ hH B F X N T hk hdp hun h
theorem CtrTC.use {w : World} {cd tb : Addr} {D U : Nat} {f : Value} {args : List Value} {led : List (Addr × Obj)} {P : Value → List (Addr × Obj) → Prop} (C : CtrTC w cd tb D U f args led P)
    {mean : ExcName → Option Value} {mg mb : Str → Option Value} {dp un : Nat} {gd : Option (List Code)} {cn : Str} {cs : Scope} {a : Addr} {ccd : Value} {cl : List (Str × Addr)} {outer : List Env} {A₀ : Around} {base h₀ : Heap} {L : Addr} {m : Str → Option Value} {s : Shared} {Q E : Value → Shared → Prop}
    (hH : CodeHd base cd tb) (B : Below A₀ base outer h₀) (F : Fr h₀ L s.heap m) (X : (kay.heap_1 w.params).In h₀) (N : News h₀ L s.heap led) (T : Top topProg lo mean mg mb h₀) (hk : cs.kind = .function) (hdp : dp + D < recursionLimit) (hun : un + U < cLine)
    (XB : (kay.heap_1 w.params).In base) (TB : Top topProg lo mean mg mb base)
    (h : ∀ (v : Value) (led' : List (Addr × Obj)) (h' h₀' : Heap) (tk' : Nat), P v led' → KtsTurn (outer.filterMap (·.frame)) h₀ h₀' → Below A₀ base outer h₀' → Fr h₀' L h' m → (kay.heap_1 w.params).In h₀' → News h₀' L h' led' → Top topProg lo mean mg mb h₀' → Q v { s with heap := h', toks := tk' }) :
    wpAny (model pw w) (ktrTop dp un gd cn cs L a ccd cl outer) (call f args) Q E s := C _ _ _ _ _ _ _ _ _ _ _ _ _ _ _ _ _ _ _ _ hH B F X N T hk hdp hun XB TB h
/-- an object that a message may be made of -/
def Plain (o : Obj) : Prop := (∀ v, o.data ≠ .cell v) ∧ (o.cls = .ref 182 ∨ o.cls = .ref 153 ∨ o.cls = .type "dict" ∨ o.cls = .type "tuple")
theorem TupIn.keep {w : World} {l l' : List (Addr × Obj)} {T : Addr} {vs : List Value} (h : TupIn w l T vs) (hs : ∀ p ∈ l, Plain p.2 → p ∈ l') : TupIn w l' T vs := by
  obtain ⟨n, c⟩ := h
  exact ⟨n, c.imp (fun c => hs _ c ⟨fun v => nofun, .inr (.inr (.inr rfl))⟩) id⟩
theorem IsRec.keep {w : World} {l l' : List (Addr × Obj)} {x : Addr} {k g : Int} {ns : List Int} (h : IsRec w l x k g ns) (hs : ∀ p ∈ l, Plain p.2 → p ∈ l') : IsRec w l' x k g ns := by
  obtain ⟨d, T, vs, u1, u2, u3, t1, t2, a, b, c, e⟩ := h
  exact ⟨d, T, vs, u1, u2, u3, t1, t2, hs _ a ⟨fun v => nofun, .inr (.inl rfl)⟩, hs _ b ⟨fun v => nofun, .inr (.inr (.inl rfl))⟩, c.keep hs, e⟩
theorem RecsAre.keep {w : World} {l l' : List (Addr × Obj)} {vs : List Value} {rs : List (Int × Int × List Int)} (h : RecsAre w l vs rs) (hs : ∀ p ∈ l, Plain p.2 → p ∈ l') : RecsAre w l' vs rs := by
  induction h with
  | nil => exact .nil
  | cons a _ ih => exact .cons (a.keep hs) ih
theorem IsMsg.keep {w : World} {l l' : List (Addr × Obj)} {x : Addr} {kind : Str} {g wait : Int} {ns : List Int} {ver : Int} {rs : List (Int × Int × List Int)} (h : IsMsg w l x kind g wait ns ver rs) (hs : ∀ p ∈ l, Plain p.2 → p ∈ l') : IsMsg w l' x kind g wait ns ver rs := by
  obtain ⟨d, T, R, vs, rv, u1, u2, u3, u4, u5, u6, t1, t2, t3, t4, a, b, c, e, f, i⟩ := h
  exact ⟨d, T, R, vs, rv, u1, u2, u3, u4, u5, u6, t1, t2, t3, t4, hs _ a ⟨fun v => nofun, .inl rfl⟩, hs _ b ⟨fun v => nofun, .inr (.inr (.inl rfl))⟩, c.keep hs, e, f.keep hs, i.keep hs⟩
theorem plain_cls {o : Obj} (h0 : o.cls ≠ .ref 182) (h1 : o.cls ≠ .ref 153) (h2 : o.cls ≠ .type "dict") (h3 : o.cls ≠ .type "tuple") : ¬ Plain o := fun p => by
  rcases p.2 with h | h | h | h
  · exact h0 h
  · exact h1 h
  · exact h2 h
  · exact h3 h
theorem law_keep {w : World} {tl cs : List (Addr × Obj)} {I a b t u : Addr} {oI o1 o2 : Obj} {v1 v2 : Option Value} {ps qs : Array Value} {x : Addr} {kind : Str} {g wait : Int} {ns : List Int} {ver : Int} {rs : List (Int × Int × List Int)}
    (h : IsMsg w (tl ++ (I, oI) :: (a, o1) :: (b, o2) :: (t, tabObj ps) :: (u, tabObj qs) :: cs) x kind g wait ns ver rs) (hI : oI.cls = .type "range_iterator") (h1 : o1.data = .cell v1) (h2 : o2.data = .cell v2) : IsMsg w (tl ++ cs) x kind g wait ns ver rs :=
  h.keep fun p hp hpl => by
    rcases List.mem_append.mp hp with hp | hp
    · exact List.mem_append_left _ hp
    rcases List.mem_cons.mp hp with rfl | hp
    · exact absurd hpl (plain_cls (by rw [hI]; decide) (by rw [hI]; decide) (by rw [hI]; decide) (by rw [hI]; decide))
    rcases List.mem_cons.mp hp with rfl | hp
    · exact absurd h1 (hpl.1 _)
    rcases List.mem_cons.mp hp with rfl | hp
    · exact absurd h2 (hpl.1 _)
    rcases List.mem_cons.mp hp with rfl | hp
    · exact absurd hpl (plain_cls (show Value.none ≠ _ by decide) (show Value.none ≠ _ by decide) (show Value.none ≠ _ by decide) (show Value.none ≠ _ by decide))
    rcases List.mem_cons.mp hp with rfl | hp
    · exact absurd hpl (plain_cls (show Value.none ≠ _ by decide) (show Value.none ≠ _ by decide) (show Value.none ≠ _ by decide) (show Value.none ≠ _ by decide))
    exact List.mem_append_right _ hp
theorem law_led {g0 h : Heap} {L : Addr} {tl cs : List (Addr × Obj)} {d s i a b t u : Addr × Obj} (N : News g0 L h (tl ++ s :: i :: a :: b :: t :: u :: cs)) (hd : d ∈ tl) : News g0 L h (d :: a :: b :: s :: t :: u :: i :: (tl ++ cs)) := fun p hp => by
  have k : p = d ∨ p = a ∨ p = b ∨ p = s ∨ p = t ∨ p = u ∨ p = i ∨ p ∈ tl ∨ p ∈ cs := by simpa using hp
  refine N p ?_
  have : p ∈ tl ∨ p = s ∨ p = i ∨ p = a ∨ p = b ∨ p = t ∨ p = u ∨ p ∈ cs := by
    rcases k with rfl | k
    · exact .inl hd
    · rcases k with k | k | k | k | k | k | k | k <;> simp [k]
  simpa using this
theorem told_front {g0 h : Heap} {L : Addr} {t3 t2 xs : List (Addr × Obj)} {x d a b s t u i p q : Addr × Obj} (hp : p ∈ xs) (hq : q ∈ xs) (N : News g0 L h (t3 ++ x :: d :: (t2 ++ a :: b :: s :: t :: u :: i :: xs))) :
    News g0 L h (p :: q :: (t3 ++ x :: d :: (t2 ++ a :: b :: s :: t :: u :: i :: xs))) := both_front
  (List.mem_append_right _ (.tail _ (.tail _ (List.mem_append_right _ (.tail _ (.tail _ (.tail _ (.tail _ (.tail _ (.tail _ hp))))))))))
  (List.mem_append_right _ (.tail _ (.tail _ (List.mem_append_right _ (.tail _ (.tail _ (.tail _ (.tail _ (.tail _ (.tail _ hq)))))))))) N
theorem told_sub {t3 t2 xs : List (Addr × Obj)} {x d a b s t u i p q y : Addr × Obj} (hp : y ∈ xs) : y ∈ p :: q :: (t3 ++ x :: d :: (t2 ++ a :: b :: s :: t :: u :: i :: xs)) :=
  .tail _ (.tail _ (List.mem_append_right _ (.tail _ (.tail _ (List.mem_append_right _ (.tail _ (.tail _ (.tail _ (.tail _ (.tail _ (.tail _ hp)))))))))))
theorem told_drop {g0 h : Heap} {L : Addr} {t5 t3 t2 xs : List (Addr × Obj)} {x d a b s t u i p q : Addr × Obj} (N : News g0 L h (t5 ++ p :: q :: (t3 ++ x :: d :: (t2 ++ a :: b :: s :: t :: u :: i :: xs)))) : News g0 L h (a :: b :: s :: t :: u :: i :: xs) := fun y hy =>
  N y (List.mem_append_right _ (.tail _ (.tail _ (List.mem_append_right _ (.tail _ (.tail _ (List.mem_append_right _ hy)))))))
theorem law_tab {g h : Heap} {L : Addr} {l : List (Addr × Obj)} {a b c d e f : Addr × Obj} (N : News g L h (a :: b :: c :: d :: e :: f :: l)) : News g L h (e :: ([a, b, c, d, f] ++ l)) := fun p hp => by
  have k : p = e ∨ p = a ∨ p = b ∨ p = c ∨ p = d ∨ p = f ∨ p ∈ l := by simpa using hp
  refine N p ?_
  have : p = a ∨ p = b ∨ p = c ∨ p = d ∨ p = e ∨ p = f ∨ p ∈ l := by
    rcases k with k | k | k | k | k | k | k <;> simp [k]
  simpa using this
theorem law_pk {g h : Heap} {L : Addr} {l : List (Addr × Obj)} {a b s t u i : Addr × Obj} (N : News g L h (u :: a :: b :: s :: t :: i :: l)) : News g L h (s :: t :: ([a, b, u, i] ++ l)) := fun p hp => by
  have k : p = s ∨ p = t ∨ p = a ∨ p = b ∨ p = u ∨ p = i ∨ p ∈ l := by simpa using hp
  refine N p ?_
  have : p = u ∨ p = a ∨ p = b ∨ p = s ∨ p = t ∨ p = i ∨ p ∈ l := by
    rcases k with k | k | k | k | k | k | k <;> simp [k]
  simpa using this
theorem law_back {g h : Heap} {L : Addr} {l : List (Addr × Obj)} {a b s t u i : Addr × Obj} (N : News g L h (s :: t :: ([a, b, u, i] ++ l))) : News g L h (s :: a :: b :: t :: u :: i :: l) := fun p hp => by
  have k : p = s ∨ p = a ∨ p = b ∨ p = t ∨ p = u ∨ p = i ∨ p ∈ l := by simpa using hp
  refine N p ?_
  have : p = s ∨ p = t ∨ p = a ∨ p = b ∨ p = u ∨ p = i ∨ p ∈ l := by
    rcases k with k | k | k | k | k | k | k <;> simp [k]
  simpa using this
theorem law_low {P : Nat} {a b c d e : Addr × Obj} {n3 n2 xs : List (Addr × Obj)} (h3 : ∀ q ∈ n3, P < q.1 ∧ ∀ r ∈ [a, b, c, d, e] ++ (n2 ++ xs), @LT.lt Nat _ r.1 q.1) (h2 : ∀ q ∈ n2, P < q.1 ∧ ∀ r ∈ [a, b, c, d, e] ++ xs, @LT.lt Nat _ r.1 q.1) (hx : ∀ p ∈ xs, @LT.lt Nat _ a.1 p.1) : ∀ p ∈ n3 ++ (n2 ++ xs), @LT.lt Nat _ a.1 p.1 := fun p hp => by
  rcases List.mem_append.mp hp with hp | hp
  · exact (h3 p hp).2 a (.head _)
  · rcases List.mem_append.mp hp with hp | hp
    · exact (h2 p hp).2 a (.head _)
    · exact hx p hp
theorem law_nes {P : Nat} {a b c d e : Addr × Obj} {n3 n2 xs : List (Addr × Obj)} (h3 : ∀ q ∈ n3, P < q.1 ∧ ∀ r ∈ [a, b, c, d, e] ++ (n2 ++ xs), @LT.lt Nat _ r.1 q.1) (h2 : ∀ q ∈ n2, P < q.1 ∧ ∀ r ∈ [a, b, c, d, e] ++ xs, @LT.lt Nat _ r.1 q.1) (hx : ∀ p ∈ xs, p.1 ≠ c.1) : ∀ p ∈ n3 ++ (n2 ++ xs), p.1 ≠ c.1 :=
  ne_app (fun p hp => Nat.ne_of_gt ((h3 p hp).2 c (.tail _ (.tail _ (.head _))))) (ne_app (fun p hp => Nat.ne_of_gt ((h2 p hp).2 c (.tail _ (.tail _ (.head _))))) hx)
theorem law_neI {P : Nat} {a b c d e : Addr × Obj} {n3 n2 xs : List (Addr × Obj)} (h3 : ∀ q ∈ n3, P < q.1 ∧ ∀ r ∈ [a, b, c, d, e] ++ (n2 ++ xs), @LT.lt Nat _ r.1 q.1) (h2 : ∀ q ∈ n2, P < q.1 ∧ ∀ r ∈ [a, b, c, d, e] ++ xs, @LT.lt Nat _ r.1 q.1) (hx : ∀ p ∈ xs, p.1 ≠ e.1) : ∀ p ∈ n3 ++ (n2 ++ xs), p.1 ≠ e.1 :=
  ne_app (fun p hp => Nat.ne_of_gt ((h3 p hp).2 e (.tail _ (.tail _ (.tail _ (.tail _ (.head _))))))) (ne_app (fun p hp => Nat.ne_of_gt ((h2 p hp).2 e (.tail _ (.tail _ (.tail _ (.tail _ (.head _))))))) hx)
theorem pk_sep {g h : Heap} {L : Addr} {l : List (Addr × Obj)} {s t a b u i : Addr × Obj} {x : Addr} (_N : News g L h (s :: t :: ([a, b, u, i] ++ l))) (h1 : a.1 ≠ x) (h2 : b.1 ≠ x) (h3 : u.1 ≠ x) (h4 : i.1 ≠ x) (h5 : ∀ p ∈ l, p.1 ≠ x) : ∀ p ∈ [a, b, u, i] ++ l, p.1 ≠ x :=
  ne_cons h1 (ne_cons h2 (ne_cons h3 (ne_cons h4 h5)))
theorem pk_more {g h : Heap} {L : Addr} {l : List (Addr × Obj)} {s t a b u i : Addr × Obj} (N : News g L h (s :: t :: ([a, b, u, i] ++ l))) : ∃ more, more = [a, b, u, i] ∧ News g L h (s :: t :: (more ++ l)) := ⟨_, rfl, N⟩
theorem law_endsub {s a b t u i p : Addr × Obj} {zs : List (Addr × Obj)} (h : p ∈ i :: a :: b :: t :: u :: zs) : p ∈ s :: a :: b :: t :: u :: i :: zs := by
  have k : p = i ∨ p = a ∨ p = b ∨ p = t ∨ p = u ∨ p ∈ zs := by simpa using h
  have : p = s ∨ p = a ∨ p = b ∨ p = t ∨ p = u ∨ p = i ∨ p ∈ zs := by
    rcases k with k | k | k | k | k | k <;> simp [k]
  simpa using this
/-- behind a call that made a message: the table, then all the rest -/
theorem odd0 {w : World} {g h : Heap} {L u x : Addr} {q : Str} {t xs : List (Addr × Obj)} {ps : Array Value} {qs : List Value} {kind : Str} {gr wait ver : Int} {ns : List Int} {rs : List (Int × Int × List Int)}
    (N : News g L h (t ++ (u, tabObj ps) :: xs)) (hM : IsMsg w (t ++ (u, tabObj ps) :: xs) x kind gr wait ns ver rs) (hq : TabL q xs qs) (hx : ∀ p ∈ xs, p.1 ≠ u) (ht : ∀ q ∈ (u, tabObj ps) :: xs, ∀ p ∈ t, @LT.lt Nat _ q.1 p.1) :
    ∃ ys, (∀ p ∈ xs, p ∈ ys) ∧ News g L h ((u, tabObj ps) :: ys) ∧ IsMsg w ys x kind gr wait ns ver rs ∧ (∀ p ∈ ys, p.1 ≠ u) ∧ TabL q ys qs := by
  refine ⟨t ++ xs, fun p hp => List.mem_append_right _ hp, fun p hp => ?_, hM.keep fun p hp hpl => ?_, fun p hp => ?_, hq.mono fun p hp => List.mem_append_right _ hp⟩
  · rcases List.mem_cons.mp hp with rfl | hp
    · exact N _ (List.mem_append_right _ (.head _))
    · rcases List.mem_append.mp hp with hp | hp
      · exact N _ (List.mem_append_left _ hp)
      · exact N _ (List.mem_append_right _ (.tail _ hp))
  · rcases List.mem_append.mp hp with hp | hp
    · exact List.mem_append_left _ hp
    · rcases List.mem_cons.mp hp with rfl | hp
      · exact absurd hpl (plain_cls (show Value.none ≠ _ by decide) (show Value.none ≠ _ by decide) (show Value.none ≠ _ by decide) (show Value.none ≠ _ by decide))
      · exact List.mem_append_right _ hp
  · rcases List.mem_append.mp hp with hp | hp
    · exact Nat.ne_of_gt (ht _ (.head _) p hp)
    · exact hx p hp
theorem oddA {w : World} {g h : Heap} {L u x D : Addr} {oD : Obj} {q : Str} {t xs : List (Addr × Obj)} {ps : Array Value} {qs : List Value} {kind : Str} {gr wait ver : Int} {ns : List Int} {rs : List (Int × Int × List Int)}
    (N : News g L h (t ++ (D, oD) :: (u, tabObj ps) :: xs)) (hM : IsMsg w (t ++ (D, oD) :: (u, tabObj ps) :: xs) x kind gr wait ns ver rs) (hq : TabL q xs qs) (hx : ∀ p ∈ xs, p.1 ≠ u) (ht : ∀ q ∈ (D, oD) :: (u, tabObj ps) :: xs, ∀ p ∈ t, @LT.lt Nat _ q.1 p.1) (hD : @LT.lt Nat _ u D ∧ AllLt D xs) :
    ∃ ys, (∀ p ∈ xs, p ∈ ys) ∧ News g L h ((u, tabObj ps) :: ys) ∧ IsMsg w ys x kind gr wait ns ver rs ∧ (∀ p ∈ ys, p.1 ≠ u) ∧ TabL q ys qs := by
  have e : t ++ (D, oD) :: (u, tabObj ps) :: xs = (t ++ [(D, oD)]) ++ (u, tabObj ps) :: xs := by simp
  rw [e] at N hM
  refine odd0 N hM hq hx fun r hr p hp => ?_
  rcases List.mem_append.mp hp with hp | hp
  · exact ht r (.tail _ hr) p hp
  · rw [List.mem_singleton.mp hp]
    rcases List.mem_cons.mp hr with rfl | hr
    · exact hD.1
    · exact allLt_mem _ hD.2 r hr
theorem oddL {g h : Heap} {L u D : Addr} {oD : Obj} {q : Str} {xs : List (Addr × Obj)} {ps : Array Value} {qs : List Value}
    (N : News g L h ((D, oD) :: (u, tabObj ps) :: xs)) (hq : TabL q xs qs) (hx : ∀ p ∈ xs, p.1 ≠ u) (hD : @LT.lt Nat _ u D ∧ AllLt D xs) :
    ∃ ys, (∀ p ∈ xs, p ∈ ys) ∧ (D, oD) ∈ ys ∧ News g L h ((u, tabObj ps) :: ys) ∧ (∀ p ∈ ys, p.1 ≠ u) ∧ TabL q ys qs := by
  refine ⟨(D, oD) :: xs, fun p hp => .tail _ hp, .head _, fun p hp => ?_, fun p hp => ?_, hq.mono fun p hp => .tail _ hp⟩
  · rcases List.mem_cons.mp hp with rfl | hp
    · exact N _ (.tail _ (.head _))
    · rcases List.mem_cons.mp hp with rfl | hp
      · exact N _ (.head _)
      · exact N _ (.tail _ (.tail _ hp))
  · rcases List.mem_cons.mp hp with rfl | hp
    · exact Nat.ne_of_gt hD.1
    · exact hx p hp
theorem odd_front {g h : Heap} {L : Addr} {d u : Addr × Obj} {xs : List (Addr × Obj)} (hd : d ∈ xs) (N : News g L h (u :: xs)) : News g L h (d :: u :: xs) := fun p hp => by
  rcases List.mem_cons.mp hp with rfl | hp
  · exact N _ (.tail _ hd)
  · exact N _ hp
theorem odd3 {g h : Heap} {L D : Addr} {oD : Obj} {a b u : Addr × Obj} {xs : List (Addr × Obj)} (N : News g L h ((D, oD) :: a :: b :: u :: xs)) (hD : @LT.lt Nat _ a.1 D ∧ @LT.lt Nat _ b.1 D ∧ @LT.lt Nat _ u.1 D ∧ AllLt D xs) :
    News g L h ((D, oD) :: u :: xs) ∧ @LT.lt Nat _ u.1 D ∧ (∀ p ∈ xs, p.1 ≠ D) := by
  refine ⟨fun p hp => ?_, hD.2.2.1, fun p hp => Nat.ne_of_lt (allLt_mem _ hD.2.2.2 p hp)⟩
  rcases List.mem_cons.mp hp with rfl | hp
  · exact N _ (.head _)
  · exact N _ (.tail _ (.tail _ (.tail _ hp)))
theorem not_plain_tab {u : Addr} {ps : Array Value} : ¬ Plain (u, tabObj ps).2 := plain_cls (show Value.none ≠ _ by decide) (show Value.none ≠ _ by decide) (show Value.none ≠ _ by decide) (show Value.none ≠ _ by decide)
theorem not_plain_list {u : Addr} {vs : Array Value} {n : Nat} : ¬ Plain (u, PySem.W.listOf vs n).2 := plain_cls (show Value.type "list" ≠ _ by decide) (show Value.type "list" ≠ _ by decide) (show Value.type "list" ≠ _ by decide) (show Value.type "list" ≠ _ by decide)
theorem oddR {w : World} {g h : Heap} {L u x D : Addr} {oe : Addr × Obj} {q : Str} {t xs : List (Addr × Obj)} {vs : Array Value} {n : Nat} {ps : Array Value} {qs : List Value} {k gr : Int} {ns : List Int}
    (N : News g L h (t ++ oe :: (D, PySem.W.listOf vs n) :: (u, tabObj ps) :: xs)) (hM : IsRec w (t ++ oe :: (D, PySem.W.listOf vs n) :: (u, tabObj ps) :: xs) x k gr ns) (hq : TabL q xs qs) (hx : ∀ p ∈ xs, p.1 ≠ u) (hxD : ∀ p ∈ xs, p.1 ≠ D)
    (ht : ∀ q ∈ oe :: (D, PySem.W.listOf vs n) :: (u, tabObj ps) :: xs, ∀ p ∈ t, @LT.lt Nat _ q.1 p.1) (he : @LT.lt Nat _ D oe.1 ∧ @LT.lt Nat _ u oe.1 ∧ AllLt oe.1 xs) :
    ∃ ys, (∀ p ∈ xs, p ∈ ys) ∧ oe ∈ ys ∧ News g L h ((D, PySem.W.listOf vs n) :: (u, tabObj ps) :: ys) ∧ IsRec w ys x k gr ns ∧ (∀ p ∈ ys, p.1 ≠ u) ∧ (∀ p ∈ ys, p.1 ≠ D) ∧ TabL q ys qs := by
  refine ⟨t ++ oe :: xs, fun p hp => List.mem_append_right _ (.tail _ hp), List.mem_append_right _ (.head _), fun p hp => ?_, hM.keep fun p hp hpl => ?_, fun p hp => ?_, fun p hp => ?_, hq.mono fun p hp => List.mem_append_right _ (.tail _ hp)⟩
  · rcases List.mem_cons.mp hp with rfl | hp
    · exact N _ (List.mem_append_right _ (.tail _ (.head _)))
    · rcases List.mem_cons.mp hp with rfl | hp
      · exact N _ (List.mem_append_right _ (.tail _ (.tail _ (.head _))))
      · rcases List.mem_append.mp hp with hp | hp
        · exact N _ (List.mem_append_left _ hp)
        · rcases List.mem_cons.mp hp with rfl | hp
          · exact N _ (List.mem_append_right _ (.head _))
          · exact N _ (List.mem_append_right _ (.tail _ (.tail _ (.tail _ hp))))
  · rcases List.mem_append.mp hp with hp | hp
    · exact List.mem_append_left _ hp
    · rcases List.mem_cons.mp hp with rfl | hp
      · exact List.mem_append_right _ (.head _)
      · rcases List.mem_cons.mp hp with rfl | hp
        · exact absurd hpl not_plain_list
        · rcases List.mem_cons.mp hp with rfl | hp
          · exact absurd hpl not_plain_tab
          · exact List.mem_append_right _ (.tail _ hp)
  · rcases List.mem_append.mp hp with hp | hp
    · exact Nat.ne_of_gt (ht _ (.tail _ (.tail _ (.head _))) p hp)
    · rcases List.mem_cons.mp hp with rfl | hp
      · exact Nat.ne_of_gt he.2.1
      · exact hx p hp
  · rcases List.mem_append.mp hp with hp | hp
    · exact Nat.ne_of_gt (ht _ (.tail _ (.head _)) p hp)
    · rcases List.mem_cons.mp hp with rfl | hp
      · exact Nat.ne_of_gt he.1
      · exact hxD p hp
theorem oddG {w : World} {g h : Heap} {L u x D D5 : Addr} {q : Str} {t xs : List (Addr × Obj)} {vs vs5 : Array Value} {n n5 : Nat} {ps : Array Value} {qs : List Value} {kind : Str} {gr wait ver : Int} {ns : List Int} {rs : List (Int × Int × List Int)}
    (N : News g L h (t ++ (D5, PySem.W.listOf vs5 n5) :: (D, PySem.W.listOf vs n) :: (u, tabObj ps) :: xs)) (hM : IsMsg w (t ++ (D5, PySem.W.listOf vs5 n5) :: (D, PySem.W.listOf vs n) :: (u, tabObj ps) :: xs) x kind gr wait ns ver rs) (hq : TabL q xs qs) (hx : ∀ p ∈ xs, p.1 ≠ u) (hxD : ∀ p ∈ xs, p.1 ≠ D)
    (ht : ∀ q ∈ (D5, PySem.W.listOf vs5 n5) :: (D, PySem.W.listOf vs n) :: (u, tabObj ps) :: xs, ∀ p ∈ t, @LT.lt Nat _ q.1 p.1) :
    ∃ ys, (∀ p ∈ xs, p ∈ ys) ∧ News g L h ((D, PySem.W.listOf vs n) :: (u, tabObj ps) :: ys) ∧ IsMsg w ys x kind gr wait ns ver rs ∧ (∀ p ∈ ys, p.1 ≠ u) ∧ (∀ p ∈ ys, p.1 ≠ D) ∧ TabL q ys qs := by
  refine ⟨t ++ xs, fun p hp => List.mem_append_right _ hp, fun p hp => ?_, hM.keep fun p hp hpl => ?_, fun p hp => ?_, fun p hp => ?_, hq.mono fun p hp => List.mem_append_right _ hp⟩
  · rcases List.mem_cons.mp hp with rfl | hp
    · exact N _ (List.mem_append_right _ (.tail _ (.head _)))
    · rcases List.mem_cons.mp hp with rfl | hp
      · exact N _ (List.mem_append_right _ (.tail _ (.tail _ (.head _))))
      · rcases List.mem_append.mp hp with hp | hp
        · exact N _ (List.mem_append_left _ hp)
        · exact N _ (List.mem_append_right _ (.tail _ (.tail _ (.tail _ hp))))
  · rcases List.mem_append.mp hp with hp | hp
    · exact List.mem_append_left _ hp
    · rcases List.mem_cons.mp hp with rfl | hp
      · exact absurd hpl not_plain_list
      · rcases List.mem_cons.mp hp with rfl | hp
        · exact absurd hpl not_plain_list
        · rcases List.mem_cons.mp hp with rfl | hp
          · exact absurd hpl not_plain_tab
          · exact List.mem_append_right _ hp
  · rcases List.mem_append.mp hp with hp | hp
    · exact Nat.ne_of_gt (ht _ (.tail _ (.tail _ (.head _))) p hp)
    · exact hx p hp
  · rcases List.mem_append.mp hp with hp | hp
    · exact Nat.ne_of_gt (ht _ (.tail _ (.head _)) p hp)
    · exact hxD p hp
end

section
section
variable {M : Model} {A : Around} {E : Value → Shared → Prop} {s : Shared} {h₀ : Heap} {L c P : Addr} {m mg mb : Str → Option Value} {env : Env}
  {p : Program} {loose : List Str} {mean : ExcName → Option Value} {name qual : Str} {params : Arguments} {body : Expr} {scope : Scope} {ps : List Value} {pos : Pos} {firstLine : Nat} {clos : List (Str × Addr)}
/-- a lambda made in any environment whose code has the table P: made, or found -/
theorem kla_anyE {Q : Value → Shared → Prop} {news rest : List (Addr × Obj)} (F : Fr h₀ L s.heap m) (N : News h₀ L s.heap ((P, tabObj ps.toArray) :: news)) (T : Top p loose mean mg mb h₀) (C : CodeHd h₀ c P) (hge : env.globals = mainGlobals) (hcd : env.code = .ref c) (hsep : ∀ q ∈ news, q.1 ≠ P) (ht : TabL qual rest ps)
    (hcl : closureFor scope env = pure clos)
    (h : ∀ f c' oc ps' new ctv h' tk, Fr h₀ L h' m → (∀ q ∈ new, P < q.1 ∧ ∀ r ∈ news, r.1 < q.1) →
      News h₀ L h' ((f, kla_obj name qual params body scope clos ((mg "__name__").getD .none) c' ctv) :: (P, tabObj ps'.toArray) :: (new ++ news)) →
      (c', oc) ∈ new ++ rest → CodeOk qual oc → TabL qual (new ++ rest) ps' → P < f → (∀ r ∈ new ++ news, r.1 < f) → Q (.ref f) { s with heap := h', toks := tk }) :
    wpAny M A (makeFunction name qual params (.expr body) scope env [] [] [] pos firstLine) Q E s := by
  have hm := N (P, tabObj ps.toArray) (.head _)
  dsimp only at hm
  have hgs := T.g.keeps F.keep
  obtain ⟨bm, ob, b1, b2, b3, b4, b5, b6⟩ := T.bmain
  have hgP : mainGlobals ≠ P := fun q => by
    obtain ⟨o, es, ep, e, hd, _⟩ := hgs
    rw [q, hm.1] at e; cases e; cases hd
  have hbP : bm ≠ P := fun q => by
    have e := F.keep _ _ b3
    rw [q, hm.1] at e; cases e; cases b4
  have hbG : bm ≠ mainGlobals := fun q => by
    obtain ⟨o, es, ep, e, hd, _⟩ := T.g
    rw [q, e] at b3; cases b3; rw [hd] at b6; cases b6
  have hL : L < s.heap.objs.size := F.ns.lt
  have fresh : ∀ b, L < b → h₀.get? b = none := fun b hb => Heap.get?_none_of_le (Nat.le_trans F.above (Nat.le_of_lt hb))
  have low : ∀ q ∈ (P, tabObj ps.toArray) :: news, q.1 < s.heap.objs.size := fun q hq => Heap.lt_size (N q hq).1
  rcases ht.among pos with hn | ⟨c', oc, hf, hmem, hc⟩
  · refine kla_makeFunction (mg := mg) hcl hge hgs hcd (C.keeps F.keep) hm.1 ht.triples hn hgP ⟨bm, ob, b1, b2, hbG, hbP, F.keep _ _ b3, b4, b5, b6⟩ fun c' ctv h' tk hx hge' hlt hrec htb => ?_
    obtain ⟨c₂, oc, vs, t, e2, hoc, hd, hv⟩ := hrec
    cases e2
    have e : (ps.toArray ++ #[rawInt pos.line, rawInt pos.col, Value.ref c']) = (ps ++ [rawInt pos.line, rawInt pos.col, Value.ref c']).toArray := by simp
    rw [e] at htb
    have hLc : L < c' := Nat.lt_of_lt_of_le hL hge'
    refine h h'.objs.size c' oc (ps ++ [rawInt pos.line, rawInt pos.col, Value.ref c']) [(c', oc)] ctv _ tk ⟨(F.ns.extBut hx hm.2.1.symm).push _, fun b o e' => Heap.get?_push_of_some _ (hx b o (fun q => by rw [q, hm.2.2] at e'; cases e') (F.keep b o e')), F.above⟩ (fun q hq => ?_) (fun q hq => ?_) (.head _) ⟨vs, t, hd, hv⟩
      (TabL.app (ht.mono fun q hq => .tail _ hq) (.cons (pos.line : Int) (pos.col : Int) c' oc (.head _) ⟨vs, t, hd, hv⟩ .nil)) (Nat.lt_trans (Nat.lt_of_lt_of_le (low _ (.head _)) hge') hlt) (fun r hr => ?_)
    · rw [List.mem_singleton.mp hq]
      exact ⟨Nat.lt_of_lt_of_le (low _ (.head _)) hge', fun r hr => Nat.lt_of_lt_of_le (low r (.tail _ hr)) hge'⟩
    · rcases List.mem_cons.mp hq with rfl | hq
      · exact ⟨Heap.get?_push_size _ rfl, Nat.ne_of_gt (Nat.lt_trans hLc hlt), fresh _ (Nat.lt_trans hLc hlt)⟩
      rcases List.mem_cons.mp hq with rfl | hq
      · exact ⟨Heap.get?_push_of_some _ htb, hm.2⟩
      rcases List.mem_cons.mp hq with rfl | hq
      · exact ⟨Heap.get?_push_of_some _ hoc, Nat.ne_of_gt hLc, fresh _ hLc⟩
      · have n := N q (.tail _ hq)
        exact ⟨Heap.get?_push_of_some _ (hx _ _ (hsep q hq) n.1), n.2⟩
    · rcases List.mem_cons.mp hr with rfl | hr
      · exact hlt
      · exact Nat.lt_trans (Nat.lt_of_lt_of_le (low r (.tail _ hr)) hge') hlt
  · refine kla_makeFunctionHit (mg := mg) hcl hge hgs hcd (C.keeps F.keep) hm.1 ht.triples hf ⟨bm, ob, b1, b2, hbG, hbP, F.keep _ _ b3, b4, b5, b6⟩ fun ctv h' tk hx hsz => ?_
    have hLf : L < h'.objs.size := Nat.lt_of_lt_of_le hL hsz
    refine h h'.objs.size c' oc ps [] ctv _ tk ⟨(F.ns.keeps hx).push _, fun b o e' => Heap.get?_push_of_some _ (hx b o (F.keep b o e')), F.above⟩ (fun _ hq => nomatch hq) (fun q hq => ?_) hmem hc ht (Nat.lt_of_lt_of_le (low _ (.head _)) hsz) (fun r hr => Nat.lt_of_lt_of_le (low r (.tail _ hr)) hsz)
    rcases List.mem_cons.mp hq with rfl | hq
    · exact ⟨Heap.get?_push_size _ rfl, Nat.ne_of_gt hLf, fresh _ hLf⟩
    · have n := N q hq
      exact ⟨Heap.get?_push_of_some _ (hx _ _ n.1), n.2⟩
end
end

section
theorem foldE {α : Type} {M : Model} {A : Around} {x : Sem α} {Q : α → Shared → Prop} {E : Value → Shared → Prop} {s : Shared} (h : let e := E; wpAny M A x Q e s) : wpAny M A x Q E s := h
theorem law_good {cl : Str → Option Addr} {mean : ExcName → Option Value} {ns : List Int} {g0 h : Heap} {L0 : Addr} {m : Str → Option Value} {s1 : Shared} {tk tk2 : Nat} (F : Fr g0 L0 h m) (hg : s1.gens = #[]) :
    GoodW PySem.Challenge.rw_pb0553_01.row.claim cl mean [ofPy (PyData.list (List.map PyData.int ns))] { heap := g0, gens := s1.gens, drawn := s1.drawn, toks := tk, os := s1.os } (Except.ok (Flow.ret (Value.bool true))) { heap := h, gens := s1.gens, drawn := s1.drawn, toks := tk2, os := s1.os } := by
  wrow_close
end

theorem rows_25 : True := by
  k_with "m eval Call" => (k_here; (first | (with_reducible show wpAny _ _ (eval (Expr.Call (Expr.Name _ _) (Expr.Name _ _ :: _) [] _) _) _ _ _) | (with_reducible show wpAny _ _ (eval (Expr.Call (Expr.Name _ _) (Expr.Constant _ _ _ :: _) [] _) _) _ _ _)); k_dflt (first
  | ((first | (with_reducible refine' call_run ?z9F ?z9X ?z9T ?z9e ?z9p ?z9S ?_ ?z9k ?z9x) | (k_extra "m my_ex"; refine' call_run ?z9F ?z9X ?z9T ?z9e ?z9p ?z9S ?_ ?z9k ?z9x)); (case z9F => k_asm); (case z9S => k_extra "m my_sv"); (case z9x => kernel_rfl); (case z9X => k_asm); (case z9T => k_asm); (case z9k => eq_refl); (case z9e => k_is); (case z9p => k_is); k_whole)
  | ((first | (with_reducible refine' call_runC ?z9F ?z9N ?z9X ?z9T ?z9e ?z9p ?z9S ?_ ?z9k ?z9x) | (k_extra "m my_ex"; refine' call_runC ?z9F ?z9N ?z9X ?z9T ?z9e ?z9p ?z9S ?_ ?z9k ?z9x)); (case z9F => k_asm); (case z9N => k_asm); (case z9S => k_extra "m my_sv"); (case z9x => kernel_rfl); (case z9X => k_asm); (case z9T => k_asm); (case z9k => eq_refl); (case z9e => k_is); (case z9p => k_is); k_whole)))
  k_with "m eval Call" => (k_here; (with_reducible show wpAny _ _ (eval (Expr.Call (Expr.Name _ _) (_ :: _) [] _) _) _ _ _); k_dflt ((first | (with_reducible refine' callGo ?z9F ?z9X ?z9T ?z9e ?z9p ?z9x ?z9l ?_) | (k_extra "m my_ex"; refine' callGo ?z9F ?z9X ?z9T ?z9e ?z9p ?z9x ?z9l ?_)); (case z9x => kernel_rfl); (case z9F => k_asm); (case z9X => k_asm); (case z9T => k_asm); (case z9l => eq_refl); (case z9e => k_is); (case z9p => k_is); k_whole))
  k_with "m eval Call" => (k_here; (first | (with_reducible show wpAny _ _ (eval (Expr.Call (Expr.Name _ _) (Expr.Name _ _ :: _) [] _) _) _ _ _) | (with_reducible show wpAny _ _ (eval (Expr.Call (Expr.Name _ _) (Expr.Constant _ _ _ :: _) [] _) _) _ _ _)); k_dflt (first
  | ((first | (with_reducible refine' call_run ?z9F ?z9X ?z9T ?z9e ?z9p ?z9S ?_ ?z9k ?z9x) | (k_extra "m my_ex"; refine' call_run ?z9F ?z9X ?z9T ?z9e ?z9p ?z9S ?_ ?z9k ?z9x)); (case z9F => k_asm); (case z9S => k_extra "m my_sv"); (case z9x => kernel_rfl); (case z9X => k_asm); (case z9T => k_asm); (case z9k => eq_refl); (case z9e => k_is); (case z9p => k_is); k_whole)
  | ((first | (with_reducible refine' call_runC ?z9F ?z9N ?z9X ?z9T ?z9e ?z9p ?z9S ?_ ?z9k ?z9x) | (k_extra "m my_ex"; refine' call_runC ?z9F ?z9N ?z9X ?z9T ?z9e ?z9p ?z9S ?_ ?z9k ?z9x)); (case z9F => k_asm); (case z9N => k_asm); (case z9S => k_extra "m my_sv"); (case z9x => kernel_rfl); (case z9X => k_asm); (case z9T => k_asm); (case z9k => eq_refl); (case z9e => k_is); (case z9p => k_is); k_whole)))
  k_with "m eval Call" => (k_here; (with_reducible show wpAny _ _ (eval (Expr.Call (Expr.Name _ _) [Expr.Constant _ _ _] [] _) _) _ _ _); k_dflt (refine Call_ ?_))
  k_with "m call builtin:len" => (k_here; (with_reducible show wpAny _ _ (call (Value.builtin "len") [Value.ref _]) _ _ _); (k_extra "m my_fq"); k_dflt ((with_reducible refine' lenLE ?z9kN ?z9km ?z9ke ?z9kf ?_); (case z9kN => k_asm); (case z9km => first | k_mem | (k_memK; done) | exact List.Mem.tail _ (by assumption)); (case z9ke => eq_refl); (case z9kf => first | omega | k_extra "m my_len")); intro _ _)
  k_with "m call builtin:len" => (k_here; (with_reducible show wpAny _ _ (call (Value.builtin "len") [Value.bytes _ _]) _ _ _); k_dflt ((with_reducible refine' lenB ?z9kN ?z9ke ?z9kf ?_); (case z9kN => k_extra "m my_ints"); (case z9ke => eq_refl); (case z9kf => k_extra "m my_len")))
  k_with "m call builtin:len" => (k_here; (with_reducible show wpAny _ _ (call (Value.builtin "len") [Value.ref _]) _ _ _); k_dflt (refine' my_len_tup ?z9kF ?z9kX ?z9kN ?z9kT ?z9kz ?_; (case z9kF => k_asm); (case z9kX => assumption); (case z9kN => k_asm); (case z9kT => k_extra "m my_tupin"); (case z9kz => omega)); intro _ _)
  k_with "m call builtin:len" => (k_here; (with_reducible show wpAny _ _ (call (Value.builtin "len") [Value.ref _]) _ _ _); k_dflt (refine' my_len_scr ?z9kH ?z9kF ?z9kf ?_; (case z9kH => assumption); (case z9kF => k_asm); (case z9kf => omega)); intro _ _)
  k_with "m my_lam7" => (refine wpAny_call ?_; refine' kla_code ?z9k1 ?z9k2 ?z9k3 ?z9k4 ?z9k5 ?z9kA ?z9kF ?z9kK ?z9k6 ?z9k7 ?z9k8 ?z9k9 ?z9kB ?_ ?z9c2 ?z9c3 ?z9c4 ?z9c5; (case z9kA => eq_refl); (case z9kF => eq_refl); (case z9kK => assumption); (case z9k1 => k_asm); (case z9k2 => k_asm); (case z9k3 => k_asm); (case z9k4 => k_asm); (case z9k5 => k_asm); (case z9k6 => exact .head _); (case z9k7 => exact codeRec_ok (by k_asm) (.tail _ (.tail _ (.tail _ (.tail _ (.tail _ (.tail _ (.tail _ (by assumption)))))))) (by assumption)); (case z9k8 => ktr_room); (case z9k9 => eq_refl); (case z9c5 => decide); (case z9kB => exact locs rfl); (case z9c2 => eq_refl); (case z9c3 => eq_refl); (case z9c4 => eq_refl); k_whole; intro _ _ _ _ _ _ B' _ _; (try dsimp only); (try k_lift B'); (revert B'; intro _); (try k_fold))
  k_with "m my_stopL" => (
  (fail_if_success (with_reducible show wpAny _ _ (eval (Expr.ListComp _ _ _ _) _) _ _ _))
  (fail_if_success (with_reducible show wpAny _ _ (pyIter _) _ _ _))
  (fail_if_success (with_reducible show wpAny _ _ (exec (Stmt.For _ _ _ _ _) _) _ _ _))
  (fail_if_success (with_reducible show wpAny _ _ (exec (Stmt.While _ _ _ _) _) _ _ _))
  (fail_if_success (with_reducible show wpAny _ _ (call (Value.ref 279) _) _ _ _))
  (fail_if_success (with_reducible show wpAny _ _ (call (Value.ref 336) _) _ _ _))
  (fail_if_success (with_reducible show wpAny _ _ (call (Value.ref 193) _) _ _ _))
  (fail_if_success (with_reducible show wpAny _ _ (call (Value.ref 215) _) _ _ _))
  (fail_if_success (with_reducible show wpAny _ _ (call (Value.ref 179) _) _ _ _))
  (fail_if_success (with_reducible show wpAny _ _ (call (Value.ref 182) _) _ _ _))
  (fail_if_success (with_reducible show wpAny _ _ (call (Value.ref 153) _) _ _ _))
  (fail_if_success (with_reducible show wpAny _ _ (call (Value.ref 350) _) _ _ _))
  (fail_if_success (with_reducible show wpAny _ _ (call (Value.ref 357) _) _ _ _))
  (fail_if_success (with_reducible show wpAny _ _ (call (Value.ref 319) _) _ _ _))
  (fail_if_success (with_reducible show wpAny _ _ (call (Value.ref 343) _) _ _ _))
  (fail_if_success (with_reducible show wpAny _ _ (eval (Expr.Lambda _ _ _ _) _) _ _ _))
  (fail_if_success (with_reducible show wpAny _ _ (compareOp _ (Value.ref _) (Value.ref _)) _ _ _)))
  k_with "m my_walkL" => (repeat' (first | (k_unfold; (try dsimp only)) | (k_extra "m my_stopL"; first | walk1 | (dsimp only; walk1) | (dsimp only; k_unfold; (try dsimp only)) | (dsimp only [List.cons_append, List.nil_append]; walk1))))
  k_with "m my_lam9" => (refine wpAny_call ?_; refine' kla_code ?z9k1 ?z9k2 ?z9k3 ?z9k4 ?z9k5 ?z9kA ?z9kF ?z9kK ?z9k6 ?z9k7 ?z9k8 ?z9k9 ?z9kB ?_ ?z9c2 ?z9c3 ?z9c4 ?z9c5; (case z9kA => eq_refl); (case z9kF => eq_refl); (case z9kK => assumption); (case z9k1 => k_asm); (case z9k2 => k_asm); (case z9k3 => k_asm); (case z9k4 => k_asm); (case z9k5 => k_asm); (case z9k6 => exact .head _); (case z9k7 => exact codeRec_ok (by k_asm) (by assumption) (by assumption)); (case z9k8 => ktr_room); (case z9k9 => eq_refl); (case z9c5 => decide); (case z9kB => exact locs rfl); (case z9c2 => eq_refl); (case z9c3 => eq_refl); (case z9c4 => eq_refl); k_whole; intro _ _ _ _ _ _ B' _ _; (try dsimp only); (try k_lift B'); (revert B'; intro _); (try k_fold))
  trivial

section
def OddJ (w : World) (t : Addr × Obj) (D : Addr) (o : Obj) (vs : List Value) (nw : List (Addr × Obj)) : Prop :=
  ∃ qs xs, nw = (359, tabObj (qs : List Value).toArray) :: (D, o) :: xs ∧ TabL (Str.ofString "law.<locals>.<lambda>") xs qs ∧ (∀ p ∈ xs, p.1 ≠ 359) ∧ D ≠ 359 ∧ t ∈ xs ∧
    ∀ v ∈ vs, ∀ led : List (Addr × Obj), (∀ p ∈ xs, p ∈ led) → CtrE w 50 400 (.ref 193) [v] led
theorem odd_swap {g h : Heap} {L : Addr} {a b : Addr × Obj} {xs : List (Addr × Obj)} (N : News g L h (a :: b :: xs)) : News g L h (b :: a :: xs) := fun p hp => by
  rcases List.mem_cons.mp hp with rfl | hp
  · exact N _ (.tail _ (.head _))
  rcases List.mem_cons.mp hp with rfl | hp
  · exact N _ (.head _)
  · exact N _ (.tail _ (.tail _ hp))
theorem turn_mem {f c K I D t o p : Addr × Obj} {nw xs : List (Addr × Obj)} (h : p ∈ f :: K :: I :: c :: D :: t :: o :: (nw ++ xs)) : p ∈ f :: t :: (nw ++ (I :: c :: D :: K :: o :: xs)) := by
  have k : p = f ∨ p = K ∨ p = I ∨ p = c ∨ p = D ∨ p = t ∨ p = o ∨ p ∈ nw ∨ p ∈ xs := by simpa using h
  have : p = f ∨ p = t ∨ p ∈ nw ∨ p = I ∨ p = c ∨ p = D ∨ p = K ∨ p = o ∨ p ∈ xs := by
    rcases k with k | k | k | k | k | k | k | k | k <;> simp [k]
  simpa using this
theorem turn_memB {f c K I D t o p : Addr × Obj} {nw xs : List (Addr × Obj)} (h : p ∈ I :: c :: D :: K :: t :: o :: (nw ++ xs)) : p ∈ f :: K :: I :: c :: D :: t :: o :: (nw ++ xs) := by
  have k : p = I ∨ p = c ∨ p = D ∨ p = K ∨ p = t ∨ p = o ∨ p ∈ nw ∨ p ∈ xs := by simpa using h
  have : p = f ∨ p = K ∨ p = I ∨ p = c ∨ p = D ∨ p = t ∨ p = o ∨ p ∈ nw ∨ p ∈ xs := by
    rcases k with k | k | k | k | k | k | k | k <;> simp [k]
  simpa using this
theorem turn_head {c K I D t o p : Addr × Obj} {xs : List (Addr × Obj)} (h : p ∈ t :: I :: c :: D :: K :: o :: xs) : p ∈ I :: c :: D :: K :: t :: o :: xs := by
  have k : p = t ∨ p = I ∨ p = c ∨ p = D ∨ p = K ∨ p = o ∨ p ∈ xs := by simpa using h
  have : p = I ∨ p = c ∨ p = D ∨ p = K ∨ p = t ∨ p = o ∨ p ∈ xs := by
    rcases k with k | k | k | k | k | k | k <;> simp [k]
  simpa using this
theorem turn_head9 {g h : Heap} {L : Addr} {c K I D t o : Addr × Obj} {xs : List (Addr × Obj)} (N : News g L h (I :: c :: D :: K :: t :: o :: xs)) : News g L h (t :: I :: c :: D :: K :: o :: xs) := fun _ hp => N _ (turn_head hp)
theorem turn_led {g h : Heap} {L : Addr} {f c K I D t o q : Addr × Obj} {nw xs : List (Addr × Obj)} (N : News g L h (f :: t :: (nw ++ (I :: c :: D :: K :: o :: xs)))) (hm : q ∈ nw ++ xs) :
    News g L h (f :: K :: I :: c :: D :: t :: o :: (nw ++ xs)) ∧ q ∈ f :: K :: I :: c :: D :: t :: o :: (nw ++ xs) :=
  ⟨fun p hp => N p (turn_mem hp), .tail _ (.tail _ (.tail _ (.tail _ (.tail _ (.tail _ (.tail _ hm))))))⟩
theorem turn_off {P I C D K E : Addr} {oI oC oD oK oP oP2 oE : Obj} {nw xs : List (Addr × Obj)} (off : Off4 I C D K ((P, oP) :: (E, oE) :: xs)) (hn : ∀ q ∈ nw, @LT.lt Nat _ P q.1 ∧ ∀ r ∈ (I, oI) :: (C, oC) :: (D, oD) :: (K, oK) :: (E, oE) :: xs, @LT.lt Nat _ r.1 q.1) :
    Off4 I C D K ((P, oP2) :: (E, oE) :: (nw ++ xs)) := fun p hp => by
  rcases List.mem_cons.mp hp with rfl | hp
  · exact off (P, oP) (.head _)
  rcases List.mem_cons.mp hp with rfl | hp
  · exact off _ (.tail _ (.head _))
  rcases List.mem_append.mp hp with hp | hp
  · have h := (hn p hp).2
    exact ⟨Nat.ne_of_gt (h _ (.head _)), Nat.ne_of_gt (h _ (.tail _ (.head _))), Nat.ne_of_gt (h _ (.tail _ (.tail _ (.head _)))), Nat.ne_of_gt (h _ (.tail _ (.tail _ (.tail _ (.head _)))))⟩
  · exact off p (.tail _ (.tail _ hp))
theorem times_alike (a b c d e f g h : Tok) : AlikeAll [.int (timeOf 0) a, .int (timeOf 127) b, .int (timeOf 128) c, .int (timeOf 255) d] [.int 0 e, .int 127 f, .int 128 g, .int 31744 h] := by
  rw [show timeOf 0 = 0 by decide, show timeOf 127 = 127 by decide, show timeOf 128 = 128 by decide, show timeOf 255 = 31744 by decide]
  exact .cons (.int _ _ _) (.cons (.int _ _ _) (.cons (.int _ _ _) (.cons (.int _ _ _) .nil)))
theorem led_name {g h : Heap} {L D : Addr} {t : Addr × Obj} {o : Obj} {xs : List (Addr × Obj)} (_N : News g L h (t :: (D, o) :: xs)) : ∃ x : Addr, x = D := ⟨_, rfl⟩
/-- what stands between two turns of the law -/
def LawJ (L : Addr) (scr : Addr) (m : Str → Option Value) (news : List (Addr × Obj)) : Prop :=
  ∃ o1 o2 v1 v2 ps qs cs, news = (L + 1 + 1, o1) :: (L + 1, o2) :: (352, tabObj (ps : List Value).toArray) :: (359, tabObj (qs : List Value).toArray) :: cs ∧ o1.data = .cell v1 ∧ o2.data = .cell v2 ∧
    TabL (Str.ofString "_law_packet_right.<locals>.<lambda>") cs ps ∧ TabL (Str.ofString "law.<locals>.<lambda>") cs qs ∧ (∀ p ∈ cs, @LT.lt Nat _ (L + 1 + 1) p.1) ∧ m (Str.ofString "script") = some (.ref scr)
theorem turn_back {h₀ h₀' h : Heap} {L : Addr} {m : Str → Option Value} {news : List (Addr × Obj)} (T : KtsTurn [] h₀ h₀') (F : Fr h₀' L h m) (N : News h₀' L h news) : Fr h₀ L h m ∧ News h₀ L h news := by
  refine ⟨⟨F.ns, fun b o e => F.keep b o (T.other b o e (fun h => nomatch h)), by rw [← T.size]; exact F.above⟩, fun p hp => ⟨(N p hp).1, (N p hp).2.1, ?_⟩⟩
  cases q : h₀.get? p.1 with
  | none => rfl
  | some o =>
    have := T.other _ _ q (fun h => nomatch h)
    rw [(N p hp).2.2] at this; cases this
set_option maxHeartbeats 8000000 in
theorem law_try : PySem.Challenge.rw_pb0553_01.Holds := by
  refine hd ?_
  k_go0
  rename_i w s0 s1 mg mb G Y fa o pm doc ho hg XX V T B TE TW hcd ns hs hlay0 hL1 hr1 hl2 w6 w5 scr vs w2 hL ra w1 r0 HI hr hc1 hc2 hD h1 tk1 o1 o2 hd1 hd2 X0c X0 T0 B0 F0 CL N0 hsz
  obtain ⟨hsz1, hsz2⟩ := hsz
  have hlen : ns.length ≤ 63 := by omega
  have hsl := HI.length
  obtain ⟨m0, hm0, F1⟩ : ∃ m0 : Str → Option Value, m0 (Str.ofString "script") = some (.ref scr) ∧ Fr _ _ h1 m0 := ⟨_, rfl, F0⟩
  clear F0
  obtain ⟨v1, hd1⟩ : ∃ v, o1.data = .cell v := ⟨_, hd1⟩
  obtain ⟨v2, hd2⟩ : ∃ v, o2.data = .cell v := ⟨_, hd2⟩
  rename (ghostOf _ _).IsList _ _ => HS
  rename CodeHd _ _ _ => CP
  clear X0c hD hc1 hc2 hr r0 w1 ra hL hl2 hr1 hL1 hlay0 hs hcd hT9 hT8 TW TE B T V XX G Y
  dsimp only at CP CL
  generalize ghostOf s1.heap [(356, 352), (361, 359)] = g0 at *
  generalize s1.heap.objs.size = L0 at *
  have T00 : Top topProg lo (ExcName.means s0.heap) mg mb g0 := T0
  clear T0
  generalize ExcName.means s0.heap = mean at *
  have F2 := fr_set (x := Str.ofString "script") F1 hm0
  have hA1 : callerA.depth + 150 < recursionLimit := Nat.le_of_ble_eq_true rfl
  have hA2 : callerA.units + 1500 < cLine := Nat.le_of_ble_eq_true rfl
  clear F1
  refine foldE ?_
  intro e9
  k_extra "m my_walkL"
  k_extra "m my_for"
  k_extra "m my_walkL"
  rename_i r1 r2 r3 IR2 FR NR KR
  obtain ⟨e, he, IR3⟩ : ∃ e : Int, (e = 1 ∨ e = 2) ∧ IsRange _ _ 0 e 1 r1 r2 r3 := ⟨_, by (repeat' split) <;> omega, IR2⟩
  clear IR2
  obtain ⟨n, rfl⟩ : ∃ n : Nat, e = n := ⟨e.toNat, by omega⟩
  k_dflt (refine for_rangeL (n := n) (fun j m1 news => LawJ L0 scr m1 news) (by rfl) FR NR IR3 ?_ ?_ ?_ ?_ ?_)
  · exact small_one (by omega) (by omega) (by omega) (by omega)
  · rw [rangeSize_one]; split <;> omega
  · exact ⟨o1, o2, v1, v2, [], [], [], rfl, by assumption, by assumption, .nil, .nil, (fun _ h => nomatch h), if_pos rfl⟩
  · clear FR NR IR3 KR
    intro I j t m1 news1 h tk oI hI hoI hj hJ off F' N'
    (try dsimp only)
    k_extra "m my_fq"
    refine foldE ?_
    intro e9
    obtain ⟨o1, o2, v1, v2, ps, qs, cs, rfl, hd1, hd2, hps, hqs, hcs, hm1⟩ := hJ
    have hI9 : ∀ p ∈ cs, p.1 ≠ I := fun p hp => off p (.tail _ (.tail _ (.tail _ (.tail _ hp))))
    have F3 := fr_set (x := Str.ofString "script") F' hm1
    clear F'
    k_extra "m my_fold"
    k_extra "m my_walkL"
    have hp := c_pool w scr vs ns (0 + (j : Int) * 1) t ((I, oI) :: (L0 + 1 + 1, o1) :: (L0 + 1, o2) :: (352, tabObj ps.toArray) :: (359, tabObj qs.toArray) :: cs) HI (by omega) (by omega) (by omega)
    refine' CtrS.use hp ?kH ?k1 ?k2 ?k3 ?k4 ?k5 ?k6 ?k7 ?k8 ?_
    case kH => assumption
    case k1 => k_asm
    case k2 => k_asm
    case k3 => k_asm
    case k4 => k_asm
    case k5 => k_asm
    case k6 => exact rfl
    case k7 => ktr_room
    case k8 => (first | k_extra "m my_rz" | ke_room | units_room | exact Nat.le_of_ble_eq_true rfl)
    k_whole
    intro v8 l8 h8 tk8 hP8 F8 N8
    obtain ⟨src, oS, rfl, sS, hsrc, rfl⟩ := hP8
    (try dsimp only)
    clear hp
    k_extra "m my_walkL"
    ((((k_extra "m my_fq"); k_dflt (refine' (Ctr.use (c_drawn w src _ oS (fun p hp => Nat.ne_of_lt (hsrc p hp)) sS)) ?z9k1 ?z9k2 ?z9k3 ?z9k4 ?z9k5 ?z9k6 ?z9k7 ?z9k8 ?_; (case z9k1 => k_asm); (case z9k2 => k_asm); (case z9k3 => k_asm); (case z9k4 => k_asm); (case z9k5 => k_asm); (case z9k6 => first | exact rfl | assumption); (case z9k7 => k_extra "m my_rm"); (case z9k8 => k_extra "m my_rm"))); k_whole))
    intro v8 l8 h8 tk8 hP8 F8 N8
    obtain ⟨oD, tl, D, xM, bM, tM, kind, g, wait, nsM, ver, rs, ks, sD, rfl, hDm, hM, hG, hbM, hlt, rfl⟩ := hP8
    (try dsimp only)
    have ND := law_led N8 hDm
    have hM2 := law_keep hM hoI hd1 hd2
    have hxl : ∀ p ∈ tl ++ cs, @LT.lt Nat _ (L0 + 1 + 1) p.1 := fun p hp => by
      rcases List.mem_append.mp hp with hp | hp
      · exact hlt (L0 + 1 + 1, o1) (.tail _ (.tail _ (.head _))) p hp
      · exact hcs p hp
    have hxc : ∀ p ∈ tl ++ cs, p.1 ≠ src := fun p hp => by
      rcases List.mem_append.mp hp with hp | hp
      · exact Nat.ne_of_gt (hlt (src, oD) (.head _) p hp)
      · exact Nat.ne_of_lt (hsrc p (.tail _ (.tail _ (.tail _ (.tail _ (.tail _ hp))))))
    have hxI : ∀ p ∈ tl ++ cs, p.1 ≠ I := fun p hp => by
      rcases List.mem_append.mp hp with hp | hp
      · exact Nat.ne_of_gt (hlt (I, oI) (.tail _ (.head _)) p hp)
      · exact hI9 p hp
    have hD1 : @LT.lt Nat _ (L0 + 1 + 1) D := hxl _ (List.mem_append_left _ hDm)
    have hD2 : @LT.lt Nat _ src D := hlt (src, oD) (.head _) _ hDm
    have hD3 : @LT.lt Nat _ I D := hlt (I, oI) (.tail _ (.head _)) _ hDm
    have hI1 : @LT.lt Nat _ (L0 + 1 + 1) I := hI (L0 + 1 + 1, _) (.head _)
    have hS1 : @LT.lt Nat _ I src := hsrc (I, oI) (.head _)
    have hpx : TabL (Str.ofString "_law_packet_right.<locals>.<lambda>") (tl ++ cs) ps := hps.mono fun p hp => List.mem_append_right _ hp
    have hqx : TabL (Str.ofString "law.<locals>.<lambda>") (tl ++ cs) qs := hqs.mono fun p hp => List.mem_append_right _ hp
    clear N8 hsrc hM hlt hDm hI9 hcs hps hqs off hI
    generalize tl ++ cs = xs at *
    have hsz3 : @LT.lt Nat _ 352 L0 := hsz1
    have hsz4 : @LT.lt Nat _ 359 L0 := hsz2
    have hxa : ∀ p ∈ xs, p.1 ≠ L0 + 1 + 1 := fun p hp => Nat.ne_of_gt (hxl p hp)
    have hxb : ∀ p ∈ xs, p.1 ≠ L0 + 1 := fun p hp => Nat.ne_of_gt (Nat.lt_of_succ_lt (hxl p hp))
    have hxd : ∀ p ∈ xs, p.1 ≠ 352 := fun p hp => Nat.ne_of_gt (Nat.lt_trans (Nat.lt_succ_of_lt (Nat.lt_succ_of_lt hsz3)) (hxl p hp))
    have hxe : ∀ p ∈ xs, p.1 ≠ 359 := fun p hp => Nat.ne_of_gt (Nat.lt_trans (Nat.lt_succ_of_lt (Nat.lt_succ_of_lt hsz4)) (hxl p hp))
    k_extra "m my_walkL"
    (with_reducible rename News _ _ _ _ => NB)
    have NC := News.tail NB
    clear NB
    (((k_extra "m my_fq"); k_dflt (refine' (Ctr.use (c_pk w xM _ hG ?q1)) ?z9k1 ?z9k2 ?z9k3 ?z9k4 ?z9k5 ?z9k6 ?z9k7 ?z9k8 ?_; (case z9k1 => k_asm); (case z9k2 => k_asm); (case z9k3 => k_asm); (case z9k4 => k_asm); (case z9k5 => k_asm); (case z9k6 => first | exact rfl | assumption); (case z9k7 => k_extra "m my_rm"); (case z9k8 => k_extra "m my_rm"))))
    case q1 => exact hM2.mono (fun p hp => .tail _ (.tail _ (.tail _ (.tail _ (.tail _ (.tail _ hp))))))
    k_whole
    intro v8 l8 h8 tk8 hP8 F8 N8
    obtain ⟨⟨bK, tK, rfl, hbK⟩, rfl⟩ := hP8
    (try dsimp only)
    k_extra "m my_walkL"
    ((((k_extra "m my_fq"); k_dflt (refine' (Ctr.use (c_un w bM tM _ hG hbM)) ?z9k1 ?z9k2 ?z9k3 ?z9k4 ?z9k5 ?z9k6 ?z9k7 ?z9k8 ?_; (case z9k1 => k_asm); (case z9k2 => k_asm); (case z9k3 => k_asm); (case z9k4 => k_asm); (case z9k5 => k_asm); (case z9k6 => first | exact rfl | assumption); (case z9k7 => k_extra "m my_rm"); (case z9k8 => k_extra "m my_rm"))); k_whole))
    intro v8 l8 h8 tk8 hP8 F8 N8
    obtain ⟨x2, rfl, ⟨t2, hlt2, rfl⟩, hM9⟩ := hP8
    (try dsimp only)
    obtain ⟨d2, T2, R2, vs2, rv2, u21, u22, u23, u24, u25, u26, t21, t22, t23, t24, m21, m22, _, _, _, _⟩ := id hM9
    have NE := both_front m21 m22 N8
    clear N8
    obtain ⟨hk8, hk56, _, hsk, hz⟩ := good_ks hG
    k_extra "m my_walkL"
    (((k_extra "m my_fq"); k_dflt (refine' (Ctr.use (c_mtold w x2 kind g wait ver nsM rs _ (by omega) ?q1)) ?z9k1 ?z9k2 ?z9k3 ?z9k4 ?z9k5 ?z9k6 ?z9k7 ?z9k8 ?_; (case z9k1 => k_asm); (case z9k2 => k_asm); (case z9k3 => k_asm); (case z9k4 => k_asm); (case z9k5 => k_asm); (case z9k6 => first | exact rfl | assumption); (case z9k7 => k_extra "m my_rm"); (case z9k8 => k_extra "m my_rm"))))
    case q1 => exact hM9.mono (fun p hp => .tail _ (.tail _ hp))
    k_whole
    intro v8 l8 h8 tk8 hP8 F8 N8
    obtain ⟨D3, rfl, ⟨t3, hlt3, rfl⟩, hR3⟩ := hP8
    (try dsimp only)
    obtain ⟨d4, T4, R4, vs4, rv4, u41, u42, u43, u44, u45, u46, t41, t42, t43, t44, m41, m42, _, _, _, _⟩ := id hM2
    have NG := told_front m41 m42 N8
    clear N8 NE
    k_extra "m my_walkL"
    (((k_extra "m my_fq"); k_dflt (refine' (Ctr.use (c_mtold w xM kind g wait ver nsM rs _ (by omega) ?q1)) ?z9k1 ?z9k2 ?z9k3 ?z9k4 ?z9k5 ?z9k6 ?z9k7 ?z9k8 ?_; (case z9k1 => k_asm); (case z9k2 => k_asm); (case z9k3 => k_asm); (case z9k4 => k_asm); (case z9k5 => k_asm); (case z9k6 => first | exact rfl | assumption); (case z9k7 => k_extra "m my_rm"); (case z9k8 => k_extra "m my_rm"))))
    case q1 => exact hM2.mono (fun p hp => told_sub hp)
    k_whole
    intro v8 l8 h8 tk8 hP8 F8 N8
    obtain ⟨D5, rfl, ⟨t5, hlt5, rfl⟩, hR5⟩ := hP8
    (try dsimp only)
    k_extra "m my_walkL"
    refine' ne_told (w' := w) ?kF ?kX ?kN ?kR ?kR2 ?kd ?ku ?_
    case kF => k_asm
    case kX => k_asm
    case kN => k_asm
    case kR => exact hR3.mono (fun p hp => List.mem_append_right _ (.tail _ (.tail _ hp)))
    case kR2 => exact hR5
    case kd => exact msg_shaped _ _ _ _ _ _ (by assumption)
    case ku => first | k_extra "m my_rz" | ke_room | units_room
    have NH := told_drop N8
    clear N8 NG hR3 hR5 hM9 hlt2 hlt3 hlt5 m41 m42 m21 m22
    k_extra "m my_walkL"
    (((k_extra "m my_fq"); k_dflt (refine' (Ctr.use (Ctr.upd (P := TurnP _) (fun r hr _ => c_turned _ _ _ _ ks r _ hr ?q1 ?q2 ?q3 ?q4) ?q6)) ?z9k1 ?z9k2 ?z9k3 ?z9k4 ?z9k5 ?z9k6 ?z9k7 ?z9k8 ?_; (case z9k1 => k_asm); (case z9k2 => k_asm); (case z9k3 => k_asm); (case z9k4 => k_asm); (case z9k5 => k_asm); (case z9k6 => first | exact rfl | assumption); (case z9k7 => k_extra "m my_rm"); (case z9k8 => k_extra "m my_rm"))))
    (case q6 => k_updF)
    (case q1 => exact hbM)
    (case q2 => omega)
    (case q3 => omega)
    (case q4 => assumption)
    k_whole
    intro v8 l8 h8 tk8 hP8 F8 N8
    obtain ⟨oT, ⟨⟨kT, dT, ⟨bT, tT, rfl, hbT⟩, kT0, kT1, dT0, dT1⟩, sT⟩, rfl⟩ := hP8
    (try dsimp only at N8)
    (try dsimp only)
    k_extra "m my_walkL"
    k_dflt (refine' kla_eval ?d0 ?_; (case d0 => eq_refl))
    (with_reducible rename Fr _ _ _ _ => FB)
    (with_reducible rename News _ _ _ _ => NB)
    refine kla_any (pre := [(L0 + 1 + 1, _), (L0 + 1, _), (src, oT), (352, _), (I, oI)]) (rest := xs) FB (law_tab NB) T00 CP rfl ?hs hqx rfl ?_
    case hs => exact ne_cons (by k_ne) (ne_cons (by k_ne) (ne_cons (by k_ne) (ne_cons (by k_ne) (ne_cons (by k_ne) hxe))))
    intro f2 c2 oc2 qs2 new2 ctv2 h2 tk2 F2' hnew2 N2 hm2 hc2 hq2 lf1 lf2
    dsimp only [List.cons_append, List.nil_append] at N2 lf2
    clear NB FB
    k_extra "m my_walkL"
    (
  k_dflt (refine' CtrT.use (c_refused w f2 _ (.head _) ?hlam) ?z9k1 ?z9k2 ?z9k3 ?z9k4 ?z9k5 ?z9k6 ?z9k7 ?z9k8 ?z9kXB ?z9kTB ?_; (case z9k1 => k_asm); (case z9k2 => k_asm); (case z9k3 => k_asm); (case z9k4 => k_asm); (case z9k5 => k_asm); (case z9k6 => first | exact rfl | assumption); (case z9k7 => k_extra "m my_rm"); (case z9k8 => k_extra "m my_rm"); (case z9kXB => assumption); (case z9kTB => assumption)))
    case hlam =>
      intro mean2 mg2 mb2 dp2 un2 gd2 cn2 cs2 a2 ccd2 cl2 outer2 A₀2 base2 h₀2 L2 m2 s2 Q2 E2 B2 F22 X2 N22 T22 hk2 hdp2 hun2 hraise2
      k_extra "m my_lam7"
      k_extra "m my_walkL"
      ((((k_extra "m my_fq"); k_dflt (refine' (CtrE.use (e_unturned w bM _ _ kT dT _ hG hbM hbT kT0 kT1 dT0 dT1)) ?z9k1 ?z9k2 ?z9k3 ?z9k4 ?z9k5 ?z9k6 ?z9k7 ?z9k8 ?_; (case z9k1 => k_asm); (case z9k2 => k_asm); (case z9k3 => k_asm); (case z9k4 => k_asm); (case z9k5 => k_asm); (case z9k6 => first | exact rfl | assumption); (case z9k7 => k_extra "m my_rm"); (case z9k8 => k_extra "m my_rm"))); k_whole))
      intro e5 h5 G5 tk5 F5 R5 U5
      k_extra "m my_passed"
      exact hraise2 _ _ _ _ (by assumption) (by assumption) (by assumption)
    k_whole
    intro v8 l8 h8 h08 tk8 hP8 T8 B8 F8 X8 N8 P8
    obtain ⟨rfl, rfl⟩ := hP8
    obtain ⟨F9, N9⟩ := turn_back T8 F8 N8
    clear T8 B8 F8 X8 N8 P8
    (try dsimp only)
    have N10 := News.tail N9
    clear N9 N2
    k_extra "m my_walkL"
    k_dflt (refine' kla_eval ?d0 ?_; (case d0 => eq_refl))
    (with_reducible rename Fr _ _ _ _ => FB)
    (with_reducible rename News _ _ _ _ => NB)
    refine kla_any (pre := [(L0 + 1 + 1, _), (L0 + 1, _), (src, oT), (352, _), (I, oI)]) (rest := new2 ++ xs) FB NB T00 CP rfl ?hs hq2 rfl ?_
    case hs => exact ne_cons (by k_ne) (ne_cons (by k_ne) (ne_cons (by k_ne) (ne_cons (by k_ne) (ne_cons (by k_ne) (show ∀ p ∈ new2 ++ xs, p.1 ≠ 359 from ne_app (fun q hq => Nat.ne_of_gt (hnew2 q hq).1) hxe)))))
    intro f3 c3 oc3 qs3 new3 ctv3 h3 tk3 F3' hnew3 N3 hm3 hc3 hq3 lf3 lf4
    dsimp only [List.cons_append, List.nil_append] at N3 lf4
    clear NB FB
    k_extra "m my_walkL"
    (
  k_dflt (refine' CtrT.use (c_refused w f3 _ (.head _) ?hlam) ?z9k1 ?z9k2 ?z9k3 ?z9k4 ?z9k5 ?z9k6 ?z9k7 ?z9k8 ?z9kXB ?z9kTB ?_; (case z9k1 => k_asm); (case z9k2 => k_asm); (case z9k3 => k_asm); (case z9k4 => k_asm); (case z9k5 => k_asm); (case z9k6 => first | exact rfl | assumption); (case z9k7 => k_extra "m my_rm"); (case z9k8 => k_extra "m my_rm"); (case z9kXB => assumption); (case z9kTB => assumption)))
    case hlam =>
      intro mean2 mg2 mb2 dp2 un2 gd2 cn2 cs2 a2 ccd2 cl2 outer2 A₀2 base2 h₀2 L2 m2 s2 Q2 E2 B2 F22 X2 N22 T22 hk2 hdp2 hun2 hraise2
      k_extra "m my_lam7"
      k_extra "m my_walkL"
      ((((k_extra "m my_fq"); k_dflt (refine' (CtrE.use (e_unpack w _ _ _ _ (by assumption) (by k_extra "m my_len"))) ?z9k1 ?z9k2 ?z9k3 ?z9k4 ?z9k5 ?z9k6 ?z9k7 ?z9k8 ?_; (case z9k1 => k_asm); (case z9k2 => k_asm); (case z9k3 => k_asm); (case z9k4 => k_asm); (case z9k5 => k_asm); (case z9k6 => first | exact rfl | assumption); (case z9k7 => k_extra "m my_rm"); (case z9k8 => k_extra "m my_rm"))); k_whole))
      intro e5 h5 G5 tk5 F5 R5 U5
      k_extra "m my_passed"
      exact hraise2 _ _ _ _ (by assumption) (by assumption) (by assumption)
    k_whole
    intro v8 l8 h8 h08 tk8 hP8 T8 B8 F8 X8 N8 P8
    obtain ⟨rfl, rfl⟩ := hP8
    obtain ⟨F9, N9⟩ := turn_back T8 F8 N8
    clear T8 B8 F8 X8 N8 P8
    (try dsimp only)
    have N11 := News.tail N9
    clear N9 N3
    have hyl : ∀ p ∈ new3 ++ (new2 ++ xs), @LT.lt Nat _ (L0 + 1 + 1) p.1 := law_low hnew3 hnew2 hxl
    have hyc : ∀ p ∈ new3 ++ (new2 ++ xs), p.1 ≠ src := law_nes hnew3 hnew2 hxc
    have hyI : ∀ p ∈ new3 ++ (new2 ++ xs), p.1 ≠ I := law_neI hnew3 hnew2 hxI
    have hq4 : TabL (Str.ofString "law.<locals>.<lambda>") (new3 ++ (new2 ++ xs)) qs3 := hq3
    have hp4 : TabL (Str.ofString "_law_packet_right.<locals>.<lambda>") (new3 ++ (new2 ++ xs)) ps := hpx.mono fun p hp => List.mem_append_right _ (List.mem_append_right _ hp)
    clear hnew3 hnew2 hm3 hm2 hc3 hc2 hq3 hq2 hpx hqx hM2 hxl hxc hxI hxa hxb hxd hxe lf1 lf2 lf3 lf4
    generalize new3 ++ (new2 ++ xs) = ys at *
    have hyd : ∀ p ∈ ys, p.1 ≠ 352 := fun p hp => Nat.ne_of_gt (Nat.lt_trans (Nat.lt_succ_of_lt (Nat.lt_succ_of_lt hsz3)) (hyl p hp))
    k_extra "m my_walkL"
    (with_reducible rename News _ _ _ _ => NB)
    have NP0 := law_pk NB
    clear NB
    have hm1 : ∀ p ∈ [(L0 + 1 + 1, _), (L0 + 1, _), (359, _), (I, oI)] ++ ys, p.1 ≠ src := pk_sep NP0 (by k_ne) (by k_ne) (by k_ne) (by k_ne) hyc
    have hm2 : ∀ p ∈ [(L0 + 1 + 1, _), (L0 + 1, _), (359, _), (I, oI)] ++ ys, p.1 ≠ 352 := pk_sep NP0 (by k_ne) (by k_ne) (by k_ne) (by k_ne) hyd
    obtain ⟨more, hmore, NP⟩ := pk_more NP0
    rw [← hmore] at hm1 hm2
    clear NP0
    have hs352 : @LT.lt Nat _ 352 src := by omega
    have hpk := c_packet1 w src bM tM ks more ys oT hm1 hm2 ps hp4 hs352 sT hbM hk8 hk56
    k_dflt (refine' CtrTC.use hpk ?kH ?k1 ?k2 ?k3 ?k4 ?k5 ?k6 ?k7 ?k8 ?kXB ?kTB ?_)
    case kH => exact CL
    case k1 => k_asm
    case k2 => k_asm
    case k3 => k_asm
    case k4 => exact NP
    case k5 => k_asm
    case k6 => exact rfl
    case k7 => ((try dsimp only [ktrTop]); omega)
    case k8 => ((try dsimp only [ktrTop]); omega)
    case kXB => assumption
    case kTB => assumption
    k_whole
    intro v8 l8 h8 h08 tk8 hP8 T8 B8 F8 X8 N8 P8
    obtain ⟨rfl, oU, ps2, newP, sU, hps2, hnewP, rfl⟩ := hP8
    obtain ⟨F9, N9⟩ := turn_back T8 F8 N8
    clear T8 B8 F8 X8 N8 P8 NP hpk hm1 hm2
    subst hmore
    (try dsimp only)
    have N12 := law_back N9
    clear N9
    have hzl : ∀ p ∈ newP ++ ys, @LT.lt Nat _ (L0 + 1 + 1) p.1 := fun p hp => by
      rcases List.mem_append.mp hp with hp | hp
      · exact (hnewP p hp).2.2 (L0 + 1 + 1, _) (.head _)
      · exact hyl p hp
    have hzc : ∀ p ∈ newP ++ ys, p.1 ≠ src := ne_app (fun p hp => Nat.ne_of_gt (hnewP p hp).1) hyc
    have hzI : ∀ p ∈ newP ++ ys, p.1 ≠ I := ne_app (fun p hp => Nat.ne_of_gt ((hnewP p hp).2.2 (I, oI) (.tail _ (.tail _ (.tail _ (.head _)))))) hyI
    have hq5 : TabL (Str.ofString "law.<locals>.<lambda>") (newP ++ ys) qs3 := hq4.mono fun p hp => List.mem_append_right _ hp
    clear hnewP hyl hyc hyI hq4 hp4 hyd
    generalize newP ++ ys = zs at *
    k_extra "m my_walkL"
    (((k_extra "m my_fq"); k_dflt (refine' (Ctr.use (Ctr.upd (P := IntP 3758096384 4026531840) (fun r hr _ => c_group _ _ r _ hr ?q3) ?q6)) ?z9k1 ?z9k2 ?z9k3 ?z9k4 ?z9k5 ?z9k6 ?z9k7 ?z9k8 ?_; (case z9k1 => k_asm); (case z9k2 => k_asm); (case z9k3 => k_asm); (case z9k4 => k_asm); (case z9k5 => k_asm); (case z9k6 => first | exact rfl | assumption); (case z9k7 => k_extra "m my_rm"); (case z9k8 => k_extra "m my_rm"))))
    case q6 => exact .head (ne_cons (by k_ne) (ne_cons (by k_ne) (ne_cons (by k_ne) (ne_cons (by k_ne) (ne_cons (by k_ne) hzc)))))
    case q3 => assumption
    k_whole
    intro v8 l8 h8 tk8 hP8 F8 N8
    obtain ⟨oV, ⟨⟨gV, tV, rfl, gV0, gV1⟩, sV⟩, rfl⟩ := hP8
    (try dsimp only at N8)
    (try dsimp only)
    k_extra "m my_walkL"
    all_goals first
    | ((with_reducible rename (_ != _) = true => hne); rw [show decide (gV / 256 = 14680064) = decide (gV ≤ 3758096639) from by rw [decide_eq_decide]; omega, bne_self_eq_false] at hne; cases hne; done)
    | (with_reducible rename Fr _ _ _ _ => FE)
      (with_reducible rename News _ _ _ _ => NE)
      exact MyTurnEnd.intro FE NE (fun p hp => law_endsub hp) (ne_cons (by k_ne) (ne_cons (by k_ne) (ne_cons (by k_ne) (ne_cons (by k_ne) hzI)))) ⟨_, _, _, _, ps2, qs3, zs, rfl, by assumption, by assumption, hps2, hq5, hzl, rfl⟩
  · clear FR NR IR3 KR
    intro m1 news1 h tk hJ F' N'
    obtain ⟨o1, o2, v1, v2, ps, qs, cs, rfl, hd1, hd2, hps, hqs, hcs, hm1⟩ := hJ
    have NY : News g0 L0 h ((359, tabObj qs.toArray) :: (352, tabObj ps.toArray) :: cs) := odd_swap (News.tail (News.tail N'))
    have hx00 : ∀ p ∈ (352, tabObj ps.toArray) :: cs, p.1 ≠ 359 := ne_cons (by decide) fun p hp => Nat.ne_of_gt (Nat.lt_trans (Nat.lt_succ_of_lt (Nat.lt_succ_of_lt hsz2)) (hcs p hp))
    have hq00 : TabL (Str.ofString "law.<locals>.<lambda>") ((352, tabObj ps.toArray) :: cs) qs := hqs.mono fun p hp => .tail _ hp
    obtain ⟨xs0, N0Z, hx0, hq0, h352⟩ : ∃ xs0, News g0 L0 h ((359, tabObj qs.toArray) :: xs0) ∧ (∀ p ∈ xs0, p.1 ≠ 359) ∧ TabL (Str.ofString "law.<locals>.<lambda>") xs0 qs ∧ (352, tabObj ps.toArray) ∈ xs0 := ⟨_, NY, hx00, hq00, .head _⟩
    clear NY hx00 hq00
    clear N' hps hd1 hd2 o1 o2 v1 v2
    k_extra "m my_walkL"
    (((k_extra "m my_fq"); k_dflt (refine' (Ctr.use (c_msg5T _ _ _ _ _ _ _ _ [] [] _ _ _ ?q1 .nil)) ?z9k1 ?z9k2 ?z9k3 ?z9k4 ?z9k5 ?z9k6 ?z9k7 ?z9k8 ?_; (case z9k1 => k_asm); (case z9k2 => k_asm); (case z9k3 => k_asm); (case z9k4 => k_asm); (case z9k5 => k_asm); (case z9k6 => first | exact rfl | assumption); (case z9k7 => k_extra "m my_rm"); (case z9k8 => k_extra "m my_rm"))))
    case q1 => exact ⟨0, .inl (.head _)⟩
    k_whole
    intro v8 l8 h8 tk8 hP8 F8 N8
    obtain ⟨xA, rfl, ⟨t1, ht1, rfl⟩, hMA⟩ := hP8
    (try dsimp only)
    obtain ⟨xs1, hs1, NA, hMA, hx1, hq1⟩ := oddA N8 hMA hq0 hx0 ht1 (by assumption)
    clear N8
    k_extra "m my_walkL"
    (((k_extra "m my_fq"); k_dflt (refine' (Ctr.use (c_msg3 _ _ _ _ _ _ _ _)) ?z9k1 ?z9k2 ?z9k3 ?z9k4 ?z9k5 ?z9k6 ?z9k7 ?z9k8 ?_; (case z9k1 => k_asm); (case z9k2 => k_asm); (case z9k3 => k_asm); (case z9k4 => k_asm); (case z9k5 => k_asm); (case z9k6 => first | exact rfl | assumption); (case z9k7 => k_extra "m my_rm"); (case z9k8 => k_extra "m my_rm"))))
    k_whole
    intro v8 l8 h8 tk8 hP8 F8 N8
    obtain ⟨xB, rfl, ⟨t2, ht2, rfl⟩, hMB⟩ := hP8
    (try dsimp only)
    obtain ⟨xs2, hs2, NB, hMB, hx2, hq2⟩ := odd0 N8 hMB hq1 hx1 ht2
    clear N8
    k_extra "m my_walkL"
    (((k_extra "m my_fq"); k_dflt (refine' (Ctr.use (c_msg5T _ _ _ _ _ _ _ _ [] [] _ _ _ ?q1 .nil)) ?z9k1 ?z9k2 ?z9k3 ?z9k4 ?z9k5 ?z9k6 ?z9k7 ?z9k8 ?_; (case z9k1 => k_asm); (case z9k2 => k_asm); (case z9k3 => k_asm); (case z9k4 => k_asm); (case z9k5 => k_asm); (case z9k6 => first | exact rfl | assumption); (case z9k7 => k_extra "m my_rm"); (case z9k8 => k_extra "m my_rm"))))
    case q1 => exact ⟨0, .inl (.head _)⟩
    k_whole
    intro v8 l8 h8 tk8 hP8 F8 N8
    obtain ⟨xC, rfl, ⟨t3, ht3, rfl⟩, hMC⟩ := hP8
    (try dsimp only)
    obtain ⟨xs3, hs3, NC, hMC, hx3, hq3⟩ := oddA N8 hMC hq2 hx2 ht3 (by assumption)
    clear N8
    k_extra "m my_walkL"
    (with_reducible rename News _ _ _ _ => NL)
    obtain ⟨xs4, hs4, hL4, ND, hx4, hq4⟩ := oddL NL hq3 hx3 (by assumption)
    clear NL
    (((k_extra "m my_fq"); k_dflt (refine' (Ctr.use (c_msg2 _ _ _ _ _ _)) ?z9k1 ?z9k2 ?z9k3 ?z9k4 ?z9k5 ?z9k6 ?z9k7 ?z9k8 ?_; (case z9k1 => k_asm); (case z9k2 => k_asm); (case z9k3 => k_asm); (case z9k4 => k_asm); (case z9k5 => k_asm); (case z9k6 => first | exact rfl | assumption); (case z9k7 => k_extra "m my_rm"); (case z9k8 => k_extra "m my_rm"))))
    k_whole
    intro v8 l8 h8 tk8 hP8 F8 N8
    obtain ⟨xE, rfl, ⟨t5, ht5, rfl⟩, hME⟩ := hP8
    (try dsimp only)
    obtain ⟨xs5, hs5, NE, hME, hx5, hq5⟩ := odd0 N8 hME hq4 hx4 ht5
    clear N8
    k_extra "m my_walkL"
    (((k_extra "m my_fq"); k_dflt (refine' (Ctr.use (c_msg5T _ _ _ _ _ _ _ _ [] [] _ _ _ ?q1 .nil)) ?z9k1 ?z9k2 ?z9k3 ?z9k4 ?z9k5 ?z9k6 ?z9k7 ?z9k8 ?_; (case z9k1 => k_asm); (case z9k2 => k_asm); (case z9k3 => k_asm); (case z9k4 => k_asm); (case z9k5 => k_asm); (case z9k6 => first | exact rfl | assumption); (case z9k7 => k_extra "m my_rm"); (case z9k8 => k_extra "m my_rm"))))
    case q1 => exact ⟨0, .inl (.head _)⟩
    k_whole
    intro v8 l8 h8 tk8 hP8 F8 N8
    obtain ⟨xF, rfl, ⟨t6, ht6, rfl⟩, hMF⟩ := hP8
    (try dsimp only)
    obtain ⟨xs6, hs6, NF, hMF, hx6, hq6⟩ := oddA N8 hMF hq5 hx5 ht6 (by assumption)
    clear N8
    have NF2 := odd_front (hs6 _ (hs5 _ hL4)) NF
    clear NF
    iterate 14 (first | (k_unfold; (try dsimp only)) | (k_extra "m my_stopL"; first | walk1 | (dsimp only; walk1) | (dsimp only; k_unfold; (try dsimp only)) | (dsimp only [List.cons_append, List.nil_append]; walk1)))
    (with_reducible rename News _ _ _ _ => NL)
    (with_reducible rename (_ ∧ _ ∧ _ ∧ AllLt _ _) => hD)
    obtain ⟨NM, hD3, hD4⟩ := odd3 NL hD
    clear NL
    k_extra "m my_walkL"
    (((k_extra "m my_fq"); k_dflt (refine' (Ctr.use (c_recD _ _ _ _ _ _)) ?z9k1 ?z9k2 ?z9k3 ?z9k4 ?z9k5 ?z9k6 ?z9k7 ?z9k8 ?_; (case z9k1 => k_asm); (case z9k2 => k_asm); (case z9k3 => k_asm); (case z9k4 => k_asm); (case z9k5 => k_asm); (case z9k6 => first | exact rfl | assumption); (case z9k7 => k_extra "m my_rm"); (case z9k8 => k_extra "m my_rm"))))
    k_whole
    intro v8 l8 h8 tk8 hP8 F8 N8
    obtain ⟨xR, rfl, ⟨t7, ht7, rfl⟩, hRG⟩ := hP8
    (try dsimp only)
    obtain ⟨xs7, hs7, hDt, NG, hRG, hx7, hxD7, hq7⟩ := oddR N8 hRG hq6 hx6 hD4 ht7 (by assumption)
    clear N8
    k_extra "m my_walkL"
    (((k_extra "m my_fq"); k_dflt (refine' (Ctr.use (c_msg6 _ _ _ _ _ _ _ _ [] [] _ _ _ [.ref xR] 0 [(7, 5, [])] _ ?q1 .nil ?q2 ?q3 ?q4)) ?z9k1 ?z9k2 ?z9k3 ?z9k4 ?z9k5 ?z9k6 ?z9k7 ?z9k8 ?_; (case z9k1 => k_asm); (case z9k2 => k_asm); (case z9k3 => k_asm); (case z9k4 => k_asm); (case z9k5 => k_asm); (case z9k6 => first | exact rfl | assumption); (case z9k7 => k_extra "m my_rm"); (case z9k8 => k_extra "m my_rm"))))
    case q1 => exact ⟨0, .inl (.tail _ (.tail _ (.tail _ hDt)))⟩
    case q2 => exact .head _
    case q3 => simp
    case q4 => exact .cons (hRG.mono (fun p hp => .tail _ (.tail _ (.tail _ hp)))) .nil
    k_whole
    intro v8 l8 h8 tk8 hP8 F8 N8
    obtain ⟨xG, rfl, ⟨t8, ht8, rfl⟩, hMG⟩ := hP8
    (try dsimp only)
    obtain ⟨xs8, hs8, NH, hMG, hx8, hxD8, hq8⟩ := oddG N8 hMG hq7 hx7 hxD7 ht8
    clear N8
    k_extra "m my_walkL"
    (with_reducible rename News _ _ _ _ => NL)
    (with_reducible rename Fr _ _ _ _ => FL)
    have NO := odd_swap NL
    clear NL
    have hMG9 := hMG
    clear hMG
    obtain ⟨D, hDD⟩ := led_name NO
    subst hDD
    obtain ⟨mL, hmL, FM⟩ : ∃ mL : Str → Option Value, mL (Str.ofString "odd") = some (.ref D) ∧ Fr g0 L0 _ mL := ⟨_, rfl, FL⟩
    clear FL
    have NP : News g0 L0 _ ((359, tabObj qs.toArray) :: (D, PySem.W.listOf [Value.ref xA, .ref xB, .ref xC, .ref xE, .ref xF, .ref xG].toArray 1) :: xs8) := NO
    clear NO
    have hDne : D ≠ 359 := Nat.ne_of_gt hD3
    obtain ⟨vs, hvs⟩ : ∃ vs : List Value, vs = [Value.ref xA, .ref xB, .ref xC, .ref xE, .ref xF, .ref xG] := ⟨_, rfl⟩
    have hxne : ∀ p ∈ xs8, p.1 ≠ 359 := hx8
    have up7 : ∀ p ∈ xs6, p ∈ xs8 := fun p hp => hs8 p (hs7 p hp)
    have up5 : ∀ p ∈ xs4, p ∈ xs8 := fun p hp => up7 p (hs6 p (hs5 p hp))
    have h352 : (352, tabObj ps.toArray) ∈ xs8 := up5 _ (hs4 _ (hs3 _ (hs2 _ (hs1 _ h352))))
    have up3 : ∀ p ∈ xs2, p ∈ xs8 := fun p hp => up5 p (hs4 p (hs3 p hp))
    have hall : ∀ v ∈ vs, ∀ led : List (Addr × Obj), (∀ p ∈ xs8, p ∈ led) → CtrE w 50 400 (.ref 193) [v] led := by
      intro v hv led hl
      rw [hvs] at hv
      rcases List.mem_cons.mp hv with rfl | hv
      · exact e_pkq3M w xA 0 [] [] led (hMA.mono fun p hp => hl p (up3 p (hs2 p hp)))
      rcases List.mem_cons.mp hv with rfl | hv
      · exact e_pkq2M w xB 0 [] [] led (hMB.mono fun p hp => hl p (up3 p hp))
      rcases List.mem_cons.mp hv with rfl | hv
      · exact e_pkq1M w xC 0 [] [] led (hMC.mono fun p hp => hl p (up5 p (hs4 p hp)))
      rcases List.mem_cons.mp hv with rfl | hv
      · exact e_pkjoinM w xE 0 [] [] led (hME.mono fun p hp => hl p (up7 p (hs6 p hp)))
      rcases List.mem_cons.mp hv with rfl | hv
      · exact e_pkverM w xF 5 [] [] led (hMF.mono fun p hp => hl p (up7 p hp))
      rw [List.mem_singleton.mp hv]
      exact e_pkrecM w xG 0 0 7 5 [] [] led (by decide) (hMG9.mono fun p hp => hl p hp)
    rw [← hvs] at NP
    have hlen6 : vs.length = 6 := by rw [hvs]; rfl
    clear hMA hMB hMC hME hMF hMG9 up3 up5 up7 hs2 hs3 hs4 hs5 hs6 hs7 hs8 hx1 hx2 hx3 hx4 hx5 hx6 hx7 hx8 hq1 hq2 hq3 hq4 hq5 hq6 hq7 hRG hDt hxD7 hxD8 hD4 hL4 hvs hqs hcs hx0 hm1 hq0 hs1
    k_dflt (refine comp_cellF (ax := D) (vs := vs) (k0 := 1) (n0 := Str.ofString ".0") (n1 := Str.ofString "_law_refused") (k1 := .globalImplicit) (fun _ nw => OddJ w (352, tabObj ps.toArray) D (PySem.W.listOf vs.toArray 1) vs nw) rfl FM NP rfl rfl rfl rfl (by decide) (fun _ _ => rfl) ?c8 ?c9 ?c10 ?c11 ?c12 ?c13 ?c14 (fun _ => rfl))
    case c8 =>
      intro Q' hQ'
      have FS := fr_set (x := Str.ofString "odd") FM hmL
      clear FM
      k_extra "m my_walkL"
      exact hQ'
    case c9 => exact .tail _ (.head _)
    case c10 => rw [hlen6]; decide
    case c11 => exact ⟨qs, xs8, rfl, hq8, hxne, hDne, h352, hall⟩
    case c12 =>
      rintro i nw ⟨qs', xs, rfl, _⟩
      exact .tail _ (.head _)
    case c13 =>
      clear NP FM
      intro i v news I C D' K oI oC oK h' tk' E' hv hJ hdK F' N' off
      obtain ⟨qs', xs, rfl, hq', hx', _, ht', hc'⟩ := hJ
      k_extra "m my_fold"
      k_extra "m my_walkL"
      k_dflt (refine' kla_eval ?d0 ?_; (case d0 => eq_refl))
      (with_reducible rename Fr _ _ _ _ => FB)
      (with_reducible rename News _ _ _ _ => NB)
      have hoI := off _ (.head _)
      have hsep : ∀ p ∈ (I, oI) :: (C, oC) :: (D', lst []) :: (K, oK) :: (D, PySem.W.listOf vs.toArray 1) :: xs, p.1 ≠ 359 := ne_cons (Ne.symm hoI.1) (ne_cons (Ne.symm hoI.2.1) (ne_cons (Ne.symm hoI.2.2.1) (ne_cons (Ne.symm hoI.2.2.2) (ne_cons hDne hx'))))
      have NH9 := turn_head9 NB
      refine' kla_anyE (clos := [(Str.ofString "one", K)]) FB NH9 T00 CP ?e1 ?e2 hsep hq' ?e3 ?_
      case e1 => exact rfl
      case e2 => exact rfl
      case e3 => exact rfl
      intro f2 c2 oc2 qs2 new2 ctv2 h2 tk2 F2' hnew2 N2 hm2 hc2 hq2 lf1 lf2
      obtain ⟨NT, hc9⟩ := turn_led N2 hm2
      clear NB N2 NH9
      k_extra "m my_walkL"
      (
  k_dflt (refine' CtrT.use (c_refusedG 60 500 w f2 _ (.head _) ?hlam) ?z9k1 ?z9k2 ?z9k3 ?z9k4 ?z9k5 ?z9k6 ?z9k7 ?z9k8 ?z9kXB ?z9kTB ?_; (case z9k1 => k_asm); (case z9k2 => k_asm); (case z9k3 => k_asm); (case z9k4 => k_asm); (case z9k5 => k_asm); (case z9k6 => first | exact rfl | assumption); (case z9k7 => k_extra "m my_rm"); (case z9k8 => k_extra "m my_rm"); (case z9kXB => assumption); (case z9kTB => assumption)))
      case hlam =>
        clear F2' NT
        intro mean2 mg2 mb2 dp2 un2 gd2 cn2 cs2 a2 ccd2 cl2 outer2 A₀2 base2 h₀2 L2 m2 s2 Q2 E2 B2 F22 X2 N22 T22 hk2 hdp2 hun2 hraise2
        k_extra "m my_lam9"
        k_extra "m my_walkL"
        ((((k_extra "m my_fq"); k_dflt (refine' (CtrE.use (hc' v (List.mem_of_getElem? hv) _ ?hsub)) ?z9k1 ?z9k2 ?z9k3 ?z9k4 ?z9k5 ?z9k6 ?z9k7 ?z9k8 ?_; (case z9k1 => k_asm); (case z9k2 => k_asm); (case z9k3 => k_asm); (case z9k4 => k_asm); (case z9k5 => k_asm); (case z9k6 => first | exact rfl | assumption); (case z9k7 => k_extra "m my_rm"); (case z9k8 => k_extra "m my_rm"))); k_whole))
        case hsub => exact fun p hp => .tail _ (.tail _ (.tail _ (.tail _ (.tail _ (.tail _ (.tail _ (List.mem_append_right _ hp)))))))
        intro e5 h5 G5 tk5 F5 R5 U5
        k_extra "m my_passed"
        exact hraise2 _ _ _ _ (by assumption) (by assumption) (by assumption)
      k_whole
      intro v8 l8 h8 h08 tk8 hP8 T8 B8 F8 X8 N8 P8
      obtain ⟨rfl, rfl⟩ := hP8
      obtain ⟨F9, N9⟩ := turn_back T8 F8 N8
      clear T8 B8 F8 X8 N8 P8 NT
      (try dsimp only)
      k_extra "m my_walkL"
      refine ⟨rfl, _, _, (359, tabObj qs2.toArray) :: (D, PySem.W.listOf vs.toArray 1) :: (new2 ++ xs), rfl, F9, fun p hp => N9 p (turn_memB hp), ?_, qs2, new2 ++ xs, rfl, ?_, ?_, hDne, List.mem_append_right _ ht', ?_⟩
      · exact turn_off off hnew2
      · exact hq2
      · exact ne_app (fun p hp => Nat.ne_of_gt (hnew2 p hp).1) hx'
      · exact fun v hv led hl => hc' v hv led fun p hp => hl p (List.mem_append_right _ hp)
    case c14 =>
      rintro nw ⟨qs', xs, rfl, _, _, _, ht', _⟩
      intro D2 h2 tk2 F2' N2 off
      k_extra "m my_walkL"
      refine' ne_alike ?kN ?ka ?kb .nil ?ku ?_
      case kN => k_asm
      case ka => first | k_mem | exact .tail _ (.head _)
      case kb => k_mem
      case ku => first | k_extra "m my_rz" | ke_room | units_room
      k_extra "m my_walkL"
      refine' eq_alike ?kN ?ka ?kb ?kA ?ku ?_
      case kN => k_asm
      case ka => k_mem
      case kb => k_mem
      case kA => exact times_alike _ _ _ _ _ _ _ _
      case ku => first | k_extra "m my_rz" | ke_room | units_room
      (try dsimp only)
      (with_reducible rename News _ _ _ _ => NL)
      with_reducible refine And.intro ?gw ?gr
      case gr =>
        have g1 : GrownAt 352 _ := GrownAt.of (ps := ps.toArray) NL (by repeat (first | exact ht' | refine List.Mem.tail _ ?_))
        have g2 : GrownAt 359 _ := GrownAt.of (ps := qs'.toArray) NL (by k_mem)
        exact And.intro g1 (And.intro g2 trivial)
      exact law_good (by k_asm) hg
end

end Mine
set_option maxRecDepth 100000 in
set_option maxHeartbeats 8000000 in
theorem PySem.Challenge.cw_pb0553_01_holds : PySem.Challenge.rw_pb0553_01.Holds :=
  Mine.law_try
