import PyProof.Rows.All
import Wide.All
import OpenK.AllK
import Wide.FinOn
import PySem.Challenge.RW_xw0337_01
open PySem PySem.W PyProof.Rows
set_option Elab.async false
set_option maxRecDepth 100000
set_option linter.all false
set_option compiler.extract_closed false
namespace Mine
section
set_option hygiene false
local macro_rules | `(tactic| refine $f:ident (q := $q) $args*) => `(tactic| exact no.elim)
set_option maxHeartbeats 8000000 in
/-- lays the heap's and the view's words; says nothing -/
theorem hk (no : False) : PySem.Challenge.rw_xw0337_01.row.Holds := by
  k_head
end
end Mine
namespace Mine
/-- the addresses of the objects that the walks may look at -/
def hkAs : List Addr := [2, 3, 15, 17, 18, 20, 21, 22, 29, 31, 32, 34, 35, 36, 37, 38, 39, 42, 49, 50, 51, 54, 61, 62, 63, 66, 68, 69, 71, 72, 73, 75, 76, 78, 79, 80, 82, 83, 85, 86, 87, 88, 90, 91, 93, 94, 95, 96, 98, 99, 101, 102, 110, 111, 113, 114, 116, 117, 118, 120, 121, 123, 124, 125, 127, 128, 130, 131, 132, 134, 135, 137, 138, 139, 141, 142, 144, 145, 146, 148, 149, 151, 152, 153, 154, 155, 156, 157, 160, 162, 163, 165, 166, 167, 169, 170, 172, 173, 174, 176, 177, 179, 180, 181, 183, 184, 186, 187, 188, 190, 191, 193, 194, 195, 197, 198, 200, 201, 202, 204, 205, 207, 208, 209, 211, 212, 214, 215, 216, 218, 219, 221, 222, 223, 225, 226, 228, 229, 230, 232, 233, 235, 236, 237, 240, 241, 242, 244, 245, 247, 248, 249, 251, 252, 254, 255, 256, 258, 259, 261, 262, 263, 265, 266, 268, 269, 277, 279, 280, 282, 283, 284, 286, 287, 289, 290, 291, 293, 294, 296, 297, 298, 300, 301, 303, 304, 305, 307, 308, 310, 311, 312, 313, 314, 315, 316, 326, 328, 329, 331, 332, 333, 335, 336, 338, 339, 340, 342, 343, 345, 346, 347, 349, 350, 352, 353, 354, 357, 358, 359, 361, 362, 364, 365, 366, 367, 368, 369, 370, 373, 375, 376, 378, 379, 380, 382, 383, 385, 386, 387, 389, 390, 392, 393, 401, 402, 404, 405, 407, 408, 409, 411, 412, 414, 415, 416, 419, 420, 421, 423, 424, 426, 427, 428, 430, 431, 433, 434, 435, 437, 438, 440, 441, 442, 444, 445, 447, 448, 449, 450, 451, 452, 453, 456, 458, 459, 461, 462, 463, 465, 466, 468, 469, 470, 472, 473, 475, 476, 477, 479, 480, 482, 483, 484, 486, 487, 489, 490, 491, 493, 494, 496, 497, 498, 500, 501, 503, 504]
/-- what is looked at behind the top -/
noncomputable def hkX (s : Shared) : Bool := xlAt Mine.hk.view_1 [] s && recOk (RowW.records PySem.Challenge.rw_xw0337_01.row.toRowW) s
theorem hkAs_eq : ∀ P, hkAs = (Mine.hk.heap_1 P).map (·.1) := fun _ => by kernel_rfl
noncomputable abbrev hkH : Hook := kHook Mine.hk.heap_1 hkAs hkAs_eq
/-- the run of the top ends, and what is looked at behind it -/
theorem left_boot {p q : Program} {loose : List Str} {Xt : Shared → Bool} {α : Type} {Yf : Shared → α} {Ya : World → α} {N : Nat}
    (a : ∀ w : World, (fencedOpening treeTable p w N).map (fun s => (s.heap, s.gens, s.drawn, s.toks)) = some (boot_heap w.params, Array.mk [], boot_drawn, boot_toks))
    (b : ∀ (w : World) (os : OsState), (topFrom treeTable p w N ⟨boot_heap w.params, Array.mk [], boot_drawn, boot_toks, os⟩).map (fun s => openSeen q loose (importedModules p.main.body) Xt true s) = some (openGood q loose))
    (c : ∀ (w : World) (os : OsState), (topFrom treeTable p w N ⟨boot_heap w.params, Array.mk [], boot_drawn, boot_toks, os⟩).map Yf = some (Ya w)) :
    LeftO p q loose Xt Yf Ya N := fun w => by
  obtain ⟨⟨h, gs, d, k, os⟩, e, e'⟩ := Option.map_eq_some_iff.mp (a w)
  obtain ⟨rfl, rfl, rfl, rfl⟩ : h = boot_heap w.params ∧ gs = Array.mk [] ∧ d = boot_drawn ∧ k = boot_toks := by simpa using e'
  obtain ⟨s1, e1, e2⟩ := Option.map_eq_some_iff.mp (b w os)
  have e3 := c w os
  rw [e1] at e3
  unfold openEnds
  rw [e]
  show (topFrom treeTable p w N ⟨boot_heap w.params, Array.mk [], boot_drawn, boot_toks, os⟩).map _ = _
  rw [e1]
  exact congrArg some (Prod.ext e2 (Option.some.inj e3))
set_option maxHeartbeats 0 in
theorem leftA : ∀ (w : World) (os : OsState), (topFrom treeTable PySem.Challenge.rw_xw0337_01.row.toRowW.prog w 20000 ⟨boot_heap w.params, Array.mk [], boot_drawn, boot_toks, os⟩).map (fun s => openSeen Mine.hk.view_1 [Str.ofString "ones_sum", Str.ofString "checksum", Str.ofString "IpHeader"] (importedModules PySem.Challenge.rw_xw0337_01.row.toRowW.prog.main.body) hkX true s) = some (openGood Mine.hk.view_1 [Str.ofString "ones_sum", Str.ofString "checksum", Str.ofString "IpHeader"]) := by
  intro w os
  unfold topFrom
  rw [PySem.W.Fast.te14082659384304107361, PySem.W.Fast.te14364793385576792824]
  kernel_rfl
set_option maxHeartbeats 0 in
theorem leftB : ∀ (w : World) (os : OsState), (topFrom treeTable PySem.Challenge.rw_xw0337_01.row.toRowW.prog w 20000 ⟨boot_heap w.params, Array.mk [], boot_drawn, boot_toks, os⟩).map hkH.obs = some (hkH.val w) := by
  intro w os
  unfold topFrom
  rw [PySem.W.Fast.te14082659384304107361, PySem.W.Fast.te14364793385576792824]
  kernel_rfl
theorem leftL : LeftO PySem.Challenge.rw_xw0337_01.row.toRowW.prog Mine.hk.view_1 [Str.ofString "ones_sum", Str.ofString "checksum", Str.ofString "IpHeader"] hkX hkH.obs hkH.val 20000 :=
  left_boot (boot_open (by kernel_rfl) (by decide) (fun _ => by kernel_rfl)) leftA leftB
theorem hd {d : DefRec} {kwd : List (Str × Expr)} (hdef : defOf Mine.hk.view_1 PySem.Challenge.rw_xw0337_01.row.name = some (d, kwd)) (hp : PySem.Challenge.rw_xw0337_01.row.toRowW.prog.theDef PySem.Challenge.rw_xw0337_01.row.name = some (d.params, d.body, d.scope)) (hk : kwWritten? d.params.kwonlyargs d.params.kw_defaults = some kwd)
    (call : WalkO Mine.hk.view_1 [Str.ofString "ones_sum", Str.ofString "checksum", Str.ofString "IpHeader"] (XL Mine.hk.view_1 []) hkH.says PySem.Challenge.rw_xw0337_01.row.toRowW d kwd fun f vs => PySem.call f vs) : PySem.Challenge.rw_xw0337_01.Holds := by
  refine holds_law (by decide +kernel) fun said => ?_
  refine holds_open (q := Mine.hk.view_1) (loose := [Str.ofString "ones_sum", Str.ofString "checksum", Str.ofString "IpHeader"]) (Xt := hkX) (XP := XL Mine.hk.view_1 []) (Yf := hkH.obs) (Ya := hkH.val) (YP := hkH.says) (N := 20000) leftL hkH.of hkH.keeps (fun s e => xl_of s (Bool.and_eq_true_iff.mp e).1) XL.keeps hdef hp hk (fun s e => recFacts_of (Bool.and_eq_true_iff.mp e).2) (by rfl) (by assumption) (by decide +kernel) ⟨rfl, rfl, rfl, rfl, rfl, by decide +kernel⟩ ?hw call
  case hw => w_witness2
end Mine
-- Base
namespace Mine

abbrev Led := List (Addr × Obj)

/-- what a call promises, whatever stands around it -/
def Ct (w : World) (f : Addr) (vs : List Value) (news : Led) (D : Nat) (Post : Value → Led → Prop) : Prop :=
  ∀ (mean : ExcName → Option Value) (mg mb : Str → Option Value) (dp un : Nat) (gd : Option (List Code)) (cn : Str) (cs : Scope) (a : Addr) (ccd : Value) (cl : List (Str × Addr)) (outer : List Env)
    (A₀ : Around) (base h₀ : Heap) (L : Addr) (m : Str → Option Value) (s : Shared) (Q E : Value → Shared → Prop),
    Below A₀ base outer h₀ → Fr h₀ L s.heap m → (Mine.hk.heap_1 w.params).In h₀ → News h₀ L s.heap news →
    Top Mine.hk.view_1 (looseW Mine.hk.view_1 [Str.ofString "ones_sum", Str.ofString "checksum", Str.ofString "IpHeader"]) mean mg mb h₀ →
    cs.kind = .function → dp + D < recursionLimit → un + 8 * D < cLine →
    (∀ r news' h' tk', Fr h₀ L h' m → News h₀ L h' news' → Post r news' → Q r { s with heap := h', toks := tk' }) →
    wpAny (model PySem.Challenge.rw_xw0337_01.row.prog w) (ktrTop dp un gd cn cs L a ccd cl outer) (call (.ref f) vs) Q E s

/-- room that is left: numbers alone -/
theorem lim0 {a D k c : Nat} (h : a + D < c) (e : Nat.ble k D = true) : a + k < c := Nat.lt_of_le_of_lt (Nat.add_le_add_left (Nat.le_of_ble_eq_true e) a) h
theorem limz {a D c : Nat} (h : a + D < c) : a < c := Nat.lt_of_le_of_lt (Nat.le_add_right a D) h
theorem lim1 {a D i k c : Nat} (h : a + D < c) (e : Nat.ble (i + k) D = true) : a + i + k < c := by have := Nat.le_of_ble_eq_true e; omega
theorem lim2 {a D i j k c : Nat} (h : a + D < c) (e : Nat.ble (i + j + k) D = true) : a + i + j + k < c := by have := Nat.le_of_ble_eq_true e; omega
theorem lim3 {a D i j l k c : Nat} (h : a + D < c) (e : Nat.ble (i + j + l + k) D = true) : a + i + j + l + k < c := by have := Nat.le_of_ble_eq_true e; omega
theorem log_small {b : Int} (h0 : 0 < b) (h : b ≤ 2147483648) : b.natAbs.log2 < 9000 := by
  have h1 : b.natAbs < 2 ^ 40 := by omega
  have h2 : b.natAbs ≠ 0 := by omega
  have := (Nat.log2_lt h2).mpr h1
  omega

theorem Ct.use {w : World} {f : Addr} {vs : List Value} {news : Led} {D : Nat} {Post : Value → Led → Prop} {mean : ExcName → Option Value} {mg mb : Str → Option Value} {dp un : Nat} {gd : Option (List Code)} {cn : Str} {cs : Scope} {a : Addr} {ccd : Value} {cl : List (Str × Addr)} {outer : List Env}
    {A₀ : Around} {base h₀ : Heap} {L : Addr} {m : Str → Option Value} {s : Shared} {Q E : Value → Shared → Prop} (C : Ct w f vs news D Post)
    (B : Below A₀ base outer h₀) (F : Fr h₀ L s.heap m) (X : (Mine.hk.heap_1 w.params).In h₀) (N : News h₀ L s.heap news)
    (T : Top Mine.hk.view_1 (looseW Mine.hk.view_1 [Str.ofString "ones_sum", Str.ofString "checksum", Str.ofString "IpHeader"]) mean mg mb h₀)
    (hk : cs.kind = .function) (hd : dp + D < recursionLimit) (hu : un + 8 * D < cLine)
    (ret : ∀ r news' h' tk', Fr h₀ L h' m → News h₀ L h' news' → Post r news' → Q r { s with heap := h', toks := tk' }) :
    wpAny (model PySem.Challenge.rw_xw0337_01.row.prog w) (ktrTop dp un gd cn cs L a ccd cl outer) (call (.ref f) vs) Q E s :=
  C mean mg mb dp un gd cn cs a ccd cl outer A₀ base h₀ L m s Q E B F X N T hk hd hu ret

/-- the same; the goal stands as one word while the promise is taken apart -/
theorem Ct.use' {w : World} {f : Addr} {vs : List Value} {news : Led} {D : Nat} {Post : Value → Led → Prop} {mean : ExcName → Option Value} {mg mb : Str → Option Value} {dp un : Nat} {gd : Option (List Code)} {cn : Str} {cs : Scope} {a : Addr} {ccd : Value} {cl : List (Str × Addr)} {outer : List Env}
    {A₀ : Around} {base h₀ : Heap} {L : Addr} {m : Str → Option Value} {s : Shared} {Q E : Value → Shared → Prop} (C : Ct w f vs news D Post)
    (B : Below A₀ base outer h₀) (F : Fr h₀ L s.heap m) (X : (Mine.hk.heap_1 w.params).In h₀) (N : News h₀ L s.heap news)
    (T : Top Mine.hk.view_1 (looseW Mine.hk.view_1 [Str.ofString "ones_sum", Str.ofString "checksum", Str.ofString "IpHeader"]) mean mg mb h₀)
    (hk : cs.kind = .function) (hd : dp + D < recursionLimit) (hu : un + 8 * D < cLine)
    (ret : ∀ h' tk', Fr h₀ L h' m → ∀ P : Value → Led → Prop, (∀ r n, (News h₀ L h' n → Q r { s with heap := h', toks := tk' }) → P r n) → ∀ r n, Post r n → P r n) :
    wpAny (model PySem.Challenge.rw_xw0337_01.row.prog w) (ktrTop dp un gd cn cs L a ccd cl outer) (call (.ref f) vs) Q E s :=
  C.use B F X N T hk hd hu fun r n h tk F' N' hp => ret h tk F' (fun r n => News h₀ L h n → Q r { s with heap := h, toks := tk }) (fun _ _ x => x) r n hp N'

/-- how a body ends: in its own frame, over its own ledger -/
def CtRet (s₁ : Shared) (g : Heap) (L : Addr) (Post : Value → Led → Prop) (v : Value) (s' : Shared) : Prop :=
  ∃ h' tk' m' n', s' = { s₁ with heap := h', toks := tk' } ∧ Fr g L h' m' ∧ News g L h' n' ∧ Post v n'
theorem CtRet.intro {s₁ : Shared} {g h' : Heap} {L : Addr} {Post : Value → Led → Prop} {v : Value} {tk' : Nat} {m' : Str → Option Value} {n' : Led} (F : Fr g L h' m') (N : News g L h' n') (hp : Post v n') :
    CtRet s₁ g L Post v { s₁ with heap := h', toks := tk' } := ⟨h', tk', m', n', rfl, F, N, hp⟩

/-- a goal's end stands as one word while its body is walked -/
theorem hideQ {prog : Program} {w : World} {A : Around} {α : Type} {t : Sem α} {Q : α → Shared → Prop} {E : Value → Shared → Prop} {s : Shared}
    (h : ∀ Q' : α → Shared → Prop, (∀ x s', Q x s' → Q' x s') → wpAny (model prog w) A t Q' E s) : wpAny (model prog w) A t Q E s := h Q fun _ _ x => x
/-- a goal stands as one word while what stands before it is taken apart -/
theorem hideG {G : Prop} (h : ∀ P : Prop, (G → P) → P) : G := h G id

/-- what a body promises, whatever stands around its call -/
def Bd (w : World) (qual : Str) (scope : Scope) (f : Addr) (cdv : Value) (body : List Stmt) (binds : List (Str × Value)) (news : Led) (D : Nat) (Post : Value → Led → Prop) : Prop :=
  ∀ (mean : ExcName → Option Value) (mg mb : Str → Option Value) (dp un : Nat) (gd : Option (List Code)) (outer : List Env) (A₀ : Around) (base g : Heap) (L : Addr) (s : Shared),
    Below A₀ base outer g → Fr g L s.heap (fun y => binds.reverse.lookup y) → (Mine.hk.heap_1 w.params).In g → News g L s.heap news →
    Top Mine.hk.view_1 (looseW Mine.hk.view_1 [Str.ofString "ones_sum", Str.ofString "checksum", Str.ofString "IpHeader"]) mean mg mb g →
    dp + D < recursionLimit → un + 8 * D < cLine →
    wpAny (model PySem.Challenge.rw_xw0337_01.row.prog w) (ktrTop dp un gd qual scope L f cdv [] outer) (execs body (envOf qual scope L f cdv))
      (fun fl s' => CtRet s g L Post (match fl with | .ret v => v | _ => .none) s') (fun _ _ => False) s

section
variable {w : World} {name qual : Str} {params : Arguments} {body : List Stmt} {scope : Scope} {dV kV doc pm cdv ct oc : Value} {an od : Option Addr} {osl : Array (Option Value)} {f : Addr} {vs : List Value} {binds : List (Str × Value)} {news rest : Led} {D : Nat} {Post : Value → Led → Prop}
/-- a call by its body: what the body does not ask for stays as it is -/
theorem Ct.rw (ho : (Mine.hk.heap_1 w.params).lookup f = some ⟨oc, od, .func (fnOf name qual params body scope dV kV doc pm an cdv ct), osl⟩) (hcd : codeIn (Mine.hk.heap_1 w.params) cdv qual = true)
    (hbind : ∀ s : Shared, (Mine.hk.heap_1 w.params).In s.heap → BindsTo s (fnOf name qual params body scope dV kV doc pm an cdv ct) ⟨vs, []⟩ binds) (hloc : ∀ y ∈ binds, scope.names.lookup y.1 = some .local)
    (hco : scope.isCoroutine = false) (hgen : scope.isGenerator = false) (hk : scope.kind = .function) (hcell : ∀ x ∈ scope.names, x.2 ≠ .cell)
    (hap : ∀ p ∈ rest, ∀ q ∈ news, p.1 ≠ q.1) (hb : Bd w qual scope f cdv body binds news D Post) :
    Ct w f vs (news ++ rest) (D + 1) (fun r n' => ∃ n0, n' = n0 ++ rest ∧ Post r n0 ∧ ∀ p ∈ n0, ∀ q ∈ rest, p.1 ≠ q.1) := by
  intro mean mg mb dp un gd cn cs a ccd cl outer A₀ base h₀ L m s Q E B F X N T hkk hd hu ret
  refine wpAny_call ?_
  have N0 : News h₀ L s.heap news := fun p hp => N p (List.mem_append_left _ hp)
  obtain ⟨FG, BG, st, lv⟩ := groundX (A := ktrTop dp un gd cn cs L a ccd cl outer) (R := fun r s' => match r with | .ok (.ret v) => Q v s' | .ok _ => False | .error e => E e s') B F N0 rfl rfl hkk
  have hrest : ∀ p ∈ rest, (hideAll s.heap (news.map (·.1))).get? p.1 = some p.2 := fun p hp =>
    hideAll_get _ (N p (List.mem_append_right _ hp)).1 fun q => by
      obtain ⟨q, hq, e⟩ := List.mem_map.mp q
      exact hap p hp q hq e.symm
  have XG := X.keeps st
  have TG := T.keeps st
  refine codeAny_call_def (fd := fnOf name qual params body scope dV kV doc pm an cdv ct) (body := body) (binds := binds) (by show dp < recursionLimit; omega) ((X.keeps F.keep) _ _ ho) rfl (T.nolimit.keeps F.keep) (codeRec_of (X.keeps F.keep) hcd) rfl (hbind s (X.keeps F.keep)) hcell hloc (fun h₁ hns hk₁ => ?_) hco hgen hk
  have b := hb mean mg mb (dp + 1) (un + 3) gd (envX cn cs L a ccd cl :: outer) (ktrTop dp un gd cn cs L a ccd cl outer) base (hideAll s.heap (news.map (·.1))) s.heap.objs.size { s with heap := h₁, toks := s.toks + binds.length }
    BG ⟨hns, fun b o e => hk₁ b o (of_hideAll _ e), Nat.le_of_eq (hideAll_size _ _)⟩ XG
    (fun p hp => ⟨hk₁ _ _ (N0 p hp).1, Nat.ne_of_lt (Heap.lt_size (N0 p hp).1), hideAll_none _ (List.mem_map_of_mem hp)⟩) TG (by omega) (by omega)
  refine wpAny_mono b (fun fl s' hl => ?_) fun _ _ x => x.elim
  obtain ⟨h', tk', m', n', rfl, F', N', hp⟩ := hl
  refine lv _ _ ⟨_, m', n', F', N', fun Fz Nz => ?_⟩
  have hr2 : ∀ p ∈ rest, h'.get? p.1 = some p.2 := fun p hp => F'.keep _ _ (hrest p hp)
  refine ret _ (n' ++ rest) h' tk' Fz (fun p hp => ?_) ⟨n', rfl, hp, fun p hp q hq e => ?_⟩
  · rcases List.mem_append.mp hp with hp | hp
    · exact Nz p hp
    · exact ⟨hr2 p hp, (N p (List.mem_append_right _ hp)).2⟩
  · have h1 := (N' p hp).2.2
    rw [e, hrest q hq] at h1
    cases h1
theorem sub2 {a b : Addr × Obj} {l : Led} (ha : a ∈ l) (hb : b ∈ l) : ∀ p ∈ [a, b], p ∈ l := by
  intro p hp
  simp only [List.mem_cons, List.not_mem_nil, or_false] at hp
  rcases hp with rfl | rfl
  · exact ha
  · exact hb
theorem addr_in {l : Led} {a : Addr} : (l.any fun q => decide (q.1 = a)) = true ↔ ∃ q ∈ l, q.1 = a := by simp
/-- the same for a body that turns nothing -/
theorem Ct.ro {P : Value → Prop} {all : Led} (ho : (Mine.hk.heap_1 w.params).lookup f = some ⟨oc, od, .func (fnOf name qual params body scope dV kV doc pm an cdv ct), osl⟩) (hcd : codeIn (Mine.hk.heap_1 w.params) cdv qual = true)
    (hbind : ∀ s : Shared, (Mine.hk.heap_1 w.params).In s.heap → BindsTo s (fnOf name qual params body scope dV kV doc pm an cdv ct) ⟨vs, []⟩ binds) (hloc : ∀ y ∈ binds, scope.names.lookup y.1 = some .local)
    (hco : scope.isCoroutine = false) (hgen : scope.isGenerator = false) (hk : scope.kind = .function) (hcell : ∀ x ∈ scope.names, x.2 ≠ .cell)
    (hsub : ∀ p ∈ news, p ∈ all) (hb : Bd w qual scope f cdv body binds news D (fun r n => P r ∧ ∀ p ∈ news, p ∈ n)) :
    Ct w f vs all (D + 1) (fun r n' => n' = all ∧ P r) := by
  intro mean mg mb dp un gd cn cs a ccd cl outer A₀ base h₀ L m s Q E B F X N T hkk hd hu ret
  have C := Ct.rw (rest := all.filter fun p => !(news.any fun q => decide (q.1 = p.1))) ho hcd hbind hloc hco hgen hk hcell (fun p hp q hq e => by
    have h1 := (List.mem_filter.mp hp).2
    have h2 : (news.any fun q => decide (q.1 = p.1)) = true := List.any_eq_true.mpr ⟨q, hq, by simpa using e.symm⟩
    rw [h2] at h1
    cases h1) hb
  refine C mean mg mb dp un gd cn cs a ccd cl outer A₀ base h₀ L m s Q E B F X (fun p hp => ?_) T hkk hd hu ?_
  · rcases List.mem_append.mp hp with hp | hp
    · exact N p (hsub p hp)
    · exact N p (List.mem_filter.mp hp).1
  · rintro r n' h' tk' F' N' ⟨n0, rfl, ⟨hP, hn⟩, _⟩
    refine ret r all h' tk' F' (fun p hp => ?_) ⟨rfl, hP⟩
    cases hq : (news.any fun q => decide (q.1 = p.1)) with
    | false => exact N' p (List.mem_append_right _ (List.mem_filter.mpr ⟨hp, by rw [hq]; rfl⟩))
    | true =>
      obtain ⟨q, hq1, hq2⟩ := addr_in.mp hq
      have e1 := (N p hp).1
      have e2 := (N q (hsub q hq1)).1
      rw [hq2, e1] at e2
      have e3 : p = q := Prod.ext hq2.symm (Option.some.inj e2)
      exact N' p (List.mem_append_left _ (hn p (e3 ▸ hq1)))
end

/-- a goal that the walk leaves alone -/
def Hold (p : Prop) : Prop := p
theorem Hold.on {p : Prop} (h : Hold p) : p := h
theorem Hold.off {p : Prop} (h : p) : Hold p := h

/-- the calls that the walk leaves alone -/
inductive HoldAt (l : List Nat) : Prop
  | mk : HoldAt l
theorem Hold.callAt {l : List Nat} {prog : Program} {w : World} {A : Around} {n : Addr} {vs : List Value} {Q E : Value → Shared → Prop} {s : Shared} (_h : HoldAt l) (_e : l.contains n = true) (k : Hold (wpAny (model prog w) A (call (.ref n) vs) Q E s)) :
    wpAny (model prog w) A (call (.ref n) vs) Q E s := k

/-- two addresses that differ: a word that omega does not open -/
def Apart (a b : Nat) : Prop := a ≠ b
theorem Apart.ne {a b : Nat} (h : Apart a b) : a ≠ b := h
theorem Apart.of {a b : Nat} (h : a ≠ b) : Apart a b := h
structure Hdr where
  src : Int
  tgt : Int
  ident : Int
  more : Bool
  off : Int

set_option genInjectivity false in
set_option genSizeOf false in
/-- the tokens of a head's dict -/
structure HTok where
  (k0 k1 k2 k3 k4 k5 k6 k7 k8 k9 v0 v1 v2 v3 v4 v5 v8 v9 : Tok)

/-- a head's fields as its dict bears them -/
abbrev hdrEs (w : World) (H : Hdr) (kh : HTok) : List DictEntry :=
  [⟨PyData.keyHash w.params (Str.ofString "source"), .str (Str.ofString "source") kh.k0, .int H.src kh.v0⟩,
   ⟨PyData.keyHash w.params (Str.ofString "target"), .str (Str.ofString "target") kh.k1, .int H.tgt kh.v1⟩,
   ⟨PyData.keyHash w.params (Str.ofString "protocol"), .str (Str.ofString "protocol") kh.k2, .int 17 kh.v2⟩,
   ⟨PyData.keyHash w.params (Str.ofString "ident"), .str (Str.ofString "ident") kh.k3, .int H.ident kh.v3⟩,
   ⟨PyData.keyHash w.params (Str.ofString "ttl"), .str (Str.ofString "ttl") kh.k4, .int 64 kh.v4⟩,
   ⟨PyData.keyHash w.params (Str.ofString "tos"), .str (Str.ofString "tos") kh.k5, .int 0 kh.v5⟩,
   ⟨PyData.keyHash w.params (Str.ofString "dont"), .str (Str.ofString "dont") kh.k6, .bool false⟩,
   ⟨PyData.keyHash w.params (Str.ofString "more"), .str (Str.ofString "more") kh.k7, .bool H.more⟩,
   ⟨PyData.keyHash w.params (Str.ofString "offset"), .str (Str.ofString "offset") kh.k8, .int H.off kh.v8⟩,
   ⟨PyData.keyHash w.params (Str.ofString "options"), .str (Str.ofString "options") kh.k9, .bytes #[] kh.v9⟩]

/-- the ledger bears the head H at x -/
inductive HdrAt (w : World) (news : Led) (x : Addr) (H : Hdr) : Prop
  | mk (dx : Addr) (kh : HTok) (n : Nat) (h1 : (x, instObj 155 dx) ∈ news) (h2 : (dx, dictOf (hdrEs w H kh) n) ∈ news) : HdrAt w news x H

theorem HdrAt.mono {w : World} {news news' : Led} {x : Addr} {H : Hdr} (h : HdrAt w news x H) (hs : ∀ p ∈ news, p ∈ news') : HdrAt w news' x H :=
  let ⟨dx, kh, n, a, b⟩ := h
  ⟨dx, kh, n, hs _ a, hs _ b⟩
end Mine

namespace Mine
example : (PySem.Challenge.rw_xw0337_01.prog, Mine.hk.heap_1) = (PySem.Challenge.rw_xw0337_01.prog, Mine.hk.heap_1) := by
  k_fill
  rfl
local macro_rules | `(tactic| omega) => `(tactic| lia)
local macro_rules | `(tactic| k_all) => `(tactic| assumption)
local macro_rules | `(tactic| walk_at "subscriptTail Name Constant ref int") => `(tactic| (k_here; (with_reducible show wpAny _ _ (subscriptTail _ _ (Value.ref _) (Value.int _ _)) _ _ _); (with_unfolding_all refine' item_litK ?k1 ?k2 ?k3 ?k4 ?_ ?k6; (case k1 => is_list); (case k2 => decide); (case k3 => decide); (case k4 => rfl); (case k6 => with_unfolding_all rfl); k_whole)))
local macro_rules | `(tactic| walk_at "binaryOp FloorDiv int int") => `(tactic| (k_here; (with_reducible refine floordiv_int ?kbe ?_ (Or.inl (PyProof.noPylong_of_log2 (log_small ?kbp ?kbq)))); (case kbe => omega); (case kbp => omega); (case kbq => omega)))
local macro_rules | `(tactic| k_enter) => `(tactic| (refine' code_def ?k1 ?k2 ?k3 ?k4 ?k5 ?kA ?kF ?kK ?k6 ?k7 ?k8 ?k9 ?kB ?_ ?c2 ?c3 ?c4 ?c5; (case kA => exact rfl); (case kF => exact rfl); (case kK => first | exact rfl | assumption); (case k1 => k_asm); (case k2 => k_asm); (case k3 => k_asm); (case k4 => k_asm); (case k5 => k_asm); (case k6 => k_is); (case k7 => k_is); (case k8 => ktr_room); (case k9 => first | exact BindsTo.of_eq rfl | exact binds_K (by k_in) rfl (by k_is) rfl rfl rfl | fail "k_enter: no rule for these arguments"); (case c5 => decide); (case kB => exact locs rfl); (case c2 => exact rfl); (case c3 => exact rfl); (case c4 => exact rfl); k_whole; intro g' L' h' FG' F' N' B' X' T'; (try dsimp only); (try k_lift B'); (try k_fold)))
local macro_rules | `(tactic| k_units) => `(tactic| ktr_units)
set_option hygiene false in
local macro_rules | `(tactic| walk_at "ct1") => `(tactic| ((case k1 => k_asm); (case k2 => k_asm); (case k3 => k_asm); (case k5 => k_asm); (case kK => first | exact rfl | assumption); (case kd => ktr_room); (case ku => ktr_units)))
local macro_rules | `(tactic| ktr_room) => `(tactic| walk_at "lim")
local macro_rules | `(tactic| ktr_units) => `(tactic| walk_at "lim")
local macro_rules | `(tactic| walk_at "lim") => `(tactic| first | (refine' limz ?la; (case la => with_reducible assumption)) | (refine' lim0 ?la ?lb; (case la => with_reducible assumption); (case lb => exact rfl)) | (refine' lim1 ?la ?lb; (case la => with_reducible assumption); (case lb => exact rfl)) | (refine' lim2 ?la ?lb; (case la => with_reducible assumption); (case lb => exact rfl)) | (refine' lim3 ?la ?lb; (case la => with_reducible assumption); (case lb => exact rfl)))
local macro_rules | `(tactic| walk_at "call ref") => `(tactic| (k_here; k_dflt (refine' Hold.callAt ?la ?lb ?_; (case la => assumption); (case lb => exact rfl))))
local macro_rules | `(tactic| k_ne) => `(tactic| (refine neN ?_; (try dsimp only); first | exact Apart.ne (by assumption) | exact (Apart.ne (by assumption)).symm | omega))
local macro_rules | `(tactic| size_fits) => `(tactic| first | assumption | (simp only [Array.size_push, sizeLine_eq]; omega))
local macro_rules | `(tactic| walk_at "hold") => `(tactic| (k_here; (k_dflt (refine Hold.on ?_))))
-- Loops
section
example : True := by
  w_top off
  trivial
section
open PySem.Calls
variable {prog : Program} {w : World} {A : Around} {E : Value → Shared → Prop} {s : Shared} {env : Env} {h₀ : Heap} {x : Str} {body : List Stmt} {Q : Flow → Shared → Prop}

/-- what stands between two turns: the ledger and the known names, by a state of one's own -/
def StJ {σ : Type} (Lg : σ → Led) (ps : σ → List (Str × Value)) (P : σ → Prop) (x : Str) (stored : List Str) (m₀ : Str → Option Value) (m : Str → Option Value) (nx : Led) : Prop :=
  ∃ c, nx = Lg c ∧ (∀ p ∈ ps c, m p.1 = some p.2) ∧ (∀ z, z ≠ x → (∀ p ∈ ps c, z ≠ p.1) → stored.contains z = false → m z = m₀ z) ∧ P c

theorem StJ.close {σ : Type} {Lg : σ → Led} {ps : σ → List (Str × Value)} {P : σ → Prop} {stored : List Str} {m₀ m' : Str → Option Value} {own news' : Led} {L : Addr} {h' : Heap} {tk : Nat} (c : σ)
    (F : Fr h₀ L h' m') (N : News h₀ L h' news') (hn : ∀ p ∈ Lg c, p ∈ news') (ho : ∀ p ∈ own, p ∈ news') (hoff : OwnOff own ((Lg c).map (·.1)))
    (hk : ∀ p ∈ ps c, m' p.1 = some p.2) (hr : ∀ z, z ≠ x → (∀ p ∈ ps c, z ≠ p.1) → stored.contains z = false → m' z = m₀ z) (hp : P c) :
    InvEndG h₀ L (StJ Lg ps P x stored m₀) own s { s with heap := h', toks := tk } := InvEndG.intro F N ⟨c, rfl, hk, hr, hp⟩ hoff hn ho

theorem for_range {σ : Type} {r : Addr} {a₀ b₀ c₀ : Int} {t₀ u₀ v₀ : Tok} {n : Nat} {m₀ : Str → Option Value} {news : Led} (Lg : σ → Led) (ps : σ → List (Str × Value)) (stored : List Str) (P : Nat → σ → Prop) (c : σ)
    (hh : A.handled = none) (hr : IsRange s.heap r a₀ b₀ c₀ t₀ u₀ v₀) (hsmall : Builtin.Range.small a₀ b₀ c₀ = true) (hsz : Builtin.Range.rangeSize a₀ b₀ c₀ = (n : Int))
    (F : Fr h₀ env.locals s.heap m₀) (N : News h₀ env.locals s.heap news) (hn : ∀ p ∈ Lg c, p ∈ news) (hk : ∀ p ∈ ps c, m₀ p.1 = some p.2) (hp : P 0 c)
    (turn : ∀ i c t (u : Str → Option Value) h tk own, i < n → P i c → OwnOff own ((Lg c).map (·.1)) → Fr h₀ env.locals h (fun y => if y = x then some (.int (a₀ + (i : Int) * c₀) t) else kstB (fun z => if stored.contains z then u z else m₀ z) (ps c) y) → News h₀ env.locals h (Lg c ++ own) →
      wpAny (model prog w) A (execs body env) (InvPostG h₀ env.locals (StJ Lg ps (P (i + 1)) x stored m₀) own { s with heap := h, toks := tk } Q) E { s with heap := h, toks := tk })
    (done : ∀ c (u : Str → Option Value) h tk, P n c → Fr h₀ env.locals h (fun y => if y = x then u y else kstB (fun z => if stored.contains z then u z else m₀ z) (ps c) y) → News h₀ env.locals h (Lg c) → Q .next { s with heap := h, toks := tk }) :
    wpAny (model prog w) A (pyIter (.ref r)) (fun it s₂ => LoopAtV prog w A h₀ env x body Q E it s₂) E s := by
  refine wpAny_pyIter_range hr hsmall ?_
  have W : Walks prog w A s.heap.objs.size [s.heap.objs.size] [s.heap.objs.size] n (fun i v => i < n ∧ ∃ t, v = .int (a₀ + i * c₀) t)
      (fun i h => IsRangeIter h s.heap.objs.size (a₀ + (i : Nat) * c₀) ((n : Int) - (i : Nat)) c₀) := (Walks.range hh _ a₀ c₀ n).bound
  refine kdr_loop (news := Lg c) (fun i m nx => StJ Lg ps (P i) x stored m₀ m nx) W (fun _ h => h) (fun _ h => h) ?_ ?_ ?_ ?_ (by show IsRangeIter _ _ _ _ _; rw [hsz]; simpa using Heap.get?_push_size _ rfl) (F.push _) (fun p hp => ⟨Heap.get?_push_of_some _ (N p (hn p hp)).1, (N p (hn p hp)).2⟩) ⟨c, rfl, hk, fun _ _ _ _ => rfl, hp⟩ ?_ ?_
  · intro i h hi b hb
    rw [List.mem_singleton.mp hb]
    exact ⟨_, hi⟩
  · intro hm
    exact absurd F.ns.lt ((List.mem_singleton.mp hm) ▸ Nat.lt_irrefl _)
  · intro b hb
    rw [List.mem_singleton.mp hb]
    exact next_is_new F
  · intro p hp hI
    exact absurd (Heap.lt_size (N p (hn p hp)).1) ((List.mem_singleton.mp hI) ▸ Nat.lt_irrefl _)
  · rintro i v m₁ nx h tk own hi ⟨_, t, rfl⟩ hoff ⟨c', rfl, h1, h2, hp'⟩ F₁ N₁
    exact turn i c' t m₁ h tk own hi hp' hoff (kst_fr h1 h2 F₁) N₁
  · rintro m₁ nx h tk ⟨c', rfl, h1, h2, hp'⟩ F₁ N₁
    exact done c' m₁ h tk hp' (kst_frOut h1 h2 F₁) N₁

def WhEnd {σ : Type} (h₀ : Heap) (L : Addr) (s : Shared) (Lg : σ → Led) (ps : σ → List (Str × Value)) (stored : List Str) (m₀ : Str → Option Value) (P : Nat → σ → Prop) (n : Nat) (s₂ : Shared) : Prop :=
  ∃ (c' : σ) (n' : Nat) (h' : Heap) (tk : Nat) (m' : Str → Option Value) (news' : Led), s₂ = { s with heap := h', toks := tk } ∧ Fr h₀ L h' m' ∧ News h₀ L h' news' ∧ (∀ p ∈ Lg c', p ∈ news') ∧ (∀ p ∈ ps c', m' p.1 = some p.2) ∧ (∀ z, (∀ p ∈ ps c', z ≠ p.1) → stored.contains z = false → m' z = m₀ z) ∧ P n' c' ∧ n' < n
def WhPost {σ : Type} (h₀ : Heap) (L : Addr) (s : Shared) (Lg : σ → Led) (ps : σ → List (Str × Value)) (stored : List Str) (m₀ : Str → Option Value) (P : Nat → σ → Prop) (Q : Flow → Shared → Prop) (n : Nat) (f : Flow) (s₂ : Shared) : Prop :=
  match f with
  | .ret v => Q (.ret v) s₂
  | .brk => Q .next s₂
  | _ => WhEnd h₀ L s Lg ps stored m₀ P n s₂
theorem WhEnd.intro {σ : Type} {L : Addr} {Lg : σ → Led} {ps : σ → List (Str × Value)} {stored : List Str} {m₀ : Str → Option Value} {P : Nat → σ → Prop} {n : Nat} {h' : Heap} {tk : Nat} {m' : Str → Option Value} {news' : Led} (c' : σ) (n' : Nat)
    (F : Fr h₀ L h' m') (N : News h₀ L h' news') (hn : ∀ p ∈ Lg c', p ∈ news') (hk : ∀ p ∈ ps c', m' p.1 = some p.2) (hr : ∀ z, (∀ p ∈ ps c', z ≠ p.1) → stored.contains z = false → m' z = m₀ z) (hp : P n' c') (hm : n' < n) : WhEnd h₀ L s Lg ps stored m₀ P n { s with heap := h', toks := tk } :=
  ⟨c', n', h', tk, m', news', rfl, F, N, hn, hk, hr, hp, hm⟩
theorem while_st {σ : Type} {L : Addr} {test : Expr} {pos : Pos} {m₀ : Str → Option Value} {news : Led} (Lg : σ → Led) (ps : σ → List (Str × Value)) (stored : List Str) (P : Nat → σ → Prop) (n : Nat) (c : σ)
    (F : Fr h₀ L s.heap m₀) (N : News h₀ L s.heap news) (hn : ∀ p ∈ Lg c, p ∈ news) (hk : ∀ p ∈ ps c, m₀ p.1 = some p.2) (hp : P n c)
    (turn : ∀ n c (u : Str → Option Value) h tk, P n c → Fr h₀ L h (kstB (fun z => if stored.contains z then u z else m₀ z) (ps c)) → News h₀ L h (Lg c) →
      wpAny (model prog w) A (isTrue test env (eval test env)) (fun b s₂ =>
        if b = true then wpAny (model prog w) A (execs body env) (WhPost h₀ L s Lg ps stored m₀ P Q n) E s₂ else Q .next s₂) E { s with heap := h, toks := tk })
    (hE : PassesOwn (model prog w) A env E := by passes_own) :
    wpAny (model prog w) A (exec (.While test body [] pos) env) Q E s := by
  refine While_inv2 (news := Lg c) (fun n m nx => ∃ c : σ, nx = Lg c ∧ (∀ p ∈ ps c, m p.1 = some p.2) ∧ (∀ z, (∀ p ∈ ps c, z ≠ p.1) → stored.contains z = false → m z = m₀ z) ∧ P n c) F (fun p hp => N p (hn p hp)) ⟨c, rfl, hk, fun _ _ _ => rfl, hp⟩ ?_ hE
  rintro n m₁ nx h tk F₁ N₁ ⟨c, rfl, h1, h2, hp'⟩
  refine wpAny_mono (turn n c m₁ h tk hp' (ksw_fr h1 h2 F₁) N₁) (fun b s₂ p => ?_) fun _ _ x => x
  cases b with
  | false => simpa using p
  | true =>
    simp only [if_true] at p ⊢
    refine wpAny_mono p (fun f s₃ q => ?_) fun _ _ x => x
    cases f with
    | ret v => exact q
    | brk => exact q
    | next =>
      refine hideG ?_
      intro PZ bkZ
      obtain ⟨c', n', h', tk', m', news', rfl, F', N', hn, hk9, hr9, hp9, hm9⟩ := q
      refine bkZ ?_
      clear bkZ PZ
      exact ⟨h', tk', m', Lg c', n', rfl, F', fun p hp => N' p (hn p hp), hm9, c', rfl, hk9, hr9, hp9⟩
    | cont =>
      refine hideG ?_
      intro PZ bkZ
      obtain ⟨c', n', h', tk', m', news', rfl, F', N', hn, hk9, hr9, hp9, hm9⟩ := q
      refine bkZ ?_
      clear bkZ PZ
      exact ⟨h', tk', m', Lg c', n', rfl, F', fun p hp => N' p (hn p hp), hm9, c', rfl, hk9, hr9, hp9⟩
end
theorem pick_head {h₀ h : Heap} {L a : Addr} {o : Obj} {rest : Led} {G : Prop} (_N : News h₀ L h ((a, o) :: rest)) (k : ∀ b : Addr, b = a → G) : G := k a rfl
end
-- Pairs
section
example : True := by
  w_top off
  trivial
section
open PySem.Calls PySem.Spec
variable {prog : Program} {w : World} {A : Around} {E : Value → Shared → Prop} {s : Shared} {env : Env} {h₀ : Heap} {x y : Str} {body : List Stmt} {Q : Flow → Shared → Prop}

abbrev pairOf (v₁ v₂ : Value) (n : Nat) : Obj := { cls := .type "tuple", data := .seq #[v₁, v₂] n }
abbrev PairIt := (Addr × Nat) × (Value × Value)
abbrev prefs (xs : List PairIt) : List Value := xs.map fun q => .ref q.1.1
/-- a walk over a list of pairs, by what holds between its turns -/
def PairsAt (prog : Program) (w : World) (A : Around) (h₀ : Heap) (env : Env) (x y : Str) (body : List Stmt) (Q : Flow → Shared → Prop) (E : Value → Shared → Prop) (xv : Value) (s₁ : Shared) : Prop :=
  ∃ (l : Addr) (xs : List PairIt) (nn : Nat) (m₀ : Str → Option Value) (news : Led) (J : Nat → (Str → Option Value) → Led → Prop), xv = .ref l ∧ A.handled = none ∧
    (∀ i m nx, J i m nx → (l, listOf (prefs xs).toArray nn) ∈ nx) ∧ (∀ i m nx q, xs[i]? = some q → J i m nx → (q.1.1, pairOf q.2.1 q.2.2 q.1.2) ∈ nx) ∧
    Fr h₀ env.locals s₁.heap m₀ ∧ News h₀ env.locals s₁.heap news ∧ J 0 m₀ news ∧
    (∀ (i : Nat) (q : PairIt) m₁ nx h tk own, xs[i]? = some q → OwnOff own (nx.map (·.1)) → (∀ p ∈ own, p.2.cls = .type "list_iterator") → J i m₁ nx → Fr h₀ env.locals h (fun z => if z = y then some q.2.2 else if z = x then some q.2.1 else m₁ z) → News h₀ env.locals h (nx ++ own) →
      wpAny (model prog w) A (execs body env) (InvPostG h₀ env.locals (J (i + 1)) own { s₁ with heap := h, toks := tk } Q) E { s₁ with heap := h, toks := tk }) ∧
    ∀ m₁ nx h tk, J xs.length m₁ nx → Fr h₀ env.locals h m₁ → News h₀ env.locals h nx → Q .next { s₁ with heap := h, toks := tk }

theorem For_pairs {px py tp pos : Pos} {kk : Nat} {iter : Expr} {m : Str → Option Value} (_F : Fr h₀ env.locals s.heap m) (hx : env.kindOf x = some .local) (hy : env.kindOf y = some .local)
    (hp : (env.scope.kind == .class || (env.scope.kind == .module && env.locals != env.globals)) = false)
    (h : wpAny (model prog w) A (eval iter env) (PairsAt prog w A h₀ env x y body Q E) E s)
    (hs : ∀ x, foldedSetIterable iter env x = pure x := by intro _; rfl)
    (hE : PassesOwn (model prog w) A env E := by passes_own) :
    wpAny (model prog w) A (exec (.For (.Tuple [.Name x px, .Name y py] kk tp) iter body [] pos) env) Q E s := by
  refine wpAny_For (wpAny_mono h (fun xv s₁ h₁ => ?_) fun _ _ e => e) hs
  refine hideG ?_
  intro PZ bkZ
  obtain ⟨l, xs, nn, m₀, news, J, rfl, hh, hJl, hJt, F, N, hj, turn, done⟩ := h₁
  refine bkZ ?_
  clear bkZ PZ
  have hl := hJl _ _ _ hj
  have hol := (N _ hl).1
  have hls : s₁.heap.IsList l (prefs xs).toArray := ⟨_, hol, rfl, nn, rfl⟩
  have hne : l ≠ s₁.heap.objs.size := Nat.ne_of_lt (Heap.lt_size hol)
  have hI0 : h₀.get? s₁.heap.objs.size = none := next_is_new F
  have hLI : env.locals ≠ s₁.heap.objs.size := Nat.ne_of_lt F.ns.lt
  refine wpAny_pyIter_list hls ?_
  have W := Walks.list (prog := prog) (w := w) hh s₁.heap.objs.size l hne (prefs xs).toArray
  have hlen : (prefs xs).toArray.size = xs.length := by simp [prefs]
  rw [hlen] at W
  have up : ∀ b o, s₁.heap.get? b = some o → (s₁.heap.push { cls := .type "list_iterator", data := .fields #[.ref l, .int 0 0] }).get? b = some o := fun b o e => Heap.get?_push_of_some _ e
  refine codeAny_forLoop_any
    (fun k s' => ∃ h' tk m' nx i, s' = { s₁ with heap := h', toks := tk } ∧ (h'.IsListIter s₁.heap.objs.size l i ∧ h'.IsList l (prefs xs).toArray) ∧ Fr h₀ env.locals h' m' ∧ News h₀ env.locals h' nx ∧ (∀ p ∈ nx, p.1 ≠ s₁.heap.objs.size) ∧ J i m' nx ∧ i ≤ xs.length ∧ k = xs.length + 1 - i) ?_ (xs.length + 1)
    ⟨_, _, m₀, news, 0, rfl, ⟨⟨_, Heap.get?_push_size _ rfl, rfl, rfl⟩, hls.at fun o e => Heap.get?_push_of_some _ e⟩, F.keeps up, N.grown up, fun p hp => Nat.ne_of_lt (Heap.lt_size (N p hp).1), hj, Nat.zero_le _, rfl⟩
  rintro k s' hZ9
  refine hideG ?_
  intro PZ bkZ
  obtain ⟨h', tk, m', nx, i, rfl, hst, F', N', hI, hJ, hi, rfl⟩ := hZ9
  refine bkZ ?_
  clear bkZ PZ
  have next : ∀ h₂ : Heap, (∀ b o, b ∉ [s₁.heap.objs.size] → h'.get? b = some o → h₂.get? b = some o) → Fr h₀ env.locals h₂ m' ∧ News h₀ env.locals h₂ nx := fun h₂ hk₂ =>
    ⟨LCg.fr_but F' hk₂ hLI hI0, LCg.news_but N' hk₂ hI⟩
  by_cases hlt : i < xs.length
  · refine W.item i _ _ _ hlt hst fun v h₂ tk₂ hP hst₂ hk₂ => ?_
    obtain ⟨q, hq9, hv9⟩ : ∃ q, xs[i]? = some q ∧ (Value.ref q.1.1) = v := by
      have h9 : (prefs xs)[i]? = some v := by simpa using hP
      rw [List.getElem?_map] at h9
      cases hx9 : xs[i]? with
      | none => rw [hx9] at h9; cases h9
      | some q => rw [hx9] at h9; exact ⟨q, rfl, Option.some.inj h9⟩
    subst hv9
    obtain ⟨F₂, N₂⟩ := next h₂ hk₂
    have hmt := hJt _ _ _ _ hq9 hJ
    refine letGo_listiter hst₂.1 ?_
    have ht : IsTup h₂ q.1.1 #[q.2.1, q.2.2] := ⟨_, (N₂ _ hmt).1, rfl, q.1.2, rfl⟩
    refine assign_Tuple_tuple hh ht rfl rfl fun h₅ he => ?_
    have F₅ := F₂.extBut he (Nat.le_refl _)
    have he' : ∀ b o, h₂.get? b = some o → h₅.get? b = some o := fun b o e => he b o (Nat.ne_of_lt (Heap.lt_size e)) e
    refine assignInOrder_cons (wpAny_assign_Name (wpAny_storeName_local hx F₅.ns (fun h₆ hn₆ hs₆ => ?_) hp))
    have F₆ := F₅.set hn₆ hs₆
    refine assignInOrder_cons (wpAny_assign_Name (wpAny_storeName_local hy F₆.ns (fun h₇ hn₇ hs₇ => ?_) hp))
    have F₇ := F₆.set hn₇ hs₇
    refine assignInOrder_nil ?_
    have N₇ : News h₀ env.locals h₇ nx := ((N₂.grown he').set hs₆).set hs₇
    have old : ∀ b o, b ≠ env.locals → h₂.get? b = some o → h₇.get? b = some o := fun b o hb e => (hs₇.2 b hb).trans ((hs₆.2 b hb).trans (he' b o e))
    refine hideG ?_
    intro PZ bkZ
    obtain ⟨oI, hoI, hoI'⟩ := hst₂.1
    refine bkZ ?_
    clear bkZ PZ
    have hoI7 := old _ _ (Ne.symm hLI) hoI
    refine wpAny_passesOwn hE (wpAny_mono (turn i q m' nx h₇ _ [(s₁.heap.objs.size, oI)] hq9 (fun p hp b hb e => ?_) (fun p hp => by rw [List.mem_singleton.mp hp]; exact hoI'.1) hJ F₇ (fun p hp => ?_)) (fun f s₃ h₃ => ?_) fun _ _ e => e)
    · obtain ⟨q, hq, rfl⟩ := List.mem_map.mp hb
      rw [List.mem_singleton.mp hp] at e
      exact hI q hq e.symm
    · rcases List.mem_append.mp hp with hp | hp
      · exact N₇ p hp
      · rw [List.mem_singleton.mp hp]
        exact ⟨hoI7, Ne.symm hLI, hI0⟩
    · have fin : ∀ tk₂, InvEndG h₀ env.locals (J (i + 1)) [(s₁.heap.objs.size, oI)] { s₁ with heap := h₇, toks := tk₂ } s₃ → ∃ m_1, m_1 < xs.length + 1 - i ∧ ∃ h' tk m' nx i, s₃ = { s₁ with heap := h', toks := tk } ∧ (h'.IsListIter s₁.heap.objs.size l i ∧ h'.IsList l (prefs xs).toArray) ∧ Fr h₀ env.locals h' m' ∧ News h₀ env.locals h' nx ∧ (∀ p ∈ nx, p.1 ≠ s₁.heap.objs.size) ∧ J i m' nx ∧ i ≤ xs.length ∧ m_1 = xs.length + 1 - i := by
        rintro tk₂ ⟨h₈, tk₈, m₈, news₈, nx₈, rfl, F₈, N₈, hn, ho, ha, hJ₈⟩
        have N₉ : News h₀ env.locals h₈ nx₈ := fun p hp => N₈ p (hn p hp)
        refine ⟨xs.length + 1 - (i + 1), by omega, h₈, tk₈, m₈, nx₈, i + 1, rfl, ⟨⟨oI, (N₈ _ (ho _ (.head _))).1, hoI'⟩, ⟨_, (N₉ _ (hJl _ _ _ hJ₈)).1, rfl, nn, rfl⟩⟩, F₈, N₉, fun p hp e => ?_, hJ₈, hlt, rfl⟩
        exact ha _ (.head _) p.1 (List.mem_map_of_mem hp) e.symm
      cases f with
      | ret v => exact h₃
      | brk => exact h₃
      | next => exact fin _ h₃
      | cont => exact fin _ h₃
  · have hin : i = xs.length := by omega
    subst hin
    refine W.done _ _ _ hst fun h₂ tk₂ hk₂ => wpAny_execs_nil ?_
    obtain ⟨F₂, N₂⟩ := next h₂ hk₂
    exact done m' nx h₂ tk₂ hJ F₂ N₂

theorem kst_fr2 {L : Addr} {h : Heap} {ps : List (Str × Value)} {stored : List Str} {m₀ m₁ : Str → Option Value} {v₁ v₂ : Value} (h1 : ∀ p ∈ ps, m₁ p.1 = some p.2) (h2 : ∀ z, z ≠ x → (∀ p ∈ ps, z ≠ p.1) → stored.contains z = false → m₁ z = m₀ z)
    (F : Fr h₀ L h (fun z => if z = y then some v₂ else if z = x then some v₁ else m₁ z)) : Fr h₀ L h (fun z => if z = y then some v₂ else if z = x then some v₁ else kstB (fun z => if stored.contains z then m₁ z else m₀ z) ps z) := by
  have em : (fun z => if z = y then some v₂ else if z = x then some v₁ else kstB (fun z => if stored.contains z then m₁ z else m₀ z) ps z) = fun z => if z = y then some v₂ else if z = x then some v₁ else m₁ z := by
    funext z
    by_cases hy : z = y
    · rw [if_pos hy, if_pos hy]
    · rw [if_neg hy, if_neg hy]
      by_cases hx : z = x
      · rw [if_pos hx, if_pos hx]
      · rw [if_neg hx, if_neg hx]
        exact kst_off h1 h2 hx
  rw [em]
  exact F
theorem for_pairs {σ : Type} {l : Addr} {xs : List PairIt} {nn : Nat} {m₀ : Str → Option Value} {news : Led} (Lg : σ → Led) (ps : σ → List (Str × Value)) (stored : List Str) (P : Nat → σ → Prop) (c : σ)
    (hh : A.handled = none) (hl : ∀ c, (l, listOf (prefs xs).toArray nn) ∈ Lg c) (ht : ∀ (c : σ) (i : Nat) (q : PairIt), xs[i]? = some q → P i c → (q.1.1, pairOf q.2.1 q.2.2 q.1.2) ∈ Lg c)
    (F : Fr h₀ env.locals s.heap m₀) (N : News h₀ env.locals s.heap news) (hn : ∀ p ∈ Lg c, p ∈ news) (hk : ∀ p ∈ ps c, m₀ p.1 = some p.2) (hp : P 0 c)
    (turn : ∀ (i : Nat) (q : PairIt) (c : σ) (u : Str → Option Value) h tk own, xs[i]? = some q → P i c → OwnOff own ((Lg c).map (·.1)) → (∀ p ∈ own, p.2.cls = .type "list_iterator") → Fr h₀ env.locals h (fun z => if z = y then some q.2.2 else if z = x then some q.2.1 else kstB (fun z => if (y :: stored).contains z then u z else m₀ z) (ps c) z) → News h₀ env.locals h (Lg c ++ own) →
      wpAny (model prog w) A (execs body env) (InvPostG h₀ env.locals (StJ Lg ps (P (i + 1)) x (y :: stored) m₀) own { s with heap := h, toks := tk } Q) E { s with heap := h, toks := tk })
    (done : ∀ c (u : Str → Option Value) h tk, P xs.length c → Fr h₀ env.locals h (fun z => if z = x then u z else kstB (fun z => if (y :: stored).contains z then u z else m₀ z) (ps c) z) → News h₀ env.locals h (Lg c) → Q .next { s with heap := h, toks := tk }) :
    PairsAt prog w A h₀ env x y body Q E (.ref l) s := by
  refine ⟨l, xs, nn, m₀, Lg c, (fun i m nx => StJ Lg ps (P i) x (y :: stored) m₀ m nx), rfl, hh, ?_, ?_, F, (fun p hp => N p (hn p hp)), ⟨c, rfl, hk, fun _ _ _ _ => rfl, hp⟩, ?_, ?_⟩
  · rintro i m nx ⟨c', rfl, _⟩
    exact hl c'
  · rintro i m nx q hv ⟨c', rfl, _, _, hp'⟩
    exact ht c' i q hv hp'
  · rintro i q m₁ nx h tk own hv hoff hcl ⟨c', rfl, h1, h2, hp'⟩ F₁ N₁
    exact turn i q c' m₁ h tk own hv hp' hoff hcl (kst_fr2 h1 h2 F₁) N₁
  · rintro m₁ nx h tk ⟨c', rfl, h1, h2, hp'⟩ F₁ N₁
    exact done c' m₁ h tk hp' (kst_frOut h1 h2 F₁) N₁
end
end
-- BZero
section
example : True := by
  w_top off
  trivial
section
open PySem.Calls PySem.F
variable {prog : Program} {w : World} {A : Around} {E : Value → Shared → Prop} {s : Shared}
theorem bz_no_bytes : typeLookup (.type "int") "__bytes__" = pure none := by rw [typeLookup_type, builtinLookup_eq_fast]; kernel_rfl
theorem bz_index : typeLookup (.type "int") "__index__" = pure (some (.builtin "int.__index__")) := by rw [typeLookup_type, builtinLookup_eq_fast]; kernel_rfl
theorem bz_new {t : Tok} {Q : Value → Shared → Prop}
    (hQ : ∀ t k, Q (.bytes #[] t) { s with toks := k }) :
    codeAny (model prog w) A (.call (.builtin "bytes.__new__") ⟨[.type "bytes", .int 0 t], []⟩) (wants Q E) s := by
  refine codeAny_of_tree ?_
  show wpAny _ A.in1 (do checkBuiltinCall "bytes.__new__" ⟨[.type "bytes", .int 0 t], []⟩; again (.builtin "bytes.__new__" ⟨[.type "bytes", .int 0 t], []⟩)) _ _ s
  refine wpAny_bind (wpAny_of_eq (F.bm_newCall _) (wpAny_pure ⟨plainId_quiet F.bm_plain _, codeAny_builtin F.bm_entry ?_⟩))
  rw [Around.under_plainId F.bm_plain _]
  have hT : s.TypeIs (.int 0 t) "int" := typeIs_int _ _ _
  unfold Builtin.«bytes.__new__»
  refine wpAny_bind (wpAny_of_eq (a := true) rfl ?_)
  refine bm_if_false rfl ?_
  refine wpAny_bind (wpAny_of_eq F.bm_sub ?_)
  refine bm_if_false rfl ?_
  refine wpAny_bind (wpAny_of_eq (F.bm_bind _) ?_)
  refine wpAny_bind (wpAny_of_eq (a := ()) rfl ?_)
  refine wpAny_bind (wpAny_of_eq (a := ()) rfl ?_)
  refine bm_if_false rfl ?_
  refine wpAny_bind (wpAny_specialOf hT bz_no_bytes ?_)
  refine wpAny_bind (wpAny_bind ?_)
  refine wpAny_pure (wpAny_pure ?_)
  refine bm_if_false rfl ?_
  refine wpAny_bind (wpAny_specialOf hT bz_index ?_)
  refine bm_if_false rfl ?_
  refine wpAny_bind (wpAny_attempt (wpAny_of_eq (rfl : asIndex (.int 0 t) = pure 0) ?_))
  dsimp only
  refine bm_if_false rfl ?_
  rw [if_neg (by decide), if_neg (by decide)]
  refine bm_if_false rfl ?_
  refine wpAny_bind (wpAny_rule ?_)
  refine wpAny_bind (wpAny_mkBytes ?_ (by decide +kernel))
  refine bm_if_true rfl ?_
  refine wpAny_bind (wpAny_pure (wpAny_pure ?_))
  exact hQ _ _
theorem bz_typeCall (a : Value) : checkTypeCall "bytes" ⟨[a], []⟩ = pure () := by kernel_rfl
theorem call_bytes_zero {t : Tok} {Q : Value → Shared → Prop}
    (hQ : ∀ t k, Q (.bytes #[] t) { s with toks := k }) : wpAny (model prog w) A (call (.type "bytes") [.int 0 t]) Q E s := by
  refine callType_codes (Q₁ := fun obj s₁ => s₁.TypeIs obj "bytes" ∧ Q obj s₁) F.bm_called (F.bm_typeCall _) F.entry_object_init
    (bz_new fun t k => ⟨PySem.W.typeIs_bytes _ _ _, hQ t k⟩) fun obj s₁ h₁ => ?_
  exact ⟨h₁.1, F.args_object_init_2 obj _, object_init_meets F.bm_called.init.lookup F.bm_called.made (by decide) prog w A.in1 _ s₁ ⟨h₁.1, rfl, h₁.2⟩⟩
end
end
-- Later
section
example : True := by
  w_top off
  trivial
section
open PySem.Calls LCg
variable {prog : Program} {w : World} {A : Around} {E : Value → Shared → Prop} {s : Shared} {h₀ : Heap} {L : Addr} {m : Str → Option Value} {env : Env}
theorem compLoop_nil {elt target iter : Expr} {ifs : List Expr} {scope : Scope} {pos : Pos} {it acc : Value} {env : Env} {R : Result → Shared → Prop}
    (h : wpAny (model prog w) A (pyNext it) (fun r s₁ => r = none ∧ R (.ok .next) s₁) (fun _ _ => False) s) :
    codeAny (model prog w) A (.compLoop (.ListComp elt [⟨target, iter, ifs, 0⟩] scope pos) 0 it acc env) R s := by
  refine codeAny_loop rfl (fun n s' => s' = s) (fun n s' hI => ?_) 0 rfl
  subst hI
  show wpAny _ A ((compTurn (.ListComp elt [⟨target, iter, ifs, 0⟩] scope pos) 0 it acc env).onRaise (fun x => do noteFrame x env; theTreesLotGoes x)) _ _ _
  refine wpAny_noted ?_
  rw [compTurn_list]
  refine wpAny_bind (wpAny_standAt (wpAny_bind (wpAny_mono h (fun r s₁ h₁ => ?_) fun _ _ h' => h'.elim)))
  obtain ⟨rfl, h₁⟩ := h₁
  exact wpAny_pure h₁
theorem block_nil {elt target iter : Expr} {ifs : List Expr} {scope : Scope} {cl : List (Str × Addr)} {pos : Pos} {s₂ : Shared} {I : Addr} {fp : List Addr} {P : Nat → Value → Prop} {St : Nat → Heap → Prop} {news : List (Addr × Obj)}
    {RR : Value → Addr → Result → Shared → Prop}
    (W : Walks prog w A I fp [I] 0 P St)
    (hcell : ∀ y ∈ scope.names, y.2 ≠ .cell) (hkind : scope.kind = .function) (hst : St 0 s₂.heap) (hfp : ∀ b ∈ fp, b < s₂.heap.objs.size)
    (F : Fr h₀ L s₂.heap m) (N : News h₀ L s₂.heap news) (hIL : L ≠ I) (hI₀ : h₀.get? I = none) (off : ∀ p ∈ news, p.1 ≠ I)
    (hRR : ∀ D C h tk m', Fr h₀ L h m → News h₀ L h ((D, lst []) :: news) → Off1 D news → h.Ns C m' → h₀.get? C = none → h₀.get? D = none → C ≠ L → D ≠ L → C ≠ D → (∀ p ∈ news, p.1 ≠ C) → RR (.ref D) C (.ok .next) { s₂ with heap := h, toks := tk }) :
    wpAny (model prog w) A (newList []) (fun acc s₃ => wpAny (model prog w) A (newFunctionEnv scope env.globals cl [] env.qual none .none (some env)) (fun cenv s₄ =>
      codeAny (model prog w) A (.compStart (.ListComp elt [⟨target, iter, ifs, 0⟩] scope pos) 0 (.ref I) acc { cenv with scope := relabel scope env }) (RR acc cenv.locals) s₄) E s₃) E s₂ := by
  refine wpAny_newObj_type (wpAny_newFunctionEnv hcell (by intro y hy; simp at hy) (fun h₁ hns₁ hsb₁ => ?_) hkind)
  dsimp only at hns₁ hsb₁ ⊢
  generalize hH2 : s₂.heap.push { cls := .type "list", dict := none, data := .seq ([] : List Value).toArray } = H2 at hns₁ hsb₁ ⊢
  have hC : H2.objs.size = s₂.heap.objs.size + 1 := by rw [← hH2, Heap.size_push]
  have hDC : s₂.heap.objs.size ≠ H2.objs.size := by rw [hC]; exact Nat.ne_of_lt (Nat.lt_succ_self _)
  have below : ∀ b, b < s₂.heap.objs.size → b ≠ H2.objs.size ∧ b ≠ s₂.heap.objs.size := fun b hb => ⟨by rw [hC]; exact Nat.ne_of_lt (Nat.lt_succ_of_lt hb), Nat.ne_of_lt hb⟩
  have hIf : I ∈ fp := W.sub I (List.mem_singleton.mpr rfl)
  have hIlt : I < s₂.heap.objs.size := hfp I hIf
  have old : ∀ b o, s₂.heap.get? b = some o → h₁.get? b = some o := fun b o e => hsb₁.extBut b o (below b (Heap.lt_size e)).1 (Heap.get?_push_of_some _ (hH2 ▸ Heap.get?_push_of_some _ e))
  have hacc : h₁.get? s₂.heap.objs.size = some (lst []) := hsb₁.extBut _ _ hDC (Heap.get?_push_of_some _ (hH2 ▸ Heap.get?_push_size _ rfl))
  have hst₁ : St 0 h₁ := W.frame _ _ _ hst fun b _ o e => old b o e
  have fresh : ∀ a, s₂.heap.objs.size ≤ a → s₂.heap.get? a = none := fun a ha => by
    cases e : s₂.heap.get? a with
    | none => rfl
    | some o' => exact absurd (Heap.lt_size e) (Nat.not_lt.mpr ha)
  have fresh₀ : ∀ a, s₂.heap.objs.size ≤ a → h₀.get? a = none := fun a ha => by
    cases e : h₀.get? a with
    | none => rfl
    | some o' => have := F.keep a o' e; rw [fresh a ha] at this; cases this
  have hD₀ : h₀.get? s₂.heap.objs.size = none := fresh₀ _ (Nat.le_refl _)
  have hC₀ : h₀.get? H2.objs.size = none := fresh₀ _ (by rw [hC]; exact Nat.le_succ _)
  have hLlt : L < s₂.heap.objs.size := F.ns.lt
  have hDL : s₂.heap.objs.size ≠ L := Ne.symm (below L hLlt).2
  have hCL : H2.objs.size ≠ L := Ne.symm (below L hLlt).1
  have hCI : I ≠ H2.objs.size := (below I hIlt).1
  have hDI : I ≠ s₂.heap.objs.size := (below I hIlt).2
  have off₀ : Off3 I H2.objs.size s₂.heap.objs.size news := Off3.of fun p hp => ⟨off p hp, (below _ (Heap.lt_size (N p hp).1)).1, (below _ (Heap.lt_size (N p hp).1)).2⟩
  have F₁ : Fr h₀ L h₁ m := F.keeps old
  have N₁ : News h₀ L h₁ ((s₂.heap.objs.size, lst []) :: news) := fun p hp => by
    rcases List.mem_cons.mp hp with rfl | hp
    · exact ⟨hacc, hDL, hD₀⟩
    · exact ⟨old _ _ (N p hp).1, (N p hp).2⟩
  have loop : ∀ s₃ : Shared, s₃ = { s₂ with heap := h₁, toks := s₂.toks + ([] : List (Str × Value)).length } →
      codeAny (model prog w) A (.compLoop (.ListComp elt [⟨target, iter, ifs, 0⟩] scope pos) 0 (.ref I) (.ref s₂.heap.objs.size) (compEnvC scope cl H2.objs.size env))
        (RR (.ref s₂.heap.objs.size) H2.objs.size) s₃ := by
    rintro s₃ rfl
    refine compLoop_nil ?_
    refine W.done _ _ _ hst₁ fun h₂ tk₂ hk₂ => ?_
    have off3 := off₀.mem
    exact ⟨rfl, hRR _ _ h₂ tk₂ _ (fr_but F₁ hk₂ hIL hI₀) (news_but N₁ hk₂ fun p hp => by
          rcases List.mem_cons.mp hp with rfl | hp
          · exact Ne.symm hDI
          · exact (off3 p hp).1) off₀.one (hns₁.at' fun o e => hk₂ _ o (by simpa using Ne.symm hCI) e) hC₀ hD₀ hCL hDL (Ne.symm hDC) (fun p hp => (off3 p hp).2.1)⟩
  exact codeAny_compStart_list (loop _ rfl) (W.self 0 _ _ _ hst₁ (loop _ rfl))
theorem ListComp_nil {elt target iter : Expr} {ifs : List Expr} {scope : Scope} {cl : List (Str × Addr)} {pos : Pos} {Q : Value → Shared → Prop} (F₀ : Fr h₀ L s.heap m)
    (hclos : closureFor scope env = pure cl) (hcell : ∀ y ∈ scope.names, y.2 ≠ .cell) (hkind : scope.kind = .function)
    (hnames : ∀ y ∈ scope.names, y.2 = .local → scope.names.lookup y.1 = some .local)
    (h : wpAny (model prog w) A (eval iter env) (fun xv s₁ => ∃ ax k news, xv = .ref ax ∧ A.handled = none ∧ Fr h₀ L s₁.heap m ∧ News h₀ L s₁.heap news ∧ (ax, listOf #[] k) ∈ news ∧ FinE h₀ L m s₁ Q [] news) E s)
    (hs : ∀ x, foldedSetIterable iter env x = pure x := by intro _; rfl) :
    wpAny (model prog w) A (eval (.ListComp elt [⟨target, iter, ifs, 0⟩] scope pos) env) Q E s := by
  rw [eval_ListComp]
  refine wpAny_comprehension_free (use := none) rfl hs hclos hkind hnames (wpAny_mono h (fun xv s₁ h₁ => ?_) fun _ _ e => e)
  obtain ⟨ax, k, news, rfl, hh, F, N, S, R⟩ := h₁
  have hl : s₁.heap.IsList ax #[] := ⟨_, (N _ S).1, rfl, k, rfl⟩
  have hlt : ax < s₁.heap.objs.size := by obtain ⟨_, e, _⟩ := hl; exact Heap.lt_size e
  refine wpAny_pyIter_list hl ?_
  have up : ∀ b o, s₁.heap.get? b = some o → (s₁.heap.push { cls := .type "list_iterator", data := .fields #[.ref ax, .int 0 0] }).get? b = some o := fun b o e => Heap.get?_push_of_some _ e
  refine block_nil (Walks.list hh s₁.heap.objs.size ax (Nat.ne_of_lt hlt) #[]) hcell hkind ⟨⟨_, Heap.get?_push_size _ rfl, rfl, rfl⟩, hl.push _⟩ (fun b hb => ?_)
      (F.keeps up) (N.grown up) (Nat.ne_of_lt F.ns.lt) (next_is_new F) (fun p hp => Nat.ne_of_lt (Heap.lt_size (N p hp).1)) ?_
  · show b < (s₁.heap.push _).objs.size
    rw [Heap.size_push]
    rcases List.mem_cons.mp hb with rfl | hb
    · exact Nat.lt_succ_self _
    · rw [List.mem_singleton.mp hb]; exact Nat.lt_succ_of_lt hlt
  · intro D C h tk m' F' N' o1 hn hC₀ hD₀ hCL hDL hCD offC
    refine ⟨m', hn, fun h'' hs'' => R D h'' tk (F'.change hs'' hCL hC₀) (fun p hp => ?_) o1⟩
    refine ⟨hs''.extBut _ _ ?_ (N' p hp).1, (N' p hp).2⟩
    rcases List.mem_cons.mp hp with rfl | hp
    · exact Ne.symm hCD
    · exact offC p hp
end
local macro_rules | `(tactic| walk_at "eval ListComp") => `(tactic| k_dflt (k_here; (refine ListComp_nil (F₀ := by k_asm) (by rfl) (by decide) (by rfl) (by decide) ?_); walk1; (refine ⟨_, _, _, rfl, rfl, by k_asm, by k_asm, by k_mem, ?_⟩); intro D' h' tk' F' N' o'; (try dsimp only); (try k_sweep)))
local macro_rules | `(tactic| walk_at "call type:bytes") => `(tactic| (k_here; (with_reducible show wpAny _ _ (call (Value.type "bytes") [Value.int _ _]) _ _ _); k_dflt (refine call_bytes_zero ?_); intro t' k'; (try dsimp only)))
local macro_rules | `(tactic| walk_at "exec For Tuple Name cons nil") => `(tactic| (k_here; (rename Fr _ _ _ _ => lF'); (with_unfolding_all refine' For_pairs lF' ?k1 ?k2 ?k3 ?_; (case k1 => exact rfl); (case k2 => exact rfl); (case k3 => exact rfl); k_whole)))
set_option maxHeartbeats 4000000 in
theorem later_ct {w : World} {news : Led} {t : Tok} :
    Ct w 248 [.bytes #[] t] news 15 (fun r news' => ∃ t, r = .bytes #[] t ∧ news' = news) := by
  unfold Ct
  intro mean mg mb dp un gd cn cs ad ccd cl outer A₀ base h₀ L m s Q E B F X N T hk hd hu hret
  refine wpAny_call ?_
  k_dflt k_enter
  k_steps
  rename Fr _ _ _ _ => hF
  rename News _ _ _ _ => hN
  with_unfolding_all refine' for_pairs (σ := Unit) (xs := []) (fun _ => _) (fun _ => []) [] (fun _ _ => True) () rfl ?hl ?ht hF hN (fun _ h => h) ?hk trivial ?turn ?done
  case hl => exact fun _ => by k_mem
  case ht => intro c i v hv; cases hv
  case hk => exact fun _ h => nomatch h
  case turn => intro i q c u h tk own hv; cases hv
  case done =>
    intro c u h tk _ hF hN
    dsimp only [kstB] at hF hN
    try k_fold
    k_steps
    exact hret _ _ _ _ (by assumption) (cb_drop (by assumption) fun p hp => List.mem_cons_of_mem _ (List.mem_cons_of_mem _ hp)) ⟨_, rfl, rfl⟩
end
-- MkHdr
section
example : True := by
  w_top off
  trivial
set_option maxHeartbeats 4000000 in
theorem mkHdr_ct {w : World} {news : Led} {H : Hdr} {t0 t1 t2 t3 t4 t5 t8 t9 : Tok} :
    Ct w 155 [.int H.src t0, .int H.tgt t1, .int 17 t2, .int H.ident t3, .int 64 t4, .int 0 t5, .bool false, .bool H.more, .int H.off t8, .bytes #[] t9] news 3
      (fun r news' => ∃ x dx kh n, r = .ref x ∧ news' = (x, instObj 155 dx) :: (dx, dictOf (hdrEs w H kh) n) :: news ∧ (∀ p ∈ news, p.1 < dx) ∧ dx < x) := by
  unfold Ct
  k_fill
  intro mean mg mb dp un gd cn cs ad ccd cl outer A₀ base h₀ L m s Q E B F X N T hk hd hu hret
  k_steps
  exact hret _ _ _ _ (by assumption) (by assumption) ⟨_, _, ⟨_, _, _, _, _, _, _, _, _, _, _, _, _, _, _, _, _, _⟩, _, rfl, rfl, by assumption, by assumption⟩
theorem mkHdrF_ct {w : World} {news : Led} {src tgt ident off : Int} {more : Bool} {t0 t1 t2 t3 t4 t5 t8 t9 : Tok} :
    Ct w 155 [.int src t0, .int tgt t1, .int 17 t2, .int ident t3, .int 64 t4, .int 0 t5, .bool false, .bool more, .int off t8, .bytes #[] t9] news 3
      (fun r news' => ∃ x dx kh n, r = .ref x ∧ news' = (x, instObj 155 dx) :: (dx, dictOf (hdrEs w ⟨src, tgt, ident, more, off⟩ kh) n) :: news ∧ (∀ p ∈ news, p.1 < dx) ∧ dx < x) :=
  mkHdr_ct (H := ⟨src, tgt, ident, more, off⟩)
end
-- Room
section
local macro_rules | `(tactic| walk_at "pad") => `(tactic| skip)
example : True := by
  w_top off
  trivial
def roomN (m : Int) : Nat := ((m - 20) / 8 * 8).toNat
theorem roomN_eq {m : Int} (h1 : 28 ≤ m) : (m - 20) / 8 * 8 = ((roomN m : Nat) : Int) := by unfold roomN; omega
theorem roomN_le {m : Int} (h1 : 28 ≤ m) : 8 ≤ roomN m ∧ ((roomN m : Nat) : Int) ≤ m - 20 ∧ roomN m % 8 = 0 := by unfold roomN; omega
set_option maxHeartbeats 4000000 in
theorem room_ct {w : World} {news : Led} {m z : Int} {tm tz : Tok} (h1 : 28 ≤ m) (h2 : m ≤ 48) (hz : z = 20) :
    Ct w 262 [.int m tm, .int z tz] news 5 (fun r news' => ∃ t, r = .int ((roomN m : Nat) : Int) t ∧ news' = news) := by
  subst hz
  have hq : (m - 20).fdiv 8 = (m - 20) / 8 := Int.fdiv_eq_ediv_of_nonneg _ (by decide)
  unfold Ct
  intro mean mg mb dp un gd cn cs ad ccd cl outer A₀ base h₀ L m s Q E B F X N T hk hd hu hret
  refine wpAny_call ?_
  k_dflt k_enter
  k_steps
  rw [hq, roomN_eq h1]
  exact hret _ _ _ _ (by assumption) (by assumption) ⟨_, rfl, rfl⟩
end
-- Cut
section
example : True := by
  w_top off
  trivial
structure Pc where
  t : Addr
  x : Addr
  off : Int
  more : Bool
  b : Array UInt8
  tb : Tok
  n : Nat
/-- the ledger bears the piece p of a datagram -/
def PcAt (w : World) (nw : Led) (src tgt ident : Int) (p : Pc) : Prop := (p.t, pairOf (.ref p.x) (.bytes p.b p.tb) p.n) ∈ nw ∧ HdrAt w nw p.x ⟨src, tgt, ident, p.more, p.off⟩
theorem PcAt.mono {w : World} {nw nw' : Led} {src tgt ident : Int} {p : Pc} (h : PcAt w nw src tgt ident p) (hs : ∀ q ∈ nw, q ∈ nw') : PcAt w nw' src tgt ident p := ⟨hs _ h.1, h.2.mono hs⟩
abbrev pcs (ps : List Pc) : List Value := ps.map fun p => .ref p.t
/-- what cut gives back: k pieces of R octets, the last one of what is left -/
def CutOk (N : Nat) (m d off : Int) (more : Bool) (ps : List Pc) : Prop :=
  ∃ R : Nat, 8 ≤ R ∧ R % 8 = 0 ∧ ((N : Int) + 20 ≤ m → ps.length = 1) ∧ (¬ (N : Int) + 20 ≤ m → 2 ≤ ps.length ∧ (ps.length - 1) * R < N) ∧ 1 ≤ ps.length ∧
    ∀ i p, ps[i]? = some p → p.off = off + ((i * R : Nat) : Int) ∧ p.more = (if i + 1 = ps.length then more else true) ∧ KBw.bInts p.b = List.replicate (if i + 1 = ps.length then N - i * R else R) d
theorem pcs_push {ps : List Pc} {p : Pc} : (pcs (ps ++ [p])).toArray = (pcs ps).toArray.push (.ref p.t) := by simp [pcs]
theorem CutOk.last {N : Nat} {m d off : Int} {more : Bool} {cps : List Pc} {ci R : Nat} {p : Pc} (hl : cps.length = ci) (h8 : 8 ≤ R) (h3 : R % 8 = 0) (hbig : ¬ (N : Int) + 20 ≤ m) (hlt : ci * R < N) (hle : 20 + ((N : Int) - ((ci * R : Nat) : Int)) ≤ m)
    (p7 : ∀ (i : Nat) (p : Pc), cps[i]? = some p → p.off = off + ((i * R : Nat) : Int) ∧ p.more = true ∧ KBw.bInts p.b = List.replicate R d)
    (ho : p.off = off + ((ci * R : Nat) : Int)) (hm : p.more = more) (hb : KBw.bInts p.b = List.replicate (N - ci * R) d) : CutOk N m d off more (cps ++ [p]) := by
  have hci : 1 ≤ ci := by
    rcases Nat.eq_zero_or_pos ci with h | h
    · subst h
      simp only [Nat.zero_mul] at hle
      omega
    · exact h
  refine ⟨R, h8, h3, fun h => absurd h hbig, fun _ => ⟨?_, ?_⟩, ?_, fun i q hq => ?_⟩
  · simp only [List.length_append, List.length_singleton]; omega
  · simp only [List.length_append, List.length_singleton, Nat.add_sub_cancel, hl]; exact hlt
  · simp only [List.length_append, List.length_singleton]; omega
  · simp only [List.length_append, List.length_singleton, hl]
    by_cases hi : i < ci
    · rw [List.getElem?_append_left (by omega)] at hq
      refine hideG ?_
      intro PZ bkZ
      obtain ⟨a1, a2, a3⟩ := p7 i q hq
      refine bkZ ?_
      clear bkZ PZ
      rw [if_neg (by omega), if_neg (by omega)]
      exact ⟨a1, a2, a3⟩
    · rw [List.getElem?_append_right (by omega)] at hq
      have hi2 : i - cps.length = 0 := by
        rcases Nat.eq_zero_or_pos (i - cps.length) with h | h
        · exact h
        · rw [List.getElem?_eq_none (by simp only [List.length_singleton]; omega)] at hq
          cases hq
      rw [hi2] at hq
      have hqp : p = q := by simpa using hq
      subst hqp
      have hic : i = ci := by omega
      subst hic
      rw [if_pos rfl, if_pos rfl]
      exact ⟨ho, hm, hb⟩
theorem cut_tail {b : Array UInt8} {ks : List Int} {N ca : Nat} {d : Int} (h : KBw.bInts b = List.take (ks.length - min ca ks.length) (List.drop (min ca ks.length) ks)) (hks : ks = List.replicate N d) (hlt : ca < N) : KBw.bInts b = List.replicate (N - ca) d := by
  rw [h, hks]
  simp only [List.length_replicate, List.drop_replicate, List.take_replicate]
  congr 1
  omega
theorem cut_part {b : Array UInt8} {ks : List Int} {N ca R : Nat} {d : Int} (h : KBw.bInts b = List.take (clipAt ks.length ((ca : Int) + (R : Int)) - min ca ks.length) (List.drop (min ca ks.length) ks)) (hks : ks = List.replicate N d) (hlt : ca + R ≤ N) : KBw.bInts b = List.replicate R d := by
  rw [h, hks, ← Int.natCast_add, clipAt_nat]
  simp only [List.length_replicate, List.drop_replicate, List.take_replicate]
  congr 1
  omega
set_option genInjectivity false in
set_option genSizeOf false in
structure CutSt where
  i : Nat
  a : Nat
  ps : List Pc
  nn : Nat
  rest : Led
  ta : Tok
  ot : Tok
section
local macro_rules | `(tactic| walk_at "exec While Constant cons nil") => `(tactic| walk_at "hold")
local macro_rules | `(tactic| walk_at "WhPost") => `(tactic| (dsimp only [WhPost]))
set_option maxHeartbeats 8000000 in
theorem cut_ct {w : World} {H : Hdr} {x dx : Addr} {m : Int} {tm tb : Tok} {b : Array UInt8} {N : Nat} {d : Int} {ks : List Int} {rest : Led} {kh : HTok} {n : Nat} (h1 : 28 ≤ m) (h2 : m ≤ 48) (hN : N ≤ 48) (hb : KBw.bInts b = ks) (hlen : ks.length = N) (hks : ks = List.replicate N d)
    (ha : ∀ p ∈ rest, ∀ q ∈ [(x, instObj 155 dx), (dx, dictOf (hdrEs w H kh) n)], p.1 ≠ q.1) (hxd : x ≠ dx) :
    Ct w 269 [.ref x, .bytes b tb, .int m tm] ([(x, instObj 155 dx), (dx, dictOf (hdrEs w H kh) n)] ++ rest) 24 (fun r n' => ∃ n0, n' = n0 ++ rest ∧
      (∃ l nn ps, r = .ref l ∧ (l, listOf (pcs ps).toArray nn) ∈ n0 ∧ (∀ p ∈ ps, PcAt w n0 H.src H.tgt H.ident p) ∧ CutOk N m d H.off H.more ps ∧ ∀ p ∈ [(x, instObj 155 dx), (dx, dictOf (hdrEs w H kh) n)], p ∈ n0) ∧ ∀ p ∈ n0, ∀ q ∈ rest, p.1 ≠ q.1) := by
  refine' Ct.rw ?ho ?hcd ?hbind ?hloc ?hco ?hgen ?hk ?hcell ?hap ?hb
  case ho => k_is
  case hcd => k_is
  case hbind => (intro s hX; first | exact BindsTo.of_eq rfl | exact binds_K hX rfl (by k_is) rfl rfl rfl)
  case hloc => exact locs rfl
  case hco => exact rfl
  case hgen => exact rfl
  case hk => exact rfl
  case hcell => decide
  case hap => exact ha
  case hb =>
  unfold Bd
  intro mean mg mb dp un gd outer A₀ base g L s B F X N T hd hu
  refine hideQ ?_
  intro Qz bkz
  (try dsimp only)
  have hq9 : HoldAt [248, 262, 155] := .mk
  (k_steps; (repeat' (unfold Hold; (first | (k_here; k_dflt (refine' Ct.use' later_ct ?k1 ?k2 ?k3 ?k4 ?k5 ?kK ?kd ?ku ?_; walk_at "ct1"; (case k4 => k_asm); k_whole; (intro zh9 ztk9 zF9 zP7 zbk7 zr9 znw9); (rintro ⟨zt9, ze8, ze9⟩); (try subst ze8); (try subst ze9); (refine zbk7 _ _ ?_); (clear zbk7 zP7); (intro zN9); (try k_lt zl1); (try k_lt2 zl2); (try dsimp only); (try k_sweep); (try k_fold))) | (k_here; k_dflt (refine' Ct.use' (room_ct ?c1 ?c2 ?c3) ?k1 ?k2 ?k3 ?k4 ?k5 ?kK ?kd ?ku ?_; walk_at "ct1"; (case k4 => k_asm); (case c1 => assumption); (case c2 => assumption); (case c3 => rfl); k_whole; (intro zh9 ztk9 zF9 zP7 zbk7 zr9 znw9); (rintro ⟨zt9, ze8, ze9⟩); (try subst ze8); (try subst ze9); (refine zbk7 _ _ ?_); (clear zbk7 zP7); (intro zN9); (try k_lt zl1); (try k_lt2 zl2); (try dsimp only); (try k_sweep); (try k_fold))) | (k_here; k_dflt (refine' Ct.use' mkHdrF_ct ?k1 ?k2 ?k3 ?k4 ?k5 ?kK ?kd ?ku ?_; walk_at "ct1"; (case k4 => k_asm); k_whole; (intro zh9 ztk9 zF9 zP7 zbk7 zr9 znw9); (rintro ⟨zx9, zdx9, zkh9, zn9, ze8, ze9, zl1, zl2⟩); (try subst ze8); (try subst ze9); (refine zbk7 _ _ ?_); (clear zbk7 zP7); (intro zN9); (try k_lt zl1); (try k_lt2 zl2); (try dsimp only); (try k_sweep); (try k_fold)))); k_steps)))
  · refine bkz _ _ <| CtRet.intro (by assumption) (by assumption) ⟨_, 0, [⟨_, x, H.off, H.more, b, tb, 0⟩], rfl, by k_mem, ?_, ⟨8, by omega, by omega, fun _ => rfl, ?_, Nat.le_refl _, ?_⟩, by ((repeat (first | exact List.forall_mem_nil _ | (refine List.forall_mem_cons.mpr ⟨(by k_mem), ?_⟩))))⟩
    · intro p hp
      rw [List.mem_singleton.mp hp]
      exact ⟨by k_mem, by (refine' ⟨_, _, _, ?hm1, ?hm2⟩; (case hm1 => k_mem); (case hm2 => k_mem))⟩
    · intro h9
      exfalso
      rename (20 + _ + _ ≤ m) => h8
      simp only [Array.size_empty] at h8
      omega
    · intro i p hp
      match i, hp with
      | 0, hp =>
        cases hp
        refine ⟨by simp, by simp, ?_⟩
        rw [hb, hks]; simp
  · unfold Hold
    rename Fr _ _ _ _ => hF
    rename (¬ (20 + _ + _ ≤ m)) => h8
    have hbig : ¬ ((N : Int) + 20 ≤ m) := by
      simp only [Array.size_empty] at h8
      omega
    refine hideG ?_
    intro PZ bkZ
    obtain ⟨hR8, hRm, hR3⟩ := roomN_le h1
    refine bkZ ?_
    clear bkZ PZ
    rename News _ _ _ _ => hNN
    refine pick_head hNN ?_
    intro l0 e0
    subst e0
    with_unfolding_all refine' while_st (σ := CutSt) (fun c => (l0, listOf (pcs c.ps).toArray c.nn) :: (x, instObj 155 dx) :: (dx, dictOf (hdrEs w H kh) n) :: c.rest) (fun c => [(Str.ofString "at", Value.int ((c.a : Nat) : Int) c.ta), (Str.ofString "options", Value.bytes #[] c.ot)]) [Str.ofString "head", Str.ofString "left", Str.ofString "room"] (fun k c => c.ps.length = c.i ∧ c.a = c.i * roomN m ∧ c.a < N ∧ k = N - c.a ∧ (∀ p ∈ c.ps, PcAt w c.rest H.src H.tgt H.ident p) ∧ (∀ p ∈ c.rest, p.1 ≠ l0) ∧ ∀ i p, c.ps[i]? = some p → p.off = H.off + ((i * roomN m : Nat) : Int) ∧ p.more = true ∧ KBw.bInts p.b = List.replicate (roomN m) d) N ⟨0, 0, [], 0, [], _, _⟩ hF hNN ?hn ?hk ?hp ?turn ?hE
    case hE => exact PassesOwn.never
    case hn => exact fun _ h => h
    case hk => kst_all
    case hp => exact ⟨rfl, by simp, by (show 0 < N); omega, rfl, by (intro p hp; cases hp), by (intro p hp; cases hp), fun i p h => by simp at h⟩
    clear hF hNN
    intro wn wc wu wh wtk wp wF wN
    refine hideG ?_
    intro PZ bkZ
    obtain ⟨ci, ca, cps, cnn, crest, cta, cot⟩ := wc
    refine bkZ ?_
    clear bkZ PZ
    dsimp only [kstB] at wF wp wN
    refine hideG ?_
    intro PZ bkZ
    obtain ⟨p1, p2, p3, p4, p5, p6, p7⟩ := wp
    refine bkZ ?_
    clear bkZ PZ
    have hi48 : ci * 8 ≤ ca := by rw [p2]; exact Nat.mul_le_mul_left _ hR8
    have hsz : (pcs cps).toArray.size ≤ sizeLine := by simp only [pcs, List.size_toArray, List.length_map]; rw [sizeLine_eq]; omega
    show wpAny _ _ _ _ _ _
    k_fold
    (k_steps; (repeat' (unfold Hold; (first | (k_here; k_dflt (refine' Ct.use' later_ct ?k1 ?k2 ?k3 ?k4 ?k5 ?kK ?kd ?ku ?_; walk_at "ct1"; (case k4 => k_asm); k_whole; (intro zh9 ztk9 zF9 zP7 zbk7 zr9 znw9); (rintro ⟨zt9, ze8, ze9⟩); (try subst ze8); (try subst ze9); (refine zbk7 _ _ ?_); (clear zbk7 zP7); (intro zN9); (try k_lt zl1); (try k_lt2 zl2); (try dsimp only); (try k_sweep); (try k_fold))) | (k_here; k_dflt (refine' Ct.use' (room_ct ?c1 ?c2 ?c3) ?k1 ?k2 ?k3 ?k4 ?k5 ?kK ?kd ?ku ?_; walk_at "ct1"; (case k4 => k_asm); (case c1 => assumption); (case c2 => assumption); (case c3 => rfl); k_whole; (intro zh9 ztk9 zF9 zP7 zbk7 zr9 znw9); (rintro ⟨zt9, ze8, ze9⟩); (try subst ze8); (try subst ze9); (refine zbk7 _ _ ?_); (clear zbk7 zP7); (intro zN9); (try k_lt zl1); (try k_lt2 zl2); (try dsimp only); (try k_sweep); (try k_fold))) | (k_here; k_dflt (refine' Ct.use' mkHdrF_ct ?k1 ?k2 ?k3 ?k4 ?k5 ?kK ?kd ?ku ?_; walk_at "ct1"; (case k4 => k_asm); k_whole; (intro zh9 ztk9 zF9 zP7 zbk7 zr9 znw9); (rintro ⟨zx9, zdx9, zkh9, zn9, ze8, ze9, zl1, zl2⟩); (try subst ze8); (try subst ze9); (refine zbk7 _ _ ?_); (clear zbk7 zP7); (intro zN9); (try k_lt zl1); (try k_lt2 zl2); (try dsimp only); (try k_sweep); (try k_fold)))); k_steps)))
    · rename (20 + _ + _ ≤ m) => h9
      simp only [Array.size_empty] at h9
      refine' bkz _ _ <| CtRet.intro ?F ?N ⟨l0, _, cps ++ [⟨_, _, H.off + (ca : Int), H.more, KBy.picked b (some ((ca : Nat) : Int)) none, _, _⟩], rfl, ?mem, ?pc, ?ok, ?sub⟩
      case F => assumption
      case N => assumption
      case mem => rw [pcs_push]; k_mem
      case pc =>
        intro p hp
        rcases List.mem_append.mp hp with hp | hp
        · exact (p5 p hp).mono fun q hq => by (repeat refine List.mem_cons_of_mem _ ?_); exact hq
        · rw [List.mem_singleton.mp hp]
          exact ⟨by k_mem, by (refine' ⟨_, _, _, ?hm1, ?hm2⟩; (case hm1 => k_mem); (case hm2 => k_mem))⟩
      case ok => exact CutOk.last p1 hR8 hR3 hbig (by omega) (by rw [← p2]; omega) p7 (by rw [← p2]) rfl (by rw [← p2]; exact cut_tail (by assumption) hks p3)
      case sub => ((repeat (first | exact List.forall_mem_nil _ | (refine List.forall_mem_cons.mpr ⟨(by k_mem), ?_⟩))))
    · rename (¬ (20 + _ + _ ≤ m)) => h9
      simp only [Array.size_empty] at h9
      obtain ⟨D9, x9, tb9, e1, e2, e3, hN9, hP9, q1, q2, q3⟩ : ∃ (D9 x9 : Addr) (tb9 : Tok) (e1 e2 e3 : Addr × Obj), News g L _ (e1 :: e2 :: e3 :: (l0, listOf ((pcs cps).toArray.push (.ref D9)) (cnn + 1)) :: (x, instObj 155 dx) :: (dx, dictOf (hdrEs w H kh) n) :: crest) ∧ PcAt w [e1, e2, e3] H.src H.tgt H.ident ⟨D9, x9, H.off + (ca : Int), true, KBy.picked b (some ((ca : Nat) : Int)) (some ((ca : Int) + (roomN m : Int))), tb9, 0⟩ ∧ e1.1 ≠ l0 ∧ e2.1 ≠ l0 ∧ e3.1 ≠ l0 :=
        ⟨_, _, _, _, _, _, by assumption, ⟨by k_mem, by (refine' ⟨_, _, _, ?hm1, ?hm2⟩; (case hm1 => k_mem); (case hm2 => k_mem))⟩, by k_ne, by k_ne, by k_ne⟩
      have hlt9 : ca + roomN m < N := by omega
      refine WhEnd.intro ⟨ci + 1, ca + roomN m, cps ++ [⟨D9, x9, H.off + (ca : Int), true, KBy.picked b (some ((ca : Nat) : Int)) (some ((ca : Int) + (roomN m : Int))), tb9, 0⟩], cnn + 1, e1 :: e2 :: e3 :: crest, _, _⟩ (N - (ca + roomN m)) (by assumption) hN9 ?_ (by kst_all) (by ksw_same) ?_ (by omega)
      · refine List.forall_mem_cons.mpr ⟨?_, List.forall_mem_cons.mpr ⟨by k_mem, List.forall_mem_cons.mpr ⟨by k_mem, ?_⟩⟩⟩
        · rw [pcs_push]; k_mem
        · refine List.forall_mem_cons.mpr ⟨List.Mem.head _, ?_⟩
          refine List.forall_mem_cons.mpr ⟨List.Mem.tail _ (List.Mem.head _), ?_⟩
          refine List.forall_mem_cons.mpr ⟨List.Mem.tail _ (List.Mem.tail _ (List.Mem.head _)), ?_⟩
          intro q hq
          (repeat refine List.mem_cons_of_mem _ ?_); exact hq
      · refine ⟨by rw [List.length_append, List.length_singleton, p1], by rw [Nat.add_mul, ← p2, Nat.one_mul], hlt9, rfl, ?_, ?_, ?_⟩
        · intro p hp
          rcases List.mem_append.mp hp with hp | hp
          · exact (p5 p hp).mono fun q hq => by (repeat refine List.mem_cons_of_mem _ ?_); exact hq
          · rw [List.mem_singleton.mp hp]
            exact hP9.mono fun q hq => List.mem_append_left crest hq
        · exact List.forall_mem_cons.mpr ⟨q1, List.forall_mem_cons.mpr ⟨q2, List.forall_mem_cons.mpr ⟨q3, p6⟩⟩⟩
        · intro i q hq
          by_cases hi : i < ci
          · rw [List.getElem?_append_left (by omega)] at hq
            exact p7 i q hq
          · rw [List.getElem?_append_right (by omega)] at hq
            have hi2 : i - cps.length = 0 := by
              rcases Nat.eq_zero_or_pos (i - cps.length) with h | h
              · exact h
              · rw [List.getElem?_eq_none (by simp only [List.length_singleton]; omega)] at hq
                cases hq
            rw [hi2] at hq
            cases hq
            have hic : i = ci := by omega
            subst hic
            exact ⟨by rw [← p2], rfl, cut_part (by assumption) hks (by omega)⟩
end
end
-- Fold
section
example : True := by
  w_top off
  trivial
theorem fold_eq {n : Int} : Builtin.bitAnd n 65535 + n.fdiv (2 ^ Int.toNat 16) = n % 65536 + n / 65536 := by
  rw [bitAnd_m16, show ((2 : Int) ^ Int.toNat 16) = 65536 from by decide, Int.fdiv_eq_ediv_of_nonneg _ (by decide)]
section
local macro_rules | `(tactic| walk_at "WhPost") => `(tactic| (dsimp only [WhPost]))
set_option maxHeartbeats 4000000 in
theorem fold_ct {w : World} {news : Led} {n : Int} {t : Tok} (hz : 0 ≤ n) (hz2 : n < 4294967296) :
    Ct w 86 [.int n t] news 3 (fun r news' => ∃ c t, r = .int c t ∧ 0 ≤ c ∧ c ≤ 65535 ∧ news' = news) := by
  unfold Ct
  k_fill
  intro mean mg mb dp un gd cn cs ad ccd cl outer A₀ base h₀ L m s Q E B F X N T hk hd hu hret
  refine wpAny_call ?_
  k_dflt k_enter
  walk1
  walk1
  rename Fr _ _ _ _ => hF
  rename News _ _ _ _ => hN
  with_unfolding_all refine' while_st (σ := Int × Tok) (fun _ => news) (fun c => [(Str.ofString "total", Value.int c.1 c.2)]) [] (fun k c => 0 ≤ c.1 ∧ c.1 < 4294967296 ∧ c.1.toNat = k) n.toNat (n, t) hF hN ?hn ?hk ?hp ?turn
  case hn => exact fun _ h => h
  case hk => kst_all
  case hp => exact ⟨hz, hz2, rfl⟩
  clear hF hN
  intro wn wc wu wh wtk wp wF wN
  obtain ⟨tot, ttk⟩ := wc
  dsimp only [kstB] at wF wp wN
  obtain ⟨wp1, wp2, wp3⟩ := wp
  k_fold
  k_steps
  · exact WhEnd.intro (_, _) _ (by assumption) (by assumption) (fun _ h => h) (by kst_all) (by ksw_same) ⟨by rw [fold_eq]; omega, by rw [fold_eq]; omega, rfl⟩ (by dsimp only; rw [fold_eq]; omega)
  · exact hret _ _ _ _ (by assumption) (by assumption) ⟨_, _, rfl, by omega, by omega, rfl⟩
end
end
-- Sum
section
example : True := by
  w_top off
  trivial
theorem pow8 : ((2 : Int) ^ Int.toNat 8) = 256 := by decide
theorem or_bound {x y : Int} (hx : 0 ≤ x) (hy : 0 ≤ y) : 0 ≤ Builtin.bitOr x y ∧ Builtin.bitOr x y ≤ x + y := by
  have h := bitAnd_pp hx hy
  have h1 : x.toNat &&& y.toNat ≤ y.toNat := Nat.and_le_right
  rw [bitOr_and, h]
  omega
section
set_option maxHeartbeats 4000000 in
theorem sum_ct {w : World} {news : Led} {arr : Array UInt8} {t : Tok} (hz : arr.size = 20) :
    Ct w 102 [.bytes arr t] news 8 (fun r news' => ∃ c t, r = .int c t ∧ 0 ≤ c ∧ c ≤ 65535 ∧ news' = news) := by
  obtain ⟨ks, hks⟩ : ∃ ks, KBw.bInts arr = ks := ⟨_, rfl⟩
  have hlen : ks.length = 20 := by rw [← hks, KBw.ints_length, hz]
  unfold Ct
  intro mean mg mb dp un gd cn cs ad ccd cl outer A₀ base h₀ L m s Q E B F X N T hk hd hu hret
  have hq9 : HoldAt [86] := .mk
  refine wpAny_call ?_
  k_dflt k_enter
  (k_steps; (repeat' (unfold Hold; (first | (k_here; k_dflt (refine' Ct.use' (fold_ct ?c1 ?c2) ?k1 ?k2 ?k3 ?k4 ?k5 ?kK ?kd ?ku ?_; walk_at "ct1"; (case k4 => k_asm); (case c1 => omega); (case c2 => omega); k_whole; (intro zh9 ztk9 zF9 zP7 zbk7 zr9 znw9); (rintro ⟨zc9, zt9, ze8, zp9, zq9, ze9⟩); (try subst ze8); (try subst ze9); (refine zbk7 _ _ ?_); (clear zbk7 zP7); (intro zN9); (try k_lt zl1); (try k_lt2 zl2); (try dsimp only); (try k_sweep); (try k_fold)))); k_steps)))
  have e20 : ((ks.length : Int) - (ks.length : Int).fmod 2) = 20 := by rw [hlen]; decide
  rename IsRange _ _ _ _ _ _ _ _ => hR
  rename Fr _ _ _ _ => hF
  rename News _ _ _ _ => hN
  rw [e20] at hR
  rw [e20] at hF
  with_unfolding_all refine' for_range (σ := Int × Tok) (n := 10) (fun _ => news) (fun c => [(Str.ofString "total", .int c.1 c.2)]) [Str.ofString "at"] (fun i c => 0 ≤ c.1 ∧ c.1 ≤ 65535 * (i : Int)) (_, _) rfl hR ?h1 ?h2 hF hN (fun _ h => h) ?h3 ?h4 ?turn ?done
  case h3 => kst_all
  case h1 => decide
  case h2 => rfl
  case h4 => constructor <;> decide
  case turn =>
    intro i c t u h tk own hi hP hoff hF hN
    obtain ⟨tot, ttk⟩ := c
    dsimp only [kstB] at hF hP hN
    obtain ⟨hp1, hp2⟩ := hP
    k_fold
    (k_steps; (repeat' (unfold Hold; (first | (k_here; k_dflt (refine' Ct.use' (fold_ct ?c1 ?c2) ?k1 ?k2 ?k3 ?k4 ?k5 ?kK ?kd ?ku ?_; walk_at "ct1"; (case k4 => k_asm); (case c1 => omega); (case c2 => omega); k_whole; (intro zh9 ztk9 zF9 zP7 zbk7 zr9 znw9); (rintro ⟨zc9, zt9, ze8, zp9, zq9, ze9⟩); (try subst ze8); (try subst ze9); (refine zbk7 _ _ ?_); (clear zbk7 zP7); (intro zN9); (try k_lt zl1); (try k_lt2 zl2); (try dsimp only); (try k_sweep); (try k_fold)))); k_steps)))
    refine StJ.close (_, _) (by assumption) (by assumption) (fun p hp => List.mem_append_left _ hp) (fun p hp => List.mem_append_right _ hp) hoff (by kst_all) (by kst_same) ⟨?_, ?_⟩
    all_goals dsimp only
    all_goals
      obtain ⟨o1, o2⟩ := or_bound (x := ks.getD (0 + (i : Int) * 2).toNat 0 * 2 ^ Int.toNat 8) (y := ks.getD (0 + (i : Int) * 2 + 1).toNat 0) (by rw [pow8]; omega) (by omega)
      rw [pow8] at o1 o2 ⊢
      omega
  case done =>
    intro c u h tk hP hF hN
    obtain ⟨tot, ttk⟩ := c
    dsimp only [kstB] at hF hP hN
    obtain ⟨hp1, hp2⟩ := hP
    try k_fold
    (k_steps; (repeat' (unfold Hold; (first | (k_here; k_dflt (refine' Ct.use' (fold_ct ?c1 ?c2) ?k1 ?k2 ?k3 ?k4 ?k5 ?kK ?kd ?ku ?_; walk_at "ct1"; (case k4 => k_asm); (case c1 => omega); (case c2 => omega); k_whole; (intro zh9 ztk9 zF9 zP7 zbk7 zr9 znw9); (rintro ⟨zc9, zt9, ze8, zp9, zq9, ze9⟩); (try subst ze8); (try subst ze9); (refine zbk7 _ _ ?_); (clear zbk7 zP7); (intro zN9); (try k_lt zl1); (try k_lt2 zl2); (try dsimp only); (try k_sweep); (try k_fold)))); k_steps)))
    exact hret _ _ _ _ (by assumption) (by assumption) ⟨_, _, rfl, by omega, by omega, rfl⟩
end
end
-- Put16
section
local macro_rules | `(tactic| walk_at "pad") => `(tactic| skip)
example : True := by
  w_top off
  trivial
theorem in_two {a b : Int} : KBa.In [Builtin.bitAnd a 255, Builtin.bitAnd b 255] := by
  intro n hn
  simp only [List.mem_cons, List.not_mem_nil, or_false] at hn
  rcases hn with rfl | rfl
  · rw [bitAnd_m8]; omega
  · rw [bitAnd_m8]; omega
theorem in_pair {a b : Int} (h1 : 0 ≤ a) (h2 : a < 256) (h3 : 0 ≤ b) (h4 : b < 256) : KBa.In [a, b] := by
  intro n hn
  simp only [List.mem_cons, List.not_mem_nil, or_false] at hn
  rcases hn with rfl | rfl
  · exact ⟨h1, h2⟩
  · exact ⟨h3, h4⟩
theorem put16_eq {n : Int} : byteArr [Builtin.bitAnd (n.fdiv (2 ^ Int.toNat 8)) 255, Builtin.bitAnd n 255] = byteArr [n / 256 % 256, n % 256] := by
  rw [bitAnd_m8, bitAnd_m8, show ((2 : Int) ^ Int.toNat 8) = 256 from by decide, Int.fdiv_eq_ediv_of_nonneg _ (by decide)]
local macro_rules | `(tactic| kba_in) => `(tactic| exact in_two)
set_option maxHeartbeats 4000000 in
theorem put16_ct {w : World} {news : Led} {n : Int} {t : Tok} (hz : 0 ≤ n) (hz2 : n < 4294967296) :
    Ct w 72 [.int n t] news 3 (fun r news' => ∃ t, r = .bytes (byteArr [n / 256 % 256, n % 256]) t ∧ KBa.In [n / 256 % 256, n % 256] ∧ news' = news) := by
  unfold Ct
  k_fill
  intro mean mg mb dp un gd cn cs ad ccd cl outer A₀ base h₀ L m s Q E B F X N T hk hd hu hret
  refine wpAny_call ?_
  k_dflt k_enter
  k_steps
  rw [put16_eq]
  exact hret _ _ _ _ (by assumption) (cb_drop (by assumption) fun p hp => List.mem_cons_of_mem _ hp) ⟨_, rfl, in_pair (by omega) (by omega) (by omega) (by omega), rfl⟩
end
-- Within
section
example : True := by
  w_top off
  trivial
set_option maxHeartbeats 4000000 in
theorem within_ct {w : World} {news : Led} {n b : Int} {t tb : Tok} (hb : b = 32 ∨ b = 8 ∨ b = 16 ∨ b = 13) (hz : 0 ≤ n) (hz2 : n < 2 ^ Int.toNat b) :
    Ct w 166 [.int n t, .int b tb] news 3 (fun r news' => r = .bool true ∧ news' = news) := by
  rcases hb with rfl | rfl | rfl | rfl
  all_goals
    unfold Ct
    k_fill
    intro mean mg mb dp un gd cn cs ad ccd cl outer A₀ base h₀ L m s Q E B F X N T hk hd hu hret
    refine wpAny_call ?_
    k_dflt k_enter
    k_steps
    rw [decide_eq_true hz2]
    exact hret _ _ _ _ (by assumption) (by assumption) ⟨rfl, rfl⟩
theorem p32 : (2 : Int) ^ Int.toNat 32 = 4294967296 := by decide
theorem p16 : (2 : Int) ^ Int.toNat 16 = 65536 := by decide
theorem p13 : (2 : Int) ^ Int.toNat 13 = 8192 := by decide
theorem p8 : (2 : Int) ^ Int.toNat 8 = 256 := by decide
end
-- Put32
section
local macro_rules | `(tactic| walk_at "pad") => `(tactic| skip)
example : True := by
  w_top off
  trivial
theorem p32size {a b c d : Int} : (byteArr [a, b] ++ byteArr [c, d]).size = 4 := by simp [Array.size_append, byteArr_size]
section
set_option maxHeartbeats 4000000 in
theorem put32_ct {w : World} {news : Led} {n : Int} {t : Tok} (hz : 0 ≤ n) (hz2 : n < 4294967296) :
    Ct w 79 [.int n t] news 8 (fun r news' => ∃ t arr, ∃ ks, r = .bytes arr t ∧ KBw.bInts arr = ks ∧ ks.length = 4 ∧ arr.size = 4 ∧ news' = news) := by
  have h16 : n.fdiv (2 ^ Int.toNat 16) = n / 65536 := by rw [p16, Int.fdiv_eq_ediv_of_nonneg _ (by decide)]
  unfold Ct
  intro mean mg mb dp un gd cn cs ad ccd cl outer A₀ base h₀ L m s Q E B F X N T hk hd hu hret
  have hq9 : HoldAt [72] := .mk
  refine wpAny_call ?_
  k_dflt k_enter
  (k_steps; (repeat' (unfold Hold; (first | (k_here; k_dflt (refine' Ct.use' (put16_ct ?c1 ?c2) ?k1 ?k2 ?k3 ?k4 ?k5 ?kK ?kd ?ku ?_; walk_at "ct1"; (case k4 => k_asm); (case c1 => omega); (case c2 => omega); k_whole; (intro zh9 ztk9 zF9 zP7 zbk7 zr9 znw9); (rintro ⟨zt9, ze8, zi9, ze9⟩); (try subst ze8); (try subst ze9); (refine zbk7 _ _ ?_); (clear zbk7 zP7); (intro zN9); (try k_lt zl1); (try k_lt2 zl2); (try dsimp only); (try k_sweep); (try k_fold)))); k_steps)))
  exact hret _ _ _ _ (by assumption) (by assumption) ⟨_, _, _, rfl, rfl, (KBw.ints_length _).trans p32size, p32size, rfl⟩
end
end
-- Chk
section
example : True := by
  w_top off
  trivial
section
set_option maxHeartbeats 4000000 in
theorem chk_ct {w : World} {news : Led} {H : Hdr} {x : Addr} (hH : HdrAt w news x H)
    (h1 : 0 ≤ H.src) (h2 : H.src < 4294967296) (h3 : 0 ≤ H.tgt) (h4 : H.tgt < 4294967296) (h5 : 0 ≤ H.ident) (h6 : H.ident < 65536) (h7 : 0 ≤ H.off) (h8 : H.off < 60000) (h9 : H.off % 8 = 0) :
    Ct w 173 [.ref x] news 8 (fun r news' => news' = news ∧ r = .none) := by
  refine hideG ?_
  intro PZ bkZ
  obtain ⟨dx, kh, n, hx, hdx⟩ := hH
  refine bkZ ?_
  clear bkZ PZ
  refine' Ct.ro ?ho ?hcd ?hbind ?hloc ?hco ?hgen ?hk ?hcell ?hsub ?hb
  case ho => k_is
  case hcd => k_is
  case hbind => (intro s hX; first | exact BindsTo.of_eq rfl | exact binds_K hX rfl (by k_is) rfl rfl rfl)
  case hloc => exact locs rfl
  case hco => exact rfl
  case hgen => exact rfl
  case hk => exact rfl
  case hcell => decide
  case hsub => exact sub2 hx hdx
  case hb =>
  unfold Bd
  intro mean mg mb dp un gd outer A₀ base g L s B F X N T hd hu
  refine hideQ ?_
  intro Qz bkz
  (try dsimp only)
  have hq9 : HoldAt [166] := .mk
  have o8 : H.off.fmod 8 = 0 := by rw [Int.fmod_eq_emod_of_nonneg _ (by decide)]; exact h9
  have o9 : H.off.fdiv 8 = H.off / 8 := Int.fdiv_eq_ediv_of_nonneg _ (by decide)
  (k_steps; (repeat' (unfold Hold; (first | (k_here; k_dflt (refine' Ct.use' (within_ct ?c1 ?c2 ?c3) ?k1 ?k2 ?k3 ?k4 ?k5 ?kK ?kd ?ku ?_; walk_at "ct1"; (case k4 => k_asm); (case c1 => decide); (case c2 => omega); (case c3 => (simp only [p32, p16, p13, p8]; omega)); k_whole; (intro zh9 ztk9 zF9 zP7 zbk7 zr9 znw9); (rintro ⟨ze8, ze9⟩); (try subst ze8); (try subst ze9); (refine zbk7 _ _ ?_); (clear zbk7 zP7); (intro zN9); (try k_lt zl1); (try k_lt2 zl2); (try dsimp only); (try k_sweep); (try k_fold)))); k_steps)))
  all_goals first | exact absurd o8 (by assumption) | exact bkz _ _ <| CtRet.intro (by assumption) (by assumption) ⟨rfl, by ((repeat (first | exact List.forall_mem_nil _ | (refine List.forall_mem_cons.mpr ⟨(by k_mem), ?_⟩))))⟩
end
end
-- Chk2
section
local macro_rules | `(tactic| walk_at "pad") => `(tactic| skip)
example : True := by
  w_top off
  trivial
set_option maxHeartbeats 4000000 in
theorem chs_ct {w : World} {news : Led} {H : Hdr} {x : Addr} {tk : Tok} (hH : HdrAt w news x H) :
    Ct w 180 [.ref x, .bytes #[] tk] news 8 (fun r news' => news' = news ∧ r = .none) := by
  refine hideG ?_
  intro PZ bkZ
  obtain ⟨dx, kh, n, hx, hdx⟩ := hH
  refine bkZ ?_
  clear bkZ PZ
  refine' Ct.ro ?ho ?hcd ?hbind ?hloc ?hco ?hgen ?hk ?hcell ?hsub ?hb
  case ho => k_is
  case hcd => k_is
  case hbind => (intro s hX; first | exact BindsTo.of_eq rfl | exact binds_K hX rfl (by k_is) rfl rfl rfl)
  case hloc => exact locs rfl
  case hco => exact rfl
  case hgen => exact rfl
  case hk => exact rfl
  case hcell => decide
  case hsub => exact sub2 hx hdx
  case hb =>
  unfold Bd
  intro mean mg mb dp un gd outer A₀ base g L s B F X N T hd hu
  refine hideQ ?_
  intro Qz bkz
  (try dsimp only)
  k_steps
  all_goals exact bkz _ _ <| CtRet.intro (by assumption) (by assumption) ⟨rfl, by ((repeat (first | exact List.forall_mem_nil _ | (refine List.forall_mem_cons.mpr ⟨(by k_mem), ?_⟩))))⟩
set_option maxHeartbeats 4000000 in
theorem flags_ct {w : World} {news : Led} {H : Hdr} {x : Addr} (hH : HdrAt w news x H) (h7 : 0 ≤ H.off) (h8 : H.off < 60000) :
    Ct w 187 [.ref x] news 8 (fun r news' => news' = news ∧ ∃ t f, r = .int f t ∧ f = H.off / 8 + (if H.more then 8192 else 0)) := by
  refine hideG ?_
  intro PZ bkZ
  obtain ⟨dx, kh, n, hx, hdx⟩ := hH
  refine bkZ ?_
  clear bkZ PZ
  refine' Ct.ro ?ho ?hcd ?hbind ?hloc ?hco ?hgen ?hk ?hcell ?hsub ?hb
  case ho => k_is
  case hcd => k_is
  case hbind => (intro s hX; first | exact BindsTo.of_eq rfl | exact binds_K hX rfl (by k_is) rfl rfl rfl)
  case hloc => exact locs rfl
  case hco => exact rfl
  case hgen => exact rfl
  case hk => exact rfl
  case hcell => decide
  case hsub => exact sub2 hx hdx
  case hb =>
  unfold Bd
  intro mean mg mb dp un gd outer A₀ base g L s B F X N T hd hu
  refine hideQ ?_
  intro Qz bkz
  (try dsimp only)
  have o9 : H.off.fdiv 8 = H.off / 8 := Int.fdiv_eq_ediv_of_nonneg _ (by decide)
  k_steps
  all_goals exact bkz _ _ <| CtRet.intro (by assumption) (by assumption) ⟨⟨_, _, rfl, by rw [o9]; simp [*]⟩, by ((repeat (first | exact List.forall_mem_nil _ | (refine List.forall_mem_cons.mpr ⟨(by k_mem), ?_⟩))))⟩
end
-- Pack
section
example : True := by
  w_top off
  trivial
section
local macro_rules | `(tactic| kba_in) => `(tactic| first | exact in_two | ((refine in_pair ?_ ?_ ?_ ?_) <;> first | decide | omega))
theorem pick67 {arr : Array UInt8} {ks : List Int} {v : Int} (h : KBw.bInts arr = ks) (hk : ks.getD 6 0 * 256 + ks.getD 7 0 = v) : (KBw.bInts arr).getD 6 0 * 256 + (KBw.bInts arr).getD 7 0 = v := by rw [h]; exact hk
set_option maxHeartbeats 8000000 in
theorem pack_ct {w : World} {news : Led} {H : Hdr} {x : Addr} {tk : Tok} (hH : HdrAt w news x H)
    (h1 : 0 ≤ H.src) (h2 : H.src < 4294967296) (h3 : 0 ≤ H.tgt) (h4 : H.tgt < 4294967296) (h5 : 0 ≤ H.ident) (h6 : H.ident < 65536) (h7 : 0 ≤ H.off) (h8 : H.off < 60000) (h9 : H.off % 8 = 0) :
    Ct w 194 [.ref x, .bytes #[] tk] news 20 (fun r news' => news' = news ∧ ∃ t arr ks, r = .bytes arr t ∧ KBw.bInts arr = ks ∧ ks.length = 20 ∧ ks.getD 6 0 * 256 + ks.getD 7 0 = H.off / 8 + (if H.more then 8192 else 0)) := by
  refine hideG ?_
  intro PZ bkZ
  obtain ⟨dx, kh, n, hx, hdx⟩ := hH
  refine bkZ ?_
  clear bkZ PZ
  refine' Ct.ro ?ho ?hcd ?hbind ?hloc ?hco ?hgen ?hk ?hcell ?hsub ?hb
  case ho => k_is
  case hcd => k_is
  case hbind => (intro s hX; first | exact BindsTo.of_eq rfl | exact binds_K hX rfl (by k_is) rfl rfl rfl)
  case hloc => exact locs rfl
  case hco => exact rfl
  case hgen => exact rfl
  case hk => exact rfl
  case hcell => decide
  case hsub => exact sub2 hx hdx
  case hb =>
  unfold Bd
  intro mean mg mb dp un gd outer A₀ base g L s B F X N T hd hu
  refine hideQ ?_
  intro Qz bkz
  (try dsimp only)
  have hq9 : HoldAt [173, 180, 187, 79, 86, 102, 72] := .mk
  have o8 : H.off.fmod 8 = 0 := by rw [Int.fmod_eq_emod_of_nonneg _ (by decide)]; exact h9
  have o9 : H.off.fdiv 8 = H.off / 8 := Int.fdiv_eq_ediv_of_nonneg _ (by decide)
  (k_steps; (repeat' (unfold Hold; (first | (k_here; k_dflt (refine' Ct.use' (chk_ct ?c1 ?c2 ?c3 ?c4 ?c5 ?c6 ?c7 ?c8 ?c9 ?c10) ?k1 ?k2 ?k3 ?k4 ?k5 ?kK ?kd ?ku ?_; walk_at "ct1"; (case k4 => k_asm); (case c1 => (refine' ⟨_, _, _, ?hm1, ?hm2⟩; (case hm1 => k_mem); (case hm2 => k_mem))); (case c2 => assumption); (case c3 => assumption); (case c4 => assumption); (case c5 => assumption); (case c6 => assumption); (case c7 => assumption); (case c8 => assumption); (case c9 => assumption); (case c10 => assumption); k_whole; (intro zh9 ztk9 zF9 zP7 zbk7 zr9 znw9); (rintro ⟨ze9, ze8⟩); (try subst ze8); (try subst ze9); (refine zbk7 _ _ ?_); (clear zbk7 zP7); (intro zN9); (try k_lt zl1); (try k_lt2 zl2); (try dsimp only); (try k_sweep); (try k_fold))) | (k_here; k_dflt (refine' Ct.use' (chs_ct ?c1) ?k1 ?k2 ?k3 ?k4 ?k5 ?kK ?kd ?ku ?_; walk_at "ct1"; (case k4 => k_asm); (case c1 => (refine' ⟨_, _, _, ?hm1, ?hm2⟩; (case hm1 => k_mem); (case hm2 => k_mem))); k_whole; (intro zh9 ztk9 zF9 zP7 zbk7 zr9 znw9); (rintro ⟨ze9, ze8⟩); (try subst ze8); (try subst ze9); (refine zbk7 _ _ ?_); (clear zbk7 zP7); (intro zN9); (try k_lt zl1); (try k_lt2 zl2); (try dsimp only); (try k_sweep); (try k_fold))) | (k_here; k_dflt (refine' Ct.use' (flags_ct ?c1 ?c2 ?c3) ?k1 ?k2 ?k3 ?k4 ?k5 ?kK ?kd ?ku ?_; walk_at "ct1"; (case k4 => k_asm); (case c1 => (refine' ⟨_, _, _, ?hm1, ?hm2⟩; (case hm1 => k_mem); (case hm2 => k_mem))); (case c2 => assumption); (case c3 => assumption); k_whole; (intro zh9 ztk9 zF9 zP7 zbk7 zr9 znw9); (rintro ⟨ze9, zt9, zf9, ze8, zp9⟩); (try subst ze8); (try subst ze9); (refine zbk7 _ _ ?_); (clear zbk7 zP7); (intro zN9); (try k_lt zl1); (try k_lt2 zl2); (try dsimp only); (try k_sweep); (try k_fold))) | (k_here; k_dflt (refine' Ct.use' (put32_ct ?c1 ?c2) ?k1 ?k2 ?k3 ?k4 ?k5 ?kK ?kd ?ku ?_; walk_at "ct1"; (case k4 => k_asm); (case c1 => assumption); (case c2 => assumption); k_whole; (intro zh9 ztk9 zF9 zP7 zbk7 zr9 znw9); (rintro ⟨zt9, za9, zk9, ze8, zb9, zl9, zz9, ze9⟩); (try subst ze8); (try subst ze9); (refine zbk7 _ _ ?_); (clear zbk7 zP7); (intro zN9); (try k_lt zl1); (try k_lt2 zl2); (try dsimp only); (try k_sweep); (try k_fold))) | (k_here; k_dflt (refine' Ct.use' (fold_ct ?c1 ?c2) ?k1 ?k2 ?k3 ?k4 ?k5 ?kK ?kd ?ku ?_; walk_at "ct1"; (case k4 => k_asm); (case c1 => omega); (case c2 => omega); k_whole; (intro zh9 ztk9 zF9 zP7 zbk7 zr9 znw9); (rintro ⟨zc9, zt9, ze8, zp9, zq9, ze9⟩); (try subst ze8); (try subst ze9); (refine zbk7 _ _ ?_); (clear zbk7 zP7); (intro zN9); (try k_lt zl1); (try k_lt2 zl2); (try dsimp only); (try k_sweep); (try k_fold))) | (k_here; k_dflt (refine' Ct.use' (sum_ct ?c1) ?k1 ?k2 ?k3 ?k4 ?k5 ?kK ?kd ?ku ?_; walk_at "ct1"; (case k4 => k_asm); (case c1 => (simp only [Array.size_append, byteArr_size, List.length_cons, List.length_nil, Array.size_empty]; omega)); k_whole; (intro zh9 ztk9 zF9 zP7 zbk7 zr9 znw9); (rintro ⟨zc9, zt9, ze8, zp9, zq9, ze9⟩); (try subst ze8); (try subst ze9); (refine zbk7 _ _ ?_); (clear zbk7 zP7); (intro zN9); (try k_lt zl1); (try k_lt2 zl2); (try dsimp only); (try k_sweep); (try k_fold))) | (k_here; k_dflt (refine' Ct.use' (put16_ct ?c1 ?c2) ?k1 ?k2 ?k3 ?k4 ?k5 ?kK ?kd ?ku ?_; walk_at "ct1"; (case k4 => k_asm); (case c1 => (first | omega | decide)); (case c2 => (first | omega | decide)); k_whole; (intro zh9 ztk9 zF9 zP7 zbk7 zr9 znw9); (rintro ⟨zt9, ze8, zi9, ze9⟩); (try subst ze8); (try subst ze9); (refine zbk7 _ _ ?_); (clear zbk7 zP7); (intro zN9); (try k_lt zl1); (try k_lt2 zl2); (try dsimp only); (try k_sweep); (try k_fold)))); k_steps)))
  refine bkz _ _ <| CtRet.intro (by assumption) (by assumption) ⟨⟨_, _, _, rfl, rfl, ?_, pick67 (by assumption) ?_⟩, by ((repeat (first | exact List.forall_mem_nil _ | (refine List.forall_mem_cons.mpr ⟨(by k_mem), ?_⟩))))⟩
  · simp only [KBw.ints_length, Array.size_append, byteArr_size, List.length_cons, List.length_nil, Array.size_empty]; omega
  · simp only [List.cons_append, List.nil_append, List.getD_cons_succ, List.getD_cons_zero]
    rename (_ = H.off / 8 + _) => p9
    cases hm : H.more <;> simp only [hm, if_true, if_false, Bool.false_eq_true] at p9 ⊢ <;> omega
end
end
-- IsPart
section
local macro_rules | `(tactic| walk_at "pad") => `(tactic| skip)
example : True := by
  w_top off
  trivial
theorem bne_eq_decide {a b : Int} : (a != b) = decide (a ≠ b) := by
  rw [Bool.eq_iff_iff]; simp
theorem isp_eq {v o : Int} {m : Bool} (hv : v = o / 8 + (if m then 8192 else 0)) (h7 : 0 ≤ o) (h8 : o < 60000) (h9 : o % 8 = 0) : (v.fmod 16384 != 0) = (m || decide (0 < o)) := by
  rw [Int.fmod_eq_emod_of_nonneg _ (by decide), bne_eq_decide]
  cases m
  · simp only [Bool.false_eq_true, if_false, Bool.false_or] at hv ⊢
    rw [decide_eq_decide]
    omega
  · simp only [if_true, Bool.true_or] at hv ⊢
    rw [decide_eq_true_eq]
    omega
section
set_option maxHeartbeats 8000000 in
theorem isp_ct {w : World} {news : Led} {H : Hdr} {x : Addr} (hH : HdrAt w news x H)
    (h1 : 0 ≤ H.src) (h2 : H.src < 4294967296) (h3 : 0 ≤ H.tgt) (h4 : H.tgt < 4294967296) (h5 : 0 ≤ H.ident) (h6 : H.ident < 65536) (h7 : 0 ≤ H.off) (h8 : H.off < 60000) (h9 : H.off % 8 = 0) :
    Ct w 476 [.ref x] news 24 (fun r news' => news' = news ∧ r = .bool (H.more || decide (0 < H.off))) := by
  refine hideG ?_
  intro PZ bkZ
  obtain ⟨dx, kh, n, hx, hdx⟩ := hH
  refine bkZ ?_
  clear bkZ PZ
  refine' Ct.ro ?ho ?hcd ?hbind ?hloc ?hco ?hgen ?hk ?hcell ?hsub ?hb
  case ho => k_is
  case hcd => k_is
  case hbind => (intro s hX; first | exact BindsTo.of_eq rfl | exact binds_K hX rfl (by k_is) rfl rfl rfl)
  case hloc => exact locs rfl
  case hco => exact rfl
  case hgen => exact rfl
  case hk => exact rfl
  case hcell => decide
  case hsub => exact sub2 hx hdx
  case hb =>
  unfold Bd
  intro mean mg mb dp un gd outer A₀ base g L s B F X N T hd hu
  refine hideQ ?_
  intro Qz bkz
  (try dsimp only)
  have hq9 : HoldAt [194] := .mk
  (k_steps; (repeat' (unfold Hold; (first | (k_here; k_dflt (refine' Ct.use' (pack_ct ?c1 ?c2 ?c3 ?c4 ?c5 ?c6 ?c7 ?c8 ?c9 ?c10) ?k1 ?k2 ?k3 ?k4 ?k5 ?kK ?kd ?ku ?_; walk_at "ct1"; (case k4 => k_asm); (case c1 => (refine' ⟨_, _, _, ?hm1, ?hm2⟩; (case hm1 => k_mem); (case hm2 => k_mem))); (case c2 => assumption); (case c3 => assumption); (case c4 => assumption); (case c5 => assumption); (case c6 => assumption); (case c7 => assumption); (case c8 => assumption); (case c9 => assumption); (case c10 => assumption); k_whole; (intro zh9 ztk9 zF9 zP7 zbk7 zr9 znw9); (rintro ⟨ze9, zt9, za9, zk9, ze8, zb9, zl9, zp9⟩); (try subst ze8); (try subst ze9); (refine zbk7 _ _ ?_); (clear zbk7 zP7); (intro zN9); (try k_lt zl1); (try k_lt2 zl2); (try dsimp only); (try k_sweep); (try k_fold)))); k_steps)))
  exact bkz _ _ <| CtRet.intro (by assumption) (by assumption) ⟨congrArg Value.bool (isp_eq (by assumption) h7 h8 h9), by ((repeat (first | exact List.forall_mem_nil _ | (refine List.forall_mem_cons.mpr ⟨(by k_mem), ?_⟩))))⟩
end
end
-- HeadR
section
example : True := by
  w_top off
  trivial
section
set_option maxHeartbeats 8000000 in
theorem headr_ct {w : World} {news : Led} {H : Hdr} {x : Addr} (hH : HdrAt w news x H)
    (h1 : 0 ≤ H.src) (h2 : H.src < 4294967296) (h3 : 0 ≤ H.tgt) (h4 : H.tgt < 4294967296) (h5 : 0 ≤ H.ident) (h6 : H.ident < 65536) (h7 : 0 ≤ H.off) (h8 : H.off < 60000) (h9 : H.off % 8 = 0) :
    Ct w 483 [.ref x] news 28 (fun r news' => news' = news ∧ r = .bool true) := by
  refine hideG ?_
  intro PZ bkZ
  obtain ⟨dx, kh, n, hx, hdx⟩ := hH
  refine bkZ ?_
  clear bkZ PZ
  refine' Ct.ro ?ho ?hcd ?hbind ?hloc ?hco ?hgen ?hk ?hcell ?hsub ?hb
  case ho => k_is
  case hcd => k_is
  case hbind => (intro s hX; first | exact BindsTo.of_eq rfl | exact binds_K hX rfl (by k_is) rfl rfl rfl)
  case hloc => exact locs rfl
  case hco => exact rfl
  case hgen => exact rfl
  case hk => exact rfl
  case hcell => decide
  case hsub => exact sub2 hx hdx
  case hb =>
  unfold Bd
  intro mean mg mb dp un gd outer A₀ base g L s B F X N T hd hu
  refine hideQ ?_
  intro Qz bkz
  (try dsimp only)
  have hq9 : HoldAt [476] := .mk
  (k_steps; (repeat' (unfold Hold; (first | (k_here; k_dflt (refine' Ct.use' (isp_ct ?c1 ?c2 ?c3 ?c4 ?c5 ?c6 ?c7 ?c8 ?c9 ?c10) ?k1 ?k2 ?k3 ?k4 ?k5 ?kK ?kd ?ku ?_; walk_at "ct1"; (case k4 => k_asm); (case c1 => (refine' ⟨_, _, _, ?hm1, ?hm2⟩; (case hm1 => k_mem); (case hm2 => k_mem))); (case c2 => assumption); (case c3 => assumption); (case c4 => assumption); (case c5 => assumption); (case c6 => assumption); (case c7 => assumption); (case c8 => assumption); (case c9 => assumption); (case c10 => assumption); k_whole; (intro zh9 ztk9 zF9 zP7 zbk7 zr9 znw9); (rintro ⟨ze9, ze8⟩); (try subst ze8); (try subst ze9); (refine zbk7 _ _ ?_); (clear zbk7 zP7); (intro zN9); (try k_lt zl1); (try k_lt2 zl2); (try dsimp only); (try k_sweep); (try k_fold)))); k_steps)))
  all_goals exact bkz _ _ <| CtRet.intro (by assumption) (by assumption) ⟨congrArg Value.bool (by first | (simp; done) | (rw [(by assumption : H.more = _)]; simp; done)), by ((repeat (first | exact List.forall_mem_nil _ | (refine List.forall_mem_cons.mpr ⟨(by k_mem), ?_⟩))))⟩
end
end
-- CutR0
section
local macro_rules | `(tactic| walk_at "pad") => `(tactic| skip)
example : True := by
  w_top off
  trivial
section
set_option maxHeartbeats 8000000 in
theorem isfrag_ct {w : World} {x : Addr} {H : Hdr} {all : Led} (hH : HdrAt w all x H) : Ct w 131 [.ref x] all 8 (fun r n' => n' = all ∧ r = .bool (H.more || decide (0 < H.off))) := by
  obtain ⟨dx, kh, n, hx, hdx⟩ := hH
  refine' Ct.ro ?ho ?hcd ?hbind ?hloc ?hco ?hgen ?hk ?hcell ?hsub ?hb
  case ho => k_is
  case hcd => k_is
  case hbind => (intro s hX; first | exact BindsTo.of_eq rfl | exact binds_K hX rfl (by k_is) rfl rfl rfl)
  case hloc => exact locs rfl
  case hco => exact rfl
  case hgen => exact rfl
  case hk => exact rfl
  case hcell => decide
  case hsub => exact sub2 hx hdx
  case hb =>
  unfold Bd
  intro mean mg mb dp un gd outer A₀ base g L s B F X N T hd hu
  refine hideQ ?_
  intro Qz bkz
  (try dsimp only)
  cases hm : H.more with
  | true =>
    k_steps
    all_goals exact bkz _ _ <| CtRet.intro (by assumption) (by assumption) ⟨congrArg Value.bool (by simp [hm]), by ((repeat (first | exact List.forall_mem_nil _ | (refine List.forall_mem_cons.mpr ⟨(by k_mem), ?_⟩))))⟩
  | false =>
    k_steps
    all_goals exact bkz _ _ <| CtRet.intro (by assumption) (by assumption) ⟨congrArg Value.bool (by simp [hm]), by ((repeat (first | exact List.forall_mem_nil _ | (refine List.forall_mem_cons.mpr ⟨(by k_mem), ?_⟩))))⟩
theorem isfirst_ct {w : World} {x : Addr} {H : Hdr} {all : Led} (hH : HdrAt w all x H) : Ct w 138 [.ref x] all 8 (fun r n' => n' = all ∧ r = .bool (H.off == 0)) := by
  obtain ⟨dx, kh, n, hx, hdx⟩ := hH
  refine' Ct.ro ?ho ?hcd ?hbind ?hloc ?hco ?hgen ?hk ?hcell ?hsub ?hb
  case ho => k_is
  case hcd => k_is
  case hbind => (intro s hX; first | exact BindsTo.of_eq rfl | exact binds_K hX rfl (by k_is) rfl rfl rfl)
  case hloc => exact locs rfl
  case hco => exact rfl
  case hgen => exact rfl
  case hk => exact rfl
  case hcell => decide
  case hsub => exact sub2 hx hdx
  case hb =>
  unfold Bd
  intro mean mg mb dp un gd outer A₀ base g L s B F X N T hd hu
  refine hideQ ?_
  intro Qz bkz
  (try dsimp only)
  k_steps
  all_goals exact bkz _ _ <| CtRet.intro (by assumption) (by assumption) ⟨rfl, by ((repeat (first | exact List.forall_mem_nil _ | (refine List.forall_mem_cons.mpr ⟨(by k_mem), ?_⟩))))⟩
end
theorem CutOk.turn {N : Nat} {m d off : Int} {more : Bool} {ps : List Pc} (h : CutOk N m d off more ps) (hN : N ≤ 48) (h0 : 0 ≤ off) (h1 : off ≤ 1000) (h8 : off % 8 = 0) {i : Nat} {p : Pc} (hp : ps[i]? = some p) :
    0 ≤ p.off ∧ p.off < 60000 ∧ p.off % 8 = 0 ∧ (p.more || decide (0 < p.off)) = (decide (m < (N : Int) + 20) || (more || decide (0 < off))) ∧ ((p.off == 0) = (decide (off = 0) && decide (i = 0))) := by
  obtain ⟨R, hR, hR8, hs, hb, h2, hall⟩ := h
  obtain ⟨e1, e2, _⟩ := hall i p hp
  have hi : i < ps.length := by
    rcases Nat.lt_or_ge i ps.length with h | h
    · exact h
    · rw [List.getElem?_eq_none h] at hp; cases hp
  have hiR : i * R ≤ 48 := by
    by_cases hm : (N : Int) + 20 ≤ m
    · have := hs hm
      have e : i = 0 := by omega
      subst e
      omega
    · have z := (hb hm).2
      have := Nat.mul_le_mul_right R (show i ≤ ps.length - 1 by omega)
      omega
  have hi8 : (i * R) % 8 = 0 := by rw [Nat.mul_mod, hR8]; simp
  have hi0 : i * R = 0 ↔ i = 0 := by
    rw [Nat.mul_eq_zero]
    omega
  have hi1 : ¬ i = 0 → 8 ≤ i * R := fun h => by
    have := Nat.mul_le_mul (show 1 ≤ i by omega) hR
    omega
  refine ⟨by omega, by omega, by omega, ?_, ?_⟩
  · by_cases hm : (N : Int) + 20 ≤ m
    · have := hs hm
      have e : i = 0 := by omega
      subst e
      rw [e1, e2, if_pos (by omega), show decide (m < (N : Int) + 20) = false from decide_eq_false (by omega)]
      simp
    · rw [show decide (m < (N : Int) + 20) = true from decide_eq_true (by omega), Bool.true_or]
      by_cases hl : i + 1 = ps.length
      · have := (hb hm).1
        have z := hi1 (by omega)
        rw [show decide (0 < p.off) = true from decide_eq_true (by omega), Bool.or_true]
      · rw [e2, if_neg hl]
        simp
  · rw [Bool.eq_iff_iff]
    simp only [beq_iff_eq, Bool.and_eq_true, decide_eq_true_eq]
    by_cases h : i = 0
    · subst h
      simp at e1
      rw [e1]
      simp
    · have z := hi1 h
      constructor
      · intro e; omega
      · intro e; exact absurd e.2 h
end
-- Keys
section
example : True := by
  w_top off
  trivial
abbrev keyK (w : World) : HeapKind PySem.Challenge.rw_xw0337_01.row.prog w (List Int) := tupleKind (intKind PySem.Challenge.rw_xw0337_01.row.prog w)
abbrev quad (a b c e : Int) (ta tb tc te : Tok) : Obj := { cls := .type "tuple", data := .seq #[.int a ta, .int b tb, .int c tc, .int e te] 0 }
/-- an object that bears a key of four numbers -/
def KeyObj (a b c e : Int) (o : Obj) : Prop := ∃ ta tb tc te n, o = ({ cls := .type "tuple", data := .seq #[.int a ta, .int b tb, .int c tc, .int e te] n } : Obj)
/-- a dict's entries: nothing, or one -/
abbrev oneEs (w : World) (a b c e : Int) (kt : Addr) (v : Value) : List DictEntry := [⟨(keyK w).hash [a, b, c, e], .ref kt, v⟩]
section
open PySem.Calls
variable {w : World} {A : Around} {E : Value → Shared → Prop} {s : Shared} {h₀ : Heap} {L : Addr} {m : Str → Option Value} {news : Led} {a b c e : Int} {kt kt2 d : Addr} {ok ok2 : Obj} {n : Nat} {v : Value}
theorem int_is (i : Int) (t : Tok) : (intKind PySem.Challenge.rw_xw0337_01.row.prog w).is i (.int i t) = true := by
  show Value.isInt i (.int i t) = true
  simp [Value.isInt]
theorem key_is {h : Heap} (hk : KeyObj a b c e ok) (ho : h.get? kt = some ok) : (keyK w).is h [a, b, c, e] kt := by
  refine hideG ?_
  intro PZ bkZ
  obtain ⟨ta, tb, tc, te, n, rfl⟩ := hk
  refine bkZ ?_
  clear bkZ PZ
  exact ⟨_, _, n, ho, rfl, rfl, by exact .cons (int_is _ _) (.cons (int_is _ _) (.cons (int_is _ _) (.cons (int_is _ _) .nil)))⟩
theorem dict_none {h : Heap} (ho : h.get? d = some (dictOf [] n)) : h.DictOfH (keyK w) d [] :=
  ⟨_, #[], n, ho, ⟨rfl, rfl, rfl⟩, rfl, rfl, (fun _ hx => nomatch hx), List.nodup_nil⟩
theorem dict_one {h : Heap} (ho : h.get? d = some (dictOf (oneEs w a b c e kt v) n)) (hk : KeyObj a b c e ok) (hko : h.get? kt = some ok) : h.DictOfH (keyK w) d [([a, b, c, e], kt, v)] :=
  ⟨_, _, n, ho, ⟨rfl, rfl, rfl⟩, rfl, rfl, fun x hx => by rw [List.mem_singleton.mp hx]; exact key_is hk hko, by simp⟩
theorem dict_back {h : Heap} (hm : h.DictOfH (keyK w) d [([a, b, c, e], kt, v)]) : ∃ n', h.get? d = some (dictOf (oneEs w a b c e kt v) n') := by
  refine hideG ?_
  intro PZ bkZ
  obtain ⟨o, es, ep, ho, ⟨h1, h2, h3⟩, hd, he, _, _⟩ := hm
  refine bkZ ?_
  clear bkZ PZ
  refine hideG ?_
  intro PZ bkZ
  obtain ⟨cl, dc, dt, sl⟩ := o
  refine bkZ ?_
  clear bkZ PZ
  dsimp only at h1 h2 h3 hd
  subst h1 h2 h3 hd
  refine ⟨ep, ?_⟩
  rw [ho]
  have e2 : es = (oneEs w a b c e kt v).toArray := by rw [← Array.toArray_toList (xs := es), he]; rfl
  rw [e2]
theorem notin_none {Q : Value → Shared → Prop} (hu : A.units + 1 < cLine) (hd : (d == sysModules) = false) (N : News h₀ L s.heap news) (hm : (d, dictOf [] n) ∈ news) (hk : KeyObj a b c e ok) (hko : (kt, ok) ∈ news)
    (h : ∀ tk, Q (.bool true) { s with toks := tk }) : wpAny (model PySem.Challenge.rw_xw0337_01.row.prog w) A (compareOp .NotIn (.ref kt) (.ref d)) Q E s :=
  wpAny_notIn_heap (knd := keyK w) hu (key_is hk (N _ hko).1) hd (dict_none (N _ hm).1) (h _)
theorem notin_one {Q : Value → Shared → Prop} (hu : A.units + 1 < cLine) (hd : (d == sysModules) = false) (N : News h₀ L s.heap news) (hm : (d, dictOf (oneEs w a b c e kt v) n) ∈ news) (hk : KeyObj a b c e ok) (hko : (kt, ok) ∈ news) (hk2 : KeyObj a b c e ok2) (hko2 : (kt2, ok2) ∈ news)
    (h : ∀ tk, Q (.bool false) { s with toks := tk }) : wpAny (model PySem.Challenge.rw_xw0337_01.row.prog w) A (compareOp .NotIn (.ref kt2) (.ref d)) Q E s := by
  refine wpAny_notIn_heap (knd := keyK w) hu (key_is hk2 (N _ hko2).1) hd (dict_one (N _ hm).1 hk (N _ hko).1) ?_
  have e1 : atKey [([a, b, c, e], kt, v)] [a, b, c, e] = some (kt, v) := by simp [atKey]
  rw [e1]
  exact h _
theorem set_none {Q : Unit → Shared → Prop} {rest : Led} (hu : A.units + 1 < cLine) (F : Fr h₀ L s.heap m) (N : News h₀ L s.heap news) (hm : (d, dictOf [] n) ∈ news) (hk : KeyObj a b c e ok) (hko : (kt, ok) ∈ news) (hr : ∀ p ∈ rest, p ∈ news) (hne : ∀ p ∈ rest, p.1 ≠ d)
    (h : ∀ h' n' tk, Fr h₀ L h' m → News h₀ L h' ((d, dictOf (oneEs w a b c e kt v) n') :: rest) → Q () { s with heap := h', toks := tk }) : wpAny (model PySem.Challenge.rw_xw0337_01.row.prog w) A (setItem (.ref d) (.ref kt) v) Q E s := by
  refine wpAny_setItem_heap (knd := keyK w) hu (key_is hk (N _ hko).1) (dict_none (N _ hm).1) (fun h' hm' hs' => ?_) (by simp)
  obtain ⟨n', hn'⟩ := dict_back hm'
  refine h h' n' _ (F.change hs' (N _ hm).2.1 (N _ hm).2.2) fun p hp => ?_
  rcases List.mem_cons.mp hp with rfl | hp
  · exact ⟨hn', (N _ hm).2⟩
  · exact ⟨(hs'.2 _ (hne p hp)).trans (N p (hr p hp)).1, (N p (hr p hp)).2⟩
theorem item_one {value slice : PySem.Expr} {Q : Value → Shared → Prop} (hu : A.units + 1 < cLine) (N : News h₀ L s.heap news) (hm : (d, dictOf (oneEs w a b c e kt v) n) ∈ news) (hk : KeyObj a b c e ok) (hko : (kt, ok) ∈ news) (hk2 : KeyObj a b c e ok2) (hko2 : (kt2, ok2) ∈ news)
    (h : ∀ tk, Q v { s with toks := tk })
    (hs : subscripted slice false (.ref d) (.ref kt2) = operate [.ref d, .ref kt2] (getItem (.ref d) (.ref kt2)) := by with_unfolding_all rfl) :
    wpAny (model PySem.Challenge.rw_xw0337_01.row.prog w) A (subscriptTail value slice (.ref d) (.ref kt2)) Q E s := by
  have hd := dict_one (N _ hm).1 hk (N _ hko).1
  exact tail_any hd.typeIs slot_dict_getitem.lookup (wpAny_getItem_heap (knd := keyK w) hu (key_is hk2 (N _ hko2).1) hd (p := (kt, v)) (by simp [atKey]) (h _)) hs
theorem pop_one {Q : Value → Shared → Prop} {rest : Led} (hu : A.units + 1 < cLine) (F : Fr h₀ L s.heap m) (N : News h₀ L s.heap news) (hm : (d, dictOf (oneEs w a b c e kt v) n) ∈ news) (hk : KeyObj a b c e ok) (hko : (kt, ok) ∈ news) (hk2 : KeyObj a b c e ok2) (hko2 : (kt2, ok2) ∈ news) (hr : ∀ p ∈ rest, p ∈ news) (hne : ∀ p ∈ rest, p.1 ≠ d)
    (h : ∀ h' n' tk, Fr h₀ L h' m → News h₀ L h' ((d, dictOf [] n') :: rest) → Q v { s with heap := h', toks := tk }) : wpAny (model PySem.Challenge.rw_xw0337_01.row.prog w) A (call (.builtin "dict.pop") [.ref d, .ref kt2]) Q E s := by
  have hd := dict_one (N _ hm).1 hk (N _ hko).1
  have ho := (N _ hm).1
  have hk9 := key_is (w := w) hk2 (N _ hko2).1
  refine wpAny_call_entry PySem.F.slot_dict_pop hd.typeIs PySem.F.entry_dict_pop ?_ (PySem.F.args_dict_pop_2 _ _)
  unfold Builtin.«dict.pop» Builtin.Dict.keyAndDefault
  refine wpAny_bind (wpAny_bind (wpAny_notOrdered_dict hd.typeIs ?_))
  refine wpAny_bind (wpAny_of_eq (a := ()) rfl ?_)
  refine wpAny_bind (wpAny_of_eq (a := (Value.ref d, [Value.ref kt2])) rfl ?_)
  dsimp only
  refine wpAny_bind (wpAny_of_eq (a := d) rfl ?_)
  refine wpAny_pure ?_
  dsimp only
  refine bm_if_false rfl ?_
  refine wpAny_bind (wpAny_dictEntries ho rfl ?_)
  refine wpAny_bind (wpAny_pure ?_)
  refine bm_if_false rfl ?_
  unfold Builtin.Dict.takeOut
  refine wpAny_bind (wpAny_holding ?_)
  refine wpAny_bind ((keyK w).pyHash hu hk9 ?_)
  refine wpAny_bind (wpAny_dictFind_heap (s := { s with toks := s.toks + (keyK w).draws [a, b, c, e] }) (knd := keyK w) (xs := [([a, b, c, e], kt, v)]) hu hk9 ho rfl rfl (fun x hx => by rw [List.mem_singleton.mp hx]; exact key_is hk (N _ hko).1) (by simp) ?_ ?_)
  · intro hno
    exact absurd rfl (hno 0 (kt, v))
  · intro j p hj
    match j, hj with
    | 0, hj =>
      dsimp only
      refine wpAny_bind (wpAny_dictEntries ho rfl ?_)
      rw [show (oneEs w a b c e kt v).toArray[0]? = some ⟨(keyK w).hash [a, b, c, e], .ref kt, v⟩ from rfl]
      dsimp only
      refine wpAny_bind (wpAny_updateDictKeys ho rfl ?_ (by show 1 ≤ sizeLine; rw [sizeLine_eq]; decide) (by simp))
      refine wpAny_pure ?_
      refine bm_if_false rfl ?_
      dsimp only
      unfold letGo
      refine wpAny_bind (wpAny_bind (wpAny_holding (wpAny_point ?_)))
      unfold letGo
      refine wpAny_pure (wpAny_pure ⟨v, rfl, ?_⟩)
      have hs' := Heap.SameBut.update s.heap d (Obj.mapDictKeys fun x => x.eraseIdxIfInBounds 0)
      refine h _ (n + 1) _ (F.change hs' (N _ hm).2.1 (N _ hm).2.2) fun p hp => ?_
      rcases List.mem_cons.mp hp with rfl | hp
      · have e9 : (oneEs w a b c e kt v).toArray.eraseIdxIfInBounds 0 = #[] := by simp [Array.eraseIdxIfInBounds]
        have e8 := Heap.get?_update_self (Obj.mapDictKeys fun x => x.eraseIdxIfInBounds 0) ho rfl
        refine ⟨e8.trans ?_, (N _ hm).2⟩
        show some (Obj.mk (.type "dict") _ (Data.dict ((oneEs w a b c e kt v).toArray.eraseIdxIfInBounds 0) (n + 1)) _) = _
        rw [e9]
      · exact ⟨(hs'.2 _ (hne p hp)).trans (N p (hr p hp)).1, (N p (hr p hp)).2⟩
theorem getMethod_dpop {pl : Sem Bool} {Q : Value × List Value → Shared → Prop} (N : News h₀ L s.heap news) {es : List DictEntry} (hm : (d, dictOf es n) ∈ news) (h : Q (.builtin "dict.pop", [.ref d]) s) : wpAny (model PySem.Challenge.rw_xw0337_01.row.prog w) A (getMethod (.ref d) "pop" pl) Q E s :=
  getMethod_builtin (T := "dict") ⟨_, (N _ hm).1, rfl⟩ PySem.F.plainAttrs_dict PySem.F.slot_dict_pop PySem.F.type_dict_pop (fun a e => by cases e; exact ⟨_, (N _ hm).1, rfl⟩) h
end
end
-- KeyIt
section
example : True := by
  w_top off
  trivial
section
open PySem.Calls PySem.F
variable {prog : Program} {w : World} {A : Around} {E : Value → Shared → Prop} {s : Shared} {d it kt : Addr} {hs : Int} {v : Value} {ep : Nat}
abbrev soloEs (hs : Int) (kt : Addr) (v : Value) : List DictEntry := [⟨hs, .ref kt, v⟩]
theorem iter_solo {Q : Value → Shared → Prop} (hd : (d == sysModules) = false) (ho : s.heap.get? d = some (dictOf (soloEs hs kt v) ep))
    (hQ : Q (.ref s.heap.objs.size) { s with heap := s.heap.push { cls := .type "dict_keyiterator", data := .fields #[.ref d, .int 0 0, .int 1 0, .int ep 0] } }) : wpAny (model prog w) A (pyIter (.ref d)) Q E s := by
  have hT : s.TypeIs (.ref d) "dict" := ⟨_, ho, rfl⟩
  refine wpAny_pyIter_slot hT F.slot_dict_iter (wpAny_call_entry F.slot_dict_iter hT F.entry_dict_iter ?_ (F.args_dict_iter_1 _))
  unfold Builtin.«dict.__iter__»
  refine wpAny_bind ?_
  unfold Builtin.Dict.dictSlotNone
  refine wpAny_bind (wpAny_notOrdered_dict hT (wpAny_pure ?_))
  refine wpAny_bind (wpAny_of_eq (a := d) rfl ?_)
  refine wpAny_bind ?_
  unfold Builtin.Dict.showsAll
  refine bm_if_false hd (wpAny_pure ?_)
  refine wpAny_bind (wpAny_dictEntries ho rfl ?_)
  refine wpAny_bind (wpAny_dictEpoch ho rfl ?_)
  refine wpAny_bind (wpAny_newObj_type (wpAny_pure ⟨_, rfl, "dict_keyiterator", _, ⟨_, Heap.get?_push_size _ rfl, rfl⟩, F.slot_dict_keyiterator_next.lookup, ?_⟩))
  exact hQ
theorem next_solo {Q : Option Value → Shared → Prop} (hit : s.heap.IsKeyIter it d 0 1 ep) (hod : s.heap.get? d = some (dictOf (soloEs hs kt v) ep))
    (hQ : ∀ h', h'.IsKeyIter it d 1 1 ep → Heap.SameBut it s.heap h' → Q (some (.ref kt)) { s with heap := h' }) : wpAny (model prog w) A (pyNext (.ref it)) Q E s := by
  refine hideG ?_
  intro PZ bkZ
  obtain ⟨o, ho, hc, hd⟩ := id hit
  refine bkZ ?_
  clear bkZ PZ
  have hn : Builtin.Dict_items.ownsTuple "dict_keyiterator" = false := by decide
  unfold pyNext
  refine wpAny_bind (wpAny_attempt (wpAny_callSpecial?_slot (name := Str.ofString "__next__") hit.typeIs F.slot_dict_keyiterator_next (wpAny_call_entry F.slot_dict_keyiterator_next hit.typeIs F.entry_dict_keyiterator_next ?_ (F.args_dict_keyiterator_next_1 _))))
  refine wpAny_bind (wpAny_pure ?_)
  refine wpAny_bind ?_
  refine wpAny_bind ?_
  refine wpAny_bind (wpAny_typeNameOfWhole_keyiter hit.typeIs (wpAny_pure ?_))
  refine wpAny_bind (wpAny_fieldsOf ho hd ?_)
  simp only [hn, Bool.false_eq_true, if_false]
  refine bm_if_false rfl ?_
  refine wpAny_bind (wpAny_pure ?_)
  refine wpAny_bind (wpAny_dictEntries hod rfl ?_)
  refine bm_if_false rfl ?_
  refine wpAny_bind (wpAny_pure ?_)
  refine wpAny_bind (wpAny_dictEpoch hod rfl ?_)
  refine bm_if_false (by simp) ?_
  refine wpAny_pure ?_
  dsimp only
  rw [show (if ((0 : Nat) : Int) < 0 then none else (soloEs hs kt v).toArray[((0 : Nat) : Int).toNat]?) = some ⟨hs, .ref kt, v⟩ from rfl]
  dsimp only
  refine wpAny_bind ?_
  refine wpAny_bind (wpAny_typeNameOfWhole_keyiter hit.typeIs (wpAny_pure ?_))
  refine wpAny_bind (wpAny_isOneOf_keyiter hit.typeIs ?_)
  refine wpAny_bind (wpAny_setField ho hd (by simp [hn]) ?_)
  have hit' : (s.heap.update it (Obj.mapFields (·.setIfInBounds 1 (rawInt (((0 : Nat) : Int) + 1))))).IsKeyIter it d 1 1 ep :=
    ⟨_, Heap.get?_update_self _ ho (Obj.isFreed_of_fields (Obj.data_mapFields hd _)), (Obj.cls_mapFields ..).trans hc, by rw [Obj.data_mapFields hd]; simp [rawInt]⟩
  refine wpAny_bind (wpAny_holding ?_)
  refine wpAny_bind (wpAny_isOneOf_keyiter (s := { s with heap := s.heap.update it (Obj.mapFields (·.setIfInBounds 1 (rawInt (((0 : Nat) : Int) + 1)))) }) hit'.typeIs ?_)
  exact wpAny_pure (wpAny_pure ⟨_, rfl, wpAny_pure (hQ _ hit' (Heap.SameBut.update ..))⟩)
theorem end_solo {Q : Option Value → Shared → Prop} (hh : A.handled = none) (hit : s.heap.IsKeyIter it d 1 1 ep) (hod : s.heap.get? d = some (dictOf (soloEs hs kt v) ep))
    (hQ : ∀ h', Heap.ExtBut it s.heap h' → Q none { s with heap := h' }) : wpAny (model prog w) A (pyNext (.ref it)) Q E s := by
  refine hideG ?_
  intro PZ bkZ
  obtain ⟨o, ho, hc, hd⟩ := id hit
  refine bkZ ?_
  clear bkZ PZ
  have hn : Builtin.Dict_items.ownsTuple "dict_keyiterator" = false := by decide
  unfold pyNext
  refine wpAny_bind (wpAny_attempt (wpAny_callSpecial?_slot (name := Str.ofString "__next__") hit.typeIs F.slot_dict_keyiterator_next (wpAny_call_entry F.slot_dict_keyiterator_next hit.typeIs F.entry_dict_keyiterator_next ?_ (F.args_dict_keyiterator_next_1 _))))
  refine wpAny_bind (wpAny_pure ?_)
  refine wpAny_bind ?_
  refine wpAny_bind ?_
  refine wpAny_bind (wpAny_typeNameOfWhole_keyiter hit.typeIs (wpAny_pure ?_))
  refine wpAny_bind (wpAny_fieldsOf ho hd ?_)
  simp only [hn, Bool.false_eq_true, if_false]
  refine bm_if_false rfl ?_
  refine wpAny_bind (wpAny_pure ?_)
  refine wpAny_bind (wpAny_dictEntries hod rfl ?_)
  refine bm_if_false rfl ?_
  refine wpAny_bind (wpAny_pure ?_)
  refine wpAny_bind (wpAny_dictEpoch hod rfl ?_)
  refine bm_if_false (by simp) ?_
  refine wpAny_pure ?_
  dsimp only
  rw [show (if ((1 : Nat) : Int) < 0 then none else (soloEs hs kt v).toArray[((1 : Nat) : Int).toNat]?) = none from rfl]
  dsimp only
  refine wpAny_bind ?_
  refine wpAny_bind (wpAny_typeNameOfWhole_keyiter hit.typeIs (wpAny_pure ?_))
  refine wpAny_bind (wpAny_setField ho hd (by simp [hn]) ?_)
  refine wpAny_bind ?_
  simp only [newExc, newTuple]
  refine wpAny_bind (wpAny_newObj_type ?_ (by size_fits))
  refine wpAny_bind (m := firstArgMember _ _) (wpAny_of_eq (a := Value.none) (by first | rfl | (simp only [firstArgMember]; rfl)) ?_)
  refine wpAny_newObj_type ?_ (by size_fits)
  simp only [raiseNew]
  refine wpAny_bind (wpAny_handled ?_)
  rw [show A.in1.handled = none from hh]
  refine wpAny_bind (wpAny_pure (wpAny_throw ?_))
  refine wpAny_bind (wpAny_isInstance (T := "StopIteration") (b := true) ⟨_, Heap.get?_push_size _ rfl, rfl⟩ isSubtype_stop ?_)
  exact wpAny_pure (hQ _ (((Heap.SameBut.update ..).extBut.push _).push _))
theorem walks_solo (hh : A.handled = none) (I d : Addr) (hne : d ≠ I) : Walks prog w A I [I, d] [I] 1 (fun _ x => x = .ref kt) (fun i h => i ≤ 1 ∧ h.IsKeyIter I d i 1 ep ∧ h.get? d = some (dictOf (soloEs hs kt v) ep)) where
  sub := fun b hb => by simp at hb; simp [hb]
  frame := fun _ _ _ st hk => ⟨st.1, st.2.1.at fun o e => hk I (by simp) o e, hk d (by simp) _ st.2.2⟩
  item := fun i s Q E hi st hQ => by
    have h0 : i = 0 := by omega
    subst h0
    exact next_solo st.2.1 st.2.2 fun h' hit hb => hQ _ h' s.toks rfl ⟨Nat.le_refl _, hit, (hb.2 d hne).trans st.2.2⟩ fun b o hb' e => (hb.2 b (by simpa using hb')).trans e
  done := fun s Q E st hQ => end_solo hh st.2.1 st.2.2 fun h' hb => hQ h' s.toks fun b o hb' e => hb b o (by simpa using hb') e
  self := fun i s Q E st hQ => wpAny_pyIter_keyiter st.2.1 hQ
open LCg in
def SrcD (prog : Program) (w : World) (A : Around) (h₀ : Heap) (L : Addr) (m : Str → Option Value) (env : Env) (elt : Expr) (x : Str) (scope : Scope) (cl : List (Str × Addr)) (Fin : Shared → List Value → Led → Prop) (xv : Value) (s₁ : Shared) : Prop :=
  ∃ d hs kt v ep news, xv = .ref d ∧ A.handled = none ∧ (d == sysModules) = false ∧ Fr h₀ L s₁.heap m ∧ News h₀ L s₁.heap news ∧ (d, dictOf (soloEs hs kt v) ep) ∈ news ∧
    ∀ s₂ : Shared, (∃ h, s₂ = { s₁ with heap := h }) → CompRest prog w A h₀ L m env elt x scope cl s₂ (fun nw => (d, dictOf (soloEs hs kt v) ep) ∈ nw) (fun _ x => x = .ref kt) (Fin s₂) 1 0 [] news
open LCg in
theorem ListComp_D {h₀ : Heap} {L : Addr} {m : Str → Option Value} {env : Env} {elt iter : Expr} {x : Str} {px : Pos} {scope : Scope} {cl : List (Str × Addr)} {pos : Pos} {Q : Value → Shared → Prop} (F₀ : Fr h₀ L s.heap m)
    (hclos : closureFor scope env = pure cl) (hcell : ∀ y ∈ scope.names, y.2 ≠ .cell) (hkind : scope.kind = .function)
    (hnames : ∀ y ∈ scope.names, y.2 = .local → scope.names.lookup y.1 = some .local) (hx : scope.names.lookup x = some .local)
    (h : wpAny (model prog w) A (eval iter env) (SrcD prog w A h₀ L m env elt x scope cl (fun s₂ => FinE h₀ L m s₂ Q)) E s)
    (hs : ∀ x, foldedSetIterable iter env x = pure x := by intro _; rfl) :
    wpAny (model prog w) A (eval (.ListComp elt [⟨.Name x px, iter, [], 0⟩] scope pos) env) Q E s := by
  rw [eval_ListComp]
  refine wpAny_comprehension_free (use := none) rfl hs hclos hkind hnames (wpAny_mono h (fun xv s₁ h₁ => ?_) fun _ _ e => e)
  refine hideG ?_
  intro PZ bkZ
  obtain ⟨d, hs, kt, v, ep, news, rfl, hh, hd, F, N, hm, R⟩ := h₁
  refine bkZ ?_
  clear bkZ PZ
  have ho := (N _ hm).1
  have hlt : d < s₁.heap.objs.size := Heap.lt_size ho
  refine iter_solo hd ho ?_
  have up : ∀ b o, s₁.heap.get? b = some o → (s₁.heap.push { cls := .type "dict_keyiterator", data := .fields #[.ref d, .int 0 0, .int 1 0, .int ep 0] }).get? b = some o := fun b o e => Heap.get?_push_of_some _ e
  refine block_U (walks_solo (hs := hs) (v := v) (ep := ep) hh s₁.heap.objs.size d (Nat.ne_of_lt hlt)) (by rw [sizeLine_eq]; decide) (fun i h st => by obtain ⟨o, e, _⟩ := st.2.1; exact ⟨o, e⟩)
    (fun i h h' o nw st e e' k N S => ⟨st.1, by obtain ⟨o', q, r⟩ := st.2.1; rw [e] at q; cases q; exact ⟨o, e', r⟩, (N _ S).1⟩) hcell hkind hx ⟨Nat.zero_le _, ⟨_, Heap.get?_push_size _ rfl, rfl, rfl⟩, up _ _ ho⟩ (fun b hb => ?_)
    (F.keeps up) (N.grown up) (Nat.ne_of_lt F.ns.lt) (next_is_new F) (fun p hp => Nat.ne_of_lt (Heap.lt_size (N p hp).1)) hm (R _ ⟨_, rfl⟩) ?_
  · show b < (s₁.heap.push _).objs.size
    rw [Heap.size_push]
    rcases List.mem_cons.mp hb with rfl | hb
    · exact Nat.lt_succ_self _
    · rw [List.mem_singleton.mp hb]; exact Nat.lt_succ_of_lt hlt
  · intro D C h tk m' ys news' F' N' o1 hn hC₀ hD₀ hCL hDL hCD offC fin
    refine ⟨m', hn, fun h'' hs'' => fin D h'' tk (F'.change hs'' hCL hC₀) (fun p hp => ?_) o1⟩
    refine ⟨hs''.extBut _ _ ?_ (N' p hp).1, (N' p hp).2⟩
    rcases List.mem_cons.mp hp with rfl | hp
    · exact Ne.symm hCD
    · exact offC p hp
end
end
-- Fill
section
local macro_rules | `(tactic| walk_at "pad") => `(tactic| skip)
example : True := by
  w_top off
  trivial
structure Iv where
  t : Addr
  lo : Int
  hi : Int
  tl : Tok
  th : Tok
  n : Nat
def IvAt (nw : Led) (v : Iv) : Prop := (v.t, pairOf (.int v.lo v.tl) (.int v.hi v.th) v.n) ∈ nw
abbrev ivs (l : List Iv) : List Value := l.map fun p => .ref p.t
def iv2 (l : List Iv) : List (Int × Int) := l.map fun p => (p.lo, p.hi)
theorem ivs_push {l : List Iv} {p : Iv} : (ivs (l ++ [p])).toArray = (ivs l).toArray.push (.ref p.t) := by simp [ivs]
def rowF (b : Int) (r : Int × Int) : Int := if b > r.1 then b else r.1
def rowL (e : Int) (r : Int × Int) : Int := if e < r.2 then e else r.2
def fillRow (b e : Int) (r : Int × Int) : List (Int × Int) := if rowF b r ≥ rowL e r then [r] else (if r.1 < rowF b r then [(r.1, rowF b r)] else []) ++ (if rowL e r < r.2 then [(rowL e r, r.2)] else [])
def fillHit (b e : Int) (r : Int × Int) : List (Int × Int) := if rowF b r ≥ rowL e r then [] else [(rowF b r, rowL e r)]
def fillRows (b e : Int) (rows : List (Int × Int)) : List (Int × Int) := rows.flatMap (fillRow b e)
def fillHits (b e : Int) (rows : List (Int × Int)) : List (Int × Int) := rows.flatMap (fillHit b e)
abbrev holEs (w : World) (rl : Addr) (k0 k1 vm : Tok) : List DictEntry :=
  [⟨PyData.keyHash w.params (Str.ofString "most"), .str (Str.ofString "most") k0, .int 65535 vm⟩, ⟨PyData.keyHash w.params (Str.ofString "rows"), .str (Str.ofString "rows") k1, .ref rl⟩]
theorem fillHit_len {b e : Int} {r : Int × Int} : (fillHit b e r).length ≤ 1 := by unfold fillHit; split <;> simp
theorem fillRow_len {b e : Int} {r : Int × Int} : (fillRow b e r).length ≤ 2 := by
  unfold fillRow
  split
  · simp
  · rw [List.length_append]
    split <;> split <;> simp
theorem fillHits_len {b e : Int} : ∀ (l : List (Int × Int)), (fillHits b e l).length ≤ l.length
  | [] => Nat.le_refl _
  | r :: l => by
    have h1 := fillHit_len (b := b) (e := e) (r := r)
    have h2 := fillHits_len (b := b) (e := e) l
    simp only [fillHits, List.flatMap_cons, List.length_append, List.length_cons] at *
    omega
theorem fillRows_len {b e : Int} : ∀ (l : List (Int × Int)), (fillRows b e l).length ≤ 2 * l.length
  | [] => Nat.le_refl _
  | r :: l => by
    have h1 := fillRow_len (b := b) (e := e) (r := r)
    have h2 := fillRows_len (b := b) (e := e) l
    simp only [fillRows, List.flatMap_cons, List.length_append, List.length_cons] at *
    omega
theorem iv2_take {rows : List Iv} {i : Nat} {v : Iv} (h : rows[i]? = some v) : iv2 (rows.take (i + 1)) = iv2 (rows.take i) ++ [(v.lo, v.hi)] := by
  rw [List.take_add_one, h]; simp [iv2]
theorem fillHits_snoc {b e : Int} {l : List (Int × Int)} {r : Int × Int} : fillHits b e (l ++ [r]) = fillHits b e l ++ fillHit b e r := by simp [fillHits]
theorem fillRows_snoc {b e : Int} {l : List (Int × Int)} {r : Int × Int} : fillRows b e (l ++ [r]) = fillRows b e l ++ fillRow b e r := by simp [fillRows]
theorem allLt_mem {d : Addr} : ∀ {l : Led}, AllLt d l → ∀ p ∈ l, p.1 < d
  | [], _, _, h => nomatch h
  | _ :: _, ⟨h, r⟩, p, hp => by
    rcases List.mem_cons.mp hp with rfl | hp
    · exact h
    · exact allLt_mem r p hp
structure FillSt where
  f : List Iv
  r : List Iv
  nf : Nat
  nr : Nat
  rest : Led
abbrev fillLg (w : World) (fl rwl hx hq rl : Addr) (k0 k1 vm : Tok) (nn : Nat) (rows : List Iv) (c : FillSt) : Led := (fl, listOf (ivs c.f).toArray c.nf) :: (rwl, listOf (ivs c.r).toArray c.nr) :: (hx, instObj 314 hq) :: (hq, dictOf (holEs w rl k0 k1 vm) 2) :: (rl, listOf (ivs rows).toArray nn) :: c.rest
def fillP (b e : Int) (rows : List Iv) (tp : Led) (fl rwl hq : Addr) (i : Nat) (c : FillSt) : Prop := iv2 c.f = fillHits b e (iv2 (rows.take i)) ∧ iv2 c.r = fillRows b e (iv2 (rows.take i)) ∧ (∀ v ∈ c.f, IvAt c.rest v) ∧ (∀ v ∈ c.r, IvAt c.rest v) ∧ (∀ p ∈ tp, p ∈ c.rest) ∧ (∀ p ∈ c.rest, p.1 ≠ fl) ∧ (∀ p ∈ c.rest, p.1 ≠ rwl) ∧ (∀ p ∈ c.rest, p.1 ≠ hq)
theorem news_ne {h₀ h : Heap} {L : Addr} {l : Led} (N : News h₀ L h l) {p q : Addr × Obj} (hp : p ∈ l) (hq : q ∈ l) (hc : p.2.cls ≠ q.2.cls) : p.1 ≠ q.1 := fun e => by
  have e1 := (N p hp).1
  have e2 := (N q hq).1
  rw [e, e2] at e1
  exact hc (by rw [Option.some.inj e1])
theorem ty_ne {a b : String} (h : a ≠ b) : Value.type a ≠ Value.type b := fun e => h (by injection e)
theorem fill_close {w : World} {fl rwl hx hq rl : Addr} {k0 k1 vm : Tok} {nn : Nat} {rows : List Iv} {b e : Int} {tp : Led} {i : Nat} {v : Iv} {cf cr : List Iv} {cnf cnr : Nat} {crest own : Led} {g h' : Heap} {L : Addr} {m' m₀ : Str → Option Value} {s : Shared} {tk : Nat} {x : Str} {stored : List Str}
    (hv9 : rows[i]? = some v) (hP : fillP b e rows tp fl rwl hq i ⟨cf, cr, cnf, cnr, crest⟩) (hoff : OwnOff own ((fillLg w fl rwl hx hq rl k0 k1 vm nn rows ⟨cf, cr, cnf, cnr, crest⟩).map (·.1))) (hcl : ∀ p ∈ own, p.2.cls = .type "list_iterator")
    (new : Led) (f' r' : List Iv) {nf' nr' : Nat} {af ar : Array Value}
    (F : Fr g L h' m') (N : News g L h' (new ++ ((fl, listOf af nf') :: (rwl, listOf ar nr') :: (hx, instObj 314 hq) :: (hq, dictOf (holEs w rl k0 k1 vm) 2) :: (rl, listOf (ivs rows).toArray nn) :: (crest ++ own))))
    (haf : (ivs (cf ++ f')).toArray = af) (har : (ivs (cr ++ r')).toArray = ar) (hnf : ∀ v ∈ f', IvAt new v) (hnr : ∀ v ∈ r', IvAt new v) (hnc : ∀ p ∈ new, p.2.cls = .type "tuple")
    (hF : iv2 f' = fillHit b e (v.lo, v.hi)) (hR : iv2 r' = fillRow b e (v.lo, v.hi))
    (hr : ∀ z, z ≠ x → (∀ p ∈ ([] : List (Str × Value)), z ≠ p.1) → stored.contains z = false → m' z = m₀ z) :
    InvEndG g L (StJ (fillLg w fl rwl hx hq rl k0 k1 vm nn rows) (fun _ => []) (fillP b e rows tp fl rwl hq (i + 1)) x stored m₀) own s { s with heap := h', toks := tk } := by
  subst haf har
  refine hideG ?_
  intro PZ bkZ
  obtain ⟨a1, a2, a3, a4, a5, a6, a7, a8⟩ := hP
  refine bkZ ?_
  clear bkZ PZ
  dsimp only at a1 a2 a3 a4 a5 a6 a7 a8
  have inb : ∀ p ∈ (fl, listOf (ivs (cf ++ f')).toArray nf') :: (rwl, listOf (ivs (cr ++ r')).toArray nr') :: (hx, instObj 314 hq) :: (hq, dictOf (holEs w rl k0 k1 vm) 2) :: (rl, listOf (ivs rows).toArray nn) :: (crest ++ own), p ∈ new ++ ((fl, listOf (ivs (cf ++ f')).toArray nf') :: (rwl, listOf (ivs (cr ++ r')).toArray nr') :: (hx, instObj 314 hq) :: (hq, dictOf (holEs w rl k0 k1 vm) 2) :: (rl, listOf (ivs rows).toArray nn) :: (crest ++ own)) := fun p hp => List.mem_append_right _ hp
  have ino : ∀ p ∈ own, p ∈ new ++ ((fl, listOf (ivs (cf ++ f')).toArray nf') :: (rwl, listOf (ivs (cr ++ r')).toArray nr') :: (hx, instObj 314 hq) :: (hq, dictOf (holEs w rl k0 k1 vm) 2) :: (rl, listOf (ivs rows).toArray nn) :: (crest ++ own)) := fun p hp => inb _ (List.mem_cons_of_mem _ (List.mem_cons_of_mem _ (List.mem_cons_of_mem _ (List.mem_cons_of_mem _ (List.mem_cons_of_mem _ (List.mem_append_right _ hp))))))
  have inc : ∀ p ∈ crest, p ∈ new ++ ((fl, listOf (ivs (cf ++ f')).toArray nf') :: (rwl, listOf (ivs (cr ++ r')).toArray nr') :: (hx, instObj 314 hq) :: (hq, dictOf (holEs w rl k0 k1 vm) 2) :: (rl, listOf (ivs rows).toArray nn) :: (crest ++ own)) := fun p hp => inb _ (List.mem_cons_of_mem _ (List.mem_cons_of_mem _ (List.mem_cons_of_mem _ (List.mem_cons_of_mem _ (List.mem_cons_of_mem _ (List.mem_append_left _ hp))))))
  have inn : ∀ p ∈ new, p ∈ new ++ ((fl, listOf (ivs (cf ++ f')).toArray nf') :: (rwl, listOf (ivs (cr ++ r')).toArray nr') :: (hx, instObj 314 hq) :: (hq, dictOf (holEs w rl k0 k1 vm) 2) :: (rl, listOf (ivs rows).toArray nn) :: (crest ++ own)) := fun p hp => List.mem_append_left _ hp
  have ne : ∀ p ∈ new, ∀ q ∈ (fl, listOf (ivs (cf ++ f')).toArray nf') :: (rwl, listOf (ivs (cr ++ r')).toArray nr') :: (hx, instObj 314 hq) :: (hq, dictOf (holEs w rl k0 k1 vm) 2) :: (rl, listOf (ivs rows).toArray nn) :: (crest ++ own), q.2.cls ≠ .type "tuple" → p.1 ≠ q.1 := fun p hp q hq hc => news_ne N (inn p hp) (inb q hq) (by rw [hnc p hp]; exact hc.symm)
  refine StJ.close ⟨cf ++ f', cr ++ r', nf', nr', new ++ crest⟩ F N ?_ ino ?_ (fun _ h => nomatch h) hr ?_
  · intro p hp
    rcases List.mem_cons.mp hp with rfl | hp
    · exact inb _ (.head _)
    rcases List.mem_cons.mp hp with rfl | hp
    · exact inb _ (.tail _ (.head _))
    rcases List.mem_cons.mp hp with rfl | hp
    · exact inb _ (.tail _ (.tail _ (.head _)))
    rcases List.mem_cons.mp hp with rfl | hp
    · exact inb _ (.tail _ (.tail _ (.tail _ (.head _))))
    rcases List.mem_cons.mp hp with rfl | hp
    · exact inb _ (.tail _ (.tail _ (.tail _ (.tail _ (.head _)))))
    rcases List.mem_append.mp hp with hp | hp
    · exact inn p hp
    · exact inc p hp
  · intro p hp c hc
    simp only [fillLg, List.map_cons, List.map_append, List.mem_cons, List.mem_append] at hc
    have z := hoff p hp
    simp only [fillLg, List.map_cons, List.mem_cons] at z
    rcases hc with hc | hc | hc | hc | hc | hc | hc
    · exact z c (.inl hc)
    · exact z c (.inr (.inl hc))
    · exact z c (.inr (.inr (.inl hc)))
    · exact z c (.inr (.inr (.inr (.inl hc))))
    · exact z c (.inr (.inr (.inr (.inr (.inl hc)))))
    · obtain ⟨q, hq, rfl⟩ := List.mem_map.mp hc
      exact (news_ne N (inn q hq) (ino p hp) (by rw [hnc q hq, hcl p hp]; exact ty_ne (by decide))).symm
    · exact z c (.inr (.inr (.inr (.inr (.inr hc)))))
  · refine ⟨?_, ?_, ?_, ?_, ?_, ?_, ?_, ?_⟩
    · rw [iv2_take hv9, fillHits_snoc, ← hF, ← a1]; simp [iv2]
    · rw [iv2_take hv9, fillRows_snoc, ← hR, ← a2]; simp [iv2]
    · intro v hv
      rcases List.mem_append.mp hv with hv | hv
      · exact List.mem_append_right _ (a3 v hv)
      · exact List.mem_append_left _ (hnf v hv)
    · intro v hv
      rcases List.mem_append.mp hv with hv | hv
      · exact List.mem_append_right _ (a4 v hv)
      · exact List.mem_append_left _ (hnr v hv)
    · exact fun p hp => List.mem_append_right _ (a5 p hp)
    · intro p hp
      rcases List.mem_append.mp hp with hp | hp
      · exact ne p hp _ (.head _) (ty_ne (by decide))
      · exact a6 p hp
    · intro p hp
      rcases List.mem_append.mp hp with hp | hp
      · exact ne p hp _ (.tail _ (.head _)) (ty_ne (by decide))
      · exact a7 p hp
    · intro p hp
      rcases List.mem_append.mp hp with hp | hp
      · exact ne p hp _ (.tail _ (.tail _ (.tail _ (.head _)))) (ty_ne (by decide))
      · exact a8 p hp
section
variable {b e lo hi : Int}
theorem fillRow_a (h : (if e < hi then e else hi) ≤ (if b > lo then b else lo)) : fillRow b e (lo, hi) = [(lo, hi)] := if_pos h
theorem fillHit_a (h : (if e < hi then e else hi) ≤ (if b > lo then b else lo)) : fillHit b e (lo, hi) = [] := if_pos h
theorem fillHit_b (h : ¬ (if e < hi then e else hi) ≤ (if b > lo then b else lo)) : fillHit b e (lo, hi) = [(if b > lo then b else lo, if e < hi then e else hi)] := if_neg h
theorem fillRow_b (h : ¬ (if e < hi then e else hi) ≤ (if b > lo then b else lo)) : fillRow b e (lo, hi) = (if lo < rowF b (lo, hi) then [(lo, rowF b (lo, hi))] else []) ++ (if rowL e (lo, hi) < hi then [(rowL e (lo, hi), hi)] else []) := if_neg h
theorem fillRow_dd (h : ¬ (if e < hi then e else hi) ≤ (if b > lo then b else lo)) (h1 : lo < (if b > lo then b else lo)) (h2 : (if e < hi then e else hi) < hi) : fillRow b e (lo, hi) = [(lo, if b > lo then b else lo), (if e < hi then e else hi, hi)] := by
  rw [fillRow_b h, if_pos (show lo < rowF b (lo, hi) from h1), if_pos (show rowL e (lo, hi) < hi from h2)]; rfl
theorem fillRow_dn (h : ¬ (if e < hi then e else hi) ≤ (if b > lo then b else lo)) (h1 : lo < (if b > lo then b else lo)) (h2 : ¬ (if e < hi then e else hi) < hi) : fillRow b e (lo, hi) = [(lo, if b > lo then b else lo)] := by
  rw [fillRow_b h, if_pos (show lo < rowF b (lo, hi) from h1), if_neg (show ¬ rowL e (lo, hi) < hi from h2)]; rfl
theorem fillRow_nd (h : ¬ (if e < hi then e else hi) ≤ (if b > lo then b else lo)) (h1 : ¬ lo < (if b > lo then b else lo)) (h2 : (if e < hi then e else hi) < hi) : fillRow b e (lo, hi) = [(if e < hi then e else hi, hi)] := by
  rw [fillRow_b h, if_neg (show ¬ lo < rowF b (lo, hi) from h1), if_pos (show rowL e (lo, hi) < hi from h2)]; rfl
theorem fillRow_nn (h : ¬ (if e < hi then e else hi) ≤ (if b > lo then b else lo)) (h1 : ¬ lo < (if b > lo then b else lo)) (h2 : ¬ (if e < hi then e else hi) < hi) : fillRow b e (lo, hi) = [] := by
  rw [fillRow_b h, if_neg (show ¬ lo < rowF b (lo, hi) from h1), if_neg (show ¬ rowL e (lo, hi) < hi from h2)]; rfl
end
section
local macro_rules | `(tactic| walk_at "exec For Tuple Attribute cons nil") => `(tactic| (k_here; (rename Fr _ _ _ _ => lF'); (with_unfolding_all refine' For_pairs lF' ?k1 ?k2 ?k3 ?_; (case k1 => exact rfl); (case k2 => exact rfl); (case k3 => exact rfl); k_whole)))
set_option maxHeartbeats 8000000 in
theorem fill_ct {w : World} {hx hq rl : Addr} {b e : Int} {tb te k0 k1 vm : Tok} {nn : Nat} {rows : List Iv} {tp rest : Led}
    (hrows : ∀ v ∈ rows, IvAt tp v) (htp : ∀ p ∈ tp, p.1 ≠ hq) (h1 : hx ≠ hq) (h2 : rl ≠ hq) (hsz : rows.length ≤ 1000)
    (ha : ∀ p ∈ rest, ∀ q ∈ (hx, instObj 314 hq) :: (hq, dictOf (holEs w rl k0 k1 vm) 2) :: (rl, listOf (ivs rows).toArray nn) :: tp, p.1 ≠ q.1) :
    Ct w 290 [.ref hx, .int b tb, .int e te] (((hx, instObj 314 hq) :: (hq, dictOf (holEs w rl k0 k1 vm) 2) :: (rl, listOf (ivs rows).toArray nn) :: tp) ++ rest) 12 (fun r n' => ∃ n0, n' = n0 ++ rest ∧
      (∃ fl nf fnd rl' nr rws' tp', r = .ref fl ∧ n0 = (hx, instObj 314 hq) :: (hq, dictOf (holEs w rl' k0 k1 vm) 2) :: (rl', listOf (ivs rws').toArray nr) :: tp' ∧ (fl, listOf (ivs fnd).toArray nf) ∈ tp' ∧ (∀ v ∈ fnd, IvAt tp' v) ∧ (∀ v ∈ rws', IvAt tp' v) ∧
        iv2 fnd = fillHits b e (iv2 rows) ∧ iv2 rws' = fillRows b e (iv2 rows) ∧ (∀ p ∈ tp, p ∈ tp') ∧ (∀ p ∈ tp', p.1 ≠ hq) ∧ rl' ≠ hq) ∧ ∀ p ∈ n0, ∀ q ∈ rest, p.1 ≠ q.1) := by
  refine' Ct.rw ?ho ?hcd ?hbind ?hloc ?hco ?hgen ?hk ?hcell ?hap ?hb
  case ho => k_is
  case hcd => k_is
  case hbind => (intro s hX; first | exact BindsTo.of_eq rfl | exact binds_K hX rfl (by k_is) rfl rfl rfl)
  case hloc => exact locs rfl
  case hco => exact rfl
  case hgen => exact rfl
  case hk => exact rfl
  case hcell => decide
  case hap => exact ha
  case hb =>
  unfold Bd
  intro mean mg mb dp un gd outer A₀ base g L s B F X N T hd hu
  refine hideQ ?_
  intro Qz bkz
  (try dsimp only)
  k_steps
  rename_i fl _ hfl _ _ rwl _ hrw _ hF hN
  have exs : prefs (rows.map fun v => ((v.t, v.n), (Value.int v.lo v.tl, Value.int v.hi v.th))) = ivs rows := by simp [prefs, ivs, List.map_map, Function.comp_def]
  with_unfolding_all refine' for_pairs (σ := FillSt) (xs := rows.map fun v => ((v.t, v.n), (Value.int v.lo v.tl, Value.int v.hi v.th))) (nn := nn) (fillLg w fl rwl hx hq rl k0 k1 vm nn rows) (fun _ => []) [Str.ofString "first", Str.ofString "last"] (fillP b e rows tp fl rwl hq) ⟨[], [], 0, 0, tp⟩ rfl ?hl ?ht hF hN ?hn ?hk ?hp ?turn ?done
  case hl => intro c; rw [exs]; k_mem
  case ht =>
    rintro c i q hq9 ⟨_, _, _, _, a5, _⟩
    rw [List.getElem?_map] at hq9
    cases hv9 : rows[i]? with
    | none => rw [hv9] at hq9; cases hq9
    | some v =>
      rw [hv9] at hq9
      cases hq9
      exact List.mem_cons_of_mem _ (List.mem_cons_of_mem _ (List.mem_cons_of_mem _ (List.mem_cons_of_mem _ (List.mem_cons_of_mem _ (a5 _ (hrows v (List.mem_of_getElem? hv9)))))))
  case hn =>
    refine List.forall_mem_cons.mpr ⟨by k_mem, List.forall_mem_cons.mpr ⟨by k_mem, fun p hp => List.mem_cons_of_mem _ (List.mem_cons_of_mem _ hp)⟩⟩
  case hk => exact fun _ h => nomatch h
  case hp =>
    refine ⟨rfl, rfl, (fun _ h => nomatch h), (fun _ h => nomatch h), fun _ h => h, ?_, ?_, htp⟩
    · exact fun p hp => Nat.ne_of_lt (allLt_mem hfl.2.2.2 p hp)
    · exact fun p hp => Nat.ne_of_lt (allLt_mem hrw.2.2.2.2 p hp)
  case turn =>
    intro i q c u h tk own hq9 hP hoff hcl wF wN
    rw [List.getElem?_map] at hq9
    cases hv9 : rows[i]? with
    | none => rw [hv9] at hq9; cases hq9
    | some v =>
    rw [hv9] at hq9
    cases hq9
    refine hideG ?_
    intro PZ bkZ
    obtain ⟨cf, cr, cnf, cnr, crest⟩ := c
    refine bkZ ?_
    clear bkZ PZ
    have hP0 := hP
    dsimp only [kstB] at wF wN
    refine hideG ?_
    intro PZ bkZ
    obtain ⟨a1, a2, a3, a4, a5, a6, a7, a8⟩ := hP
    refine bkZ ?_
    clear bkZ PZ
    have hl9 : (rows.take i).length ≤ 1000 := Nat.le_trans (by rw [List.length_take]; exact Nat.min_le_right _ _) hsz
    have sz1 : (ivs cf).toArray.size ≤ 1000 := by
      have z1 := fillHits_len (b := b) (e := e) (iv2 (rows.take i))
      rw [← a1] at z1
      simp only [ivs, iv2, List.size_toArray, List.length_map] at z1 ⊢
      omega
    have sz2 : (ivs cr).toArray.size ≤ 2000 := by
      have z1 := fillRows_len (b := b) (e := e) (iv2 (rows.take i))
      rw [← a2] at z1
      simp only [ivs, iv2, List.size_toArray, List.length_map] at z1 ⊢
      omega
    dsimp only at a1 a2 a3 a4 a5 a6 a7 a8
    simp only [fillLg, List.cons_append] at wN
    have o1 : ∀ p ∈ crest ++ own, p.1 ≠ fl := fun p hp => (List.mem_append.mp hp).elim (a6 p) fun h => hoff p h fl (List.mem_cons_self ..)
    have o2 : ∀ p ∈ crest ++ own, p.1 ≠ rwl := fun p hp => (List.mem_append.mp hp).elim (a7 p) fun h => hoff p h rwl (List.mem_cons_of_mem _ (List.mem_cons_self ..))
    show wpAny _ _ _ _ _ _
    k_fold
    k_steps
    · exact fill_close hv9 hP0 hoff hcl [_] [] [⟨_, v.lo, v.hi, _, _, _⟩] (by assumption) (by assumption) (by simp [ivs]) (by simp [ivs]) (fun _ h => nomatch h) (List.forall_mem_cons.mpr ⟨List.Mem.head _, (fun _ h => nomatch h)⟩) (List.forall_mem_cons.mpr ⟨rfl, (fun _ h => nomatch h)⟩) (by exact (fillHit_a (by assumption)).symm) (by exact (fillRow_a (by assumption)).symm) (by kst_same)
    · exact fill_close hv9 hP0 hoff hcl [_, _, _] [⟨_, if b > v.lo then b else v.lo, if e < v.hi then e else v.hi, _, _, _⟩] [⟨_, v.lo, if b > v.lo then b else v.lo, _, _, _⟩, ⟨_, if e < v.hi then e else v.hi, v.hi, _, _, _⟩] (by assumption) (by assumption) (by simp [ivs]) (by simp [ivs]) (List.forall_mem_cons.mpr ⟨List.Mem.tail _ (List.Mem.tail _ (List.Mem.head _)), (fun _ h => nomatch h)⟩) (List.forall_mem_cons.mpr ⟨List.Mem.tail _ (List.Mem.head _), (List.forall_mem_cons.mpr ⟨List.Mem.head _, (fun _ h => nomatch h)⟩)⟩) (List.forall_mem_cons.mpr ⟨rfl, (List.forall_mem_cons.mpr ⟨rfl, (List.forall_mem_cons.mpr ⟨rfl, (fun _ h => nomatch h)⟩)⟩)⟩) (by exact (fillHit_b (by assumption)).symm) (by exact (fillRow_dd (by assumption) (by assumption) (by assumption)).symm) (by kst_same)
    · exact fill_close hv9 hP0 hoff hcl [_, _] [⟨_, if b > v.lo then b else v.lo, if e < v.hi then e else v.hi, _, _, _⟩] [⟨_, v.lo, if b > v.lo then b else v.lo, _, _, _⟩] (by assumption) (by assumption) (by simp [ivs]) (by simp [ivs]) (List.forall_mem_cons.mpr ⟨List.Mem.tail _ (List.Mem.head _), (fun _ h => nomatch h)⟩) (List.forall_mem_cons.mpr ⟨List.Mem.head _, (fun _ h => nomatch h)⟩) (List.forall_mem_cons.mpr ⟨rfl, (List.forall_mem_cons.mpr ⟨rfl, (fun _ h => nomatch h)⟩)⟩) (by exact (fillHit_b (by assumption)).symm) (by exact (fillRow_dn (by assumption) (by assumption) (by assumption)).symm) (by kst_same)
    · exact fill_close hv9 hP0 hoff hcl [_, _] [⟨_, if b > v.lo then b else v.lo, if e < v.hi then e else v.hi, _, _, _⟩] [⟨_, if e < v.hi then e else v.hi, v.hi, _, _, _⟩] (by assumption) (by assumption) (by simp [ivs]) (by simp [ivs]) (List.forall_mem_cons.mpr ⟨List.Mem.tail _ (List.Mem.head _), (fun _ h => nomatch h)⟩) (List.forall_mem_cons.mpr ⟨List.Mem.head _, (fun _ h => nomatch h)⟩) (List.forall_mem_cons.mpr ⟨rfl, (List.forall_mem_cons.mpr ⟨rfl, (fun _ h => nomatch h)⟩)⟩) (by exact (fillHit_b (by assumption)).symm) (by exact (fillRow_nd (by assumption) (by assumption) (by assumption)).symm) (by kst_same)
    · exact fill_close hv9 hP0 hoff hcl [_] [⟨_, if b > v.lo then b else v.lo, if e < v.hi then e else v.hi, _, _, _⟩] [] (by assumption) (by assumption) (by simp [ivs]) (by simp [ivs]) (List.forall_mem_cons.mpr ⟨List.Mem.head _, (fun _ h => nomatch h)⟩) (fun _ h => nomatch h) (List.forall_mem_cons.mpr ⟨rfl, (fun _ h => nomatch h)⟩) (by exact (fillHit_b (by assumption)).symm) (by exact (fillRow_nn (by assumption) (by assumption) (by assumption)).symm) (by kst_same)
  case done =>
    intro c u h tk hP hF hN
    dsimp only [kstB] at hF hP hN
    refine hideG ?_
    intro PZ bkZ
    obtain ⟨a1, a2, a3, a4, a5, a6, a7, a8⟩ := hP
    refine bkZ ?_
    clear bkZ PZ
    have n1 := neN h1
    have n2 := neN h2
    try k_fold
    k_steps
    rw [List.length_map, List.take_length] at a1 a2
    refine bkz _ _ <| CtRet.intro (by assumption) (cb_drop (news := (hx, instObj 314 hq) :: (hq, dictOf (holEs w rwl k0 k1 vm) 2) :: (rwl, listOf (ivs c.r).toArray c.nr) :: (fl, listOf (ivs c.f).toArray c.nf) :: (rl, listOf (ivs rows).toArray nn) :: c.rest) (by assumption) ?_) ⟨fl, c.nf, c.f, rwl, c.nr, c.r, (fl, listOf (ivs c.f).toArray c.nf) :: (rl, listOf (ivs rows).toArray nn) :: c.rest, rfl, rfl, .head _, fun v hv => List.mem_cons_of_mem _ (List.mem_cons_of_mem _ (a3 v hv)), fun v hv => List.mem_cons_of_mem _ (List.mem_cons_of_mem _ (a4 v hv)), a1, a2, fun p hp => List.mem_cons_of_mem _ (List.mem_cons_of_mem _ (a5 p hp)), List.forall_mem_cons.mpr ⟨Nat.ne_of_gt hfl.2.1, List.forall_mem_cons.mpr ⟨h2, a8⟩⟩, Nat.ne_of_gt hrw.2.2.1⟩
    refine List.forall_mem_cons.mpr ⟨by k_mem, List.forall_mem_cons.mpr ⟨by k_mem, List.forall_mem_cons.mpr ⟨by k_mem, List.forall_mem_cons.mpr ⟨by k_mem, List.forall_mem_cons.mpr ⟨by k_mem, ?_⟩⟩⟩⟩⟩
    exact fun p hp => by (repeat refine List.mem_cons_of_mem _ ?_); exact hp
end
end
-- Rules
section
example : True := by
  w_top off
  trivial
section
open PySem.Calls PySem.SeqAt
variable {prog : Program} {w : World} {A : Around} {E : Value → Shared → Prop} {s : Shared} {env : Env} {h₀ : Heap} {x y : Str} {body : List Stmt}
theorem cmp_ne_nil {a b : Addr} {items : Array Value} {Q : Value → Shared → Prop} (ha : s.heap.IsList a items) (hb : s.heap.IsList b #[]) (hu : A.units < cLine)
    (h : Q (.bool (items.size != 0)) s) : wpAny (model prog w) A (compareOp .NotEq (.ref a) (.ref b)) Q E s := by
  refine cmp_ofNotEq ?_
  by_cases hz : items.size = 0
  · have R := RcNeAt.lists (A := A) (s := s) (e := fun _ => true) ha hb (by simpa using hz) hu (fun j h1 _ => absurd h1 (by omega))
    refine R prog w E Q ?_
    rw [hz] at h ⊢
    exact h
  · refine RcNeAt.lists_lengths (A := A) (s := s) ha hb (by simpa [bne] using hz) hu prog w E Q ?_
    have e : (items.size != 0) = true := by simpa [bne] using hz
    rw [e] at h
    exact h
theorem cmp_ne_push {a b : Addr} {items : Array Value} {v : Value} {Q : Value → Shared → Prop} (ha : s.heap.IsList a (items.push v)) (hb : s.heap.IsList b #[]) (hu : A.units < cLine)
    (h : Q (.bool true) s) : wpAny (model prog w) A (compareOp .NotEq (.ref a) (.ref b)) Q E s := by
  refine cmp_ne_nil ha hb hu ?_
  have e : ((items.push v).size != 0) = true := by simp [Array.size_push]
  rw [e]
  exact h
theorem cmp_eq_nil {a b : Addr} {items : Array Value} {Q : Value → Shared → Prop} (ha : s.heap.IsList a items) (hb : s.heap.IsList b #[]) (hu : A.units < cLine)
    (h : Q (.bool (items.size == 0)) s) : wpAny (model prog w) A (compareOp .Eq (.ref a) (.ref b)) Q E s := by
  refine cmp_ofEq ?_
  by_cases hz : items.size = 0
  · have R := RcAt.lists (A := A) (s := s) (e := fun _ => true) ha hb (by simpa using hz) hu (fun j h1 _ => absurd h1 (by omega))
    refine R prog w E Q ?_
    rw [hz] at h ⊢
    exact h
  · refine RcAt.lists_lengths (A := A) (s := s) ha hb (by simpa [bne] using hz) hu prog w E Q ?_
    have e : (items.size == 0) = false := by simpa [bne] using hz
    rw [e] at h
    exact h
theorem item_last {value slice : PySem.Expr} {l : Addr} {items : Array Value} {u : Tok} {v : Value} {Q : Value → Shared → Prop} (hl : s.heap.IsList l (items.push v)) (h : Q v s)
    (hs : subscripted slice false (.ref l) (.int (-1) u) = operate [.ref l, .int (-1) u] (getItem (.ref l) (.int (-1) u)) := by with_unfolding_all rfl) :
    wpAny (model prog w) A (subscriptTail value slice (.ref l) (.int (-1) u)) Q E s :=
  tail_any hl.typeIs slot_list_getitem.lookup (wpAny_getItem_list_neg hl (by decide) (by rw [Array.size_push]; omega) (by decide) (by
    have e : ((-1 : Int) + ((items.push v).size : Int)).toNat = items.size := by rw [Array.size_push]; omega
    rw [e]; simp) h) hs
/-- a walk over a list of one pair -/
theorem pairs_one {l t : Addr} {v₁ v₂ : Value} {n nn : Nat} {m₀ : Str → Option Value} {news : Led} {Q : Flow → Shared → Prop} (hh : A.handled = none) (hl : (l, listOf #[.ref t] nn) ∈ news) (ht : (t, pairOf v₁ v₂ n) ∈ news)
    (F : Fr h₀ env.locals s.heap m₀) (N : News h₀ env.locals s.heap news)
    (turn : ∀ h tk own, OwnOff own (news.map (·.1)) → (∀ p ∈ own, p.2.cls = .type "list_iterator") → Fr h₀ env.locals h (fun z => if z = y then some v₂ else if z = x then some v₁ else m₀ z) → News h₀ env.locals h (news ++ own) →
      wpAny (model prog w) A (execs body env) (InvPostG h₀ env.locals (fun m' nx => (l, listOf #[.ref t] nn) ∈ nx ∧ ∀ h tk, Fr h₀ env.locals h m' → News h₀ env.locals h nx → Q .next { s with heap := h, toks := tk }) own { s with heap := h, toks := tk } Q) E { s with heap := h, toks := tk }) :
    PairsAt prog w A h₀ env x y body Q E (.ref l) s := by
  refine ⟨l, [((t, n), (v₁, v₂))], nn, m₀, news, (fun i m nx => (l, listOf #[.ref t] nn) ∈ nx ∧ match i with
    | 0 => nx = news ∧ m = m₀
    | _ + 1 => ∀ h tk, Fr h₀ env.locals h m → News h₀ env.locals h nx → Q .next { s with heap := h, toks := tk }), rfl, hh, (fun _ _ _ hj => hj.1), ?_, F, N, ⟨hl, rfl, rfl⟩, ?_, ?_⟩
  · intro i m nx q hq hj
    match i, hq, hj with
    | 0, hq, ⟨_, hn, _⟩ =>
      cases hq
      subst hn
      exact ht
  · intro i q m₁ nx h tk own hq hoff hcl hj F₁ N₁
    match i, hq, hj with
    | 0, hq, ⟨_, hn, hm⟩ =>
      cases hq
      subst hn hm
      exact turn h tk own hoff hcl F₁ N₁
  · intro m₁ nx h tk hj F₁ N₁
    exact hj.2 h tk F₁ N₁
end
end
-- Reach
section
local macro_rules | `(tactic| walk_at "pad") => `(tactic| skip)
example : True := by
  w_top off
  trivial
section
open PySem.Calls PySem.SeqAt
variable {prog : Program} {w : World} {A : Around} {E : Value → Shared → Prop} {s : Shared}
theorem cmp_ne_pos {a b : Addr} {items : Array Value} {Q : Value → Shared → Prop} (hp : 0 < items.size) (ha : s.heap.IsList a items) (hb : s.heap.IsList b #[]) (hu : A.units < cLine)
    (h : Q (.bool true) s) : wpAny (model prog w) A (compareOp .NotEq (.ref a) (.ref b)) Q E s := by
  refine cmp_ne_nil ha hb hu ?_
  have e : (items.size != 0) = true := by simp; intro h; rw [h] at hp; exact absurd hp (by decide)
  rw [e]
  exact h
end
section
local macro_rules | `(tactic| walk_at "compareOp NotEq ref ref") => `(tactic| (k_here; (with_reducible show wpAny _ _ (compareOp CmpOp.NotEq (Value.ref _) (Value.ref _)) _ _ _); k_dflt (refine cmp_ne_pos (by assumption) (News.isList (by k_asm) (by k_mem)) (News.isList (by k_asm) (by k_mem)) (by ktr_units) ?_)))
local macro_rules | `(tactic| walk_at "subscriptTail") => `(tactic| (k_here; (with_reducible show wpAny _ _ (subscriptTail _ _ (Value.ref _) (Value.int (-1) _)) _ _ _); refine Hold.on ?_))
set_option maxHeartbeats 8000000 in
theorem reach_ct {w : World} {hx hq rl : Addr} {k0 k1 vm : Tok} {nn : Nat} {items arr : Array Value} {lv : Iv} {all : Led} (har : arr = items.push (.ref lv.t))
    (h1 : (hx, instObj 314 hq) ∈ all) (h2 : (hq, dictOf (holEs w rl k0 k1 vm) 2) ∈ all) (h3 : (rl, listOf arr nn) ∈ all) (h4 : (lv.t, pairOf (.int lv.lo lv.tl) (.int 65535 lv.th) lv.n) ∈ all) :
    Ct w 304 [.ref hx] all 12 (fun r n' => n' = all ∧ r = .int lv.lo lv.tl) := by
  refine' Ct.ro ?ho ?hcd ?hbind ?hloc ?hco ?hgen ?hk ?hcell ?hsub ?hb
  case ho => k_is
  case hcd => k_is
  case hbind => (intro s hX; first | exact BindsTo.of_eq rfl | exact binds_K hX rfl (by k_is) rfl rfl rfl)
  case hloc => exact locs rfl
  case hco => exact rfl
  case hgen => exact rfl
  case hk => exact rfl
  case hcell => decide
  case hsub => exact List.forall_mem_cons.mpr ⟨h1, List.forall_mem_cons.mpr ⟨h2, List.forall_mem_cons.mpr ⟨h3, List.forall_mem_cons.mpr ⟨h4, List.forall_mem_nil _⟩⟩⟩⟩
  case hb =>
  unfold Bd
  intro mean mg mb dp un gd outer A₀ base g L s B F X N T hd hu
  refine hideQ ?_
  intro Qz bkz
  (try dsimp only)
  have hps : 0 < arr.size := by rw [har, Array.size_push]; omega
  k_steps
  unfold Hold
  refine item_last (items := items) (v := .ref lv.t) (har ▸ News.isList (by assumption) (by k_mem)) ?_
  k_steps
  unfold Hold
  refine item_last (items := items) (v := .ref lv.t) (har ▸ News.isList (by assumption) (by k_mem)) ?_
  k_steps
  exact bkz _ _ <| CtRet.intro (by assumption) (by assumption) ⟨rfl, by ((repeat (first | exact List.forall_mem_nil _ | (refine List.forall_mem_cons.mpr ⟨(by k_mem), ?_⟩))))⟩
end
end
-- Dput0
section
example : True := by
  w_top off
  trivial
set_option genInjectivity false in
set_option genSizeOf false in
/-- the tokens of a datagram's dict that stand -/
structure DTok where
  (k0 k1 k2 k3 k4 k5 k6 k7 tb tm : Tok)
abbrev dgEs (w : World) (hx pl : Addr) (ev fv : Value) (ah sz : Int) (da : DTok) (ta ts : Tok) : List DictEntry :=
  [⟨PyData.keyHash w.params (Str.ofString "began"), .str (Str.ofString "began") da.k0, .int 1 da.tb⟩,
   ⟨PyData.keyHash w.params (Str.ofString "most"), .str (Str.ofString "most") da.k1, .int 65535 da.tm⟩,
   ⟨PyData.keyHash w.params (Str.ofString "holes"), .str (Str.ofString "holes") da.k2, .ref hx⟩,
   ⟨PyData.keyHash w.params (Str.ofString "parts"), .str (Str.ofString "parts") da.k3, .ref pl⟩,
   ⟨PyData.keyHash w.params (Str.ofString "end"), .str (Str.ofString "end") da.k4, ev⟩,
   ⟨PyData.keyHash w.params (Str.ofString "ahead"), .str (Str.ofString "ahead") da.k5, .int ah ta⟩,
   ⟨PyData.keyHash w.params (Str.ofString "first"), .str (Str.ofString "first") da.k6, fv⟩,
   ⟨PyData.keyHash w.params (Str.ofString "size"), .str (Str.ofString "size") da.k7, .int sz ts⟩]
def enV : Option Int → Tok → Value
  | none, _ => .none
  | some e, t => .int e t
theorem fill_dg {w : World} {gq pl hx hq rl : Addr} {og1 og2 : Obj} {b e : Int} {t1 t2 k0 k1 vm : Tok} {nn : Nat} {rows : List Iv} {tp : Led}
    (hhx : (hx, instObj 314 hq) ∈ tp) (hrl : (rl, listOf (ivs rows).toArray nn) ∈ tp) (hrows : ∀ v ∈ rows, IvAt tp v) (hsz : rows.length ≤ 1000)
    (m1 : gq ≠ pl) (m2 : gq ≠ hq) (m3 : pl ≠ hq) (og : ∀ p ∈ tp, p.1 ≠ gq) (op : ∀ p ∈ tp, p.1 ≠ pl) (oh : ∀ p ∈ tp, p.1 ≠ hq) :
    Ct w 290 [.ref hx, .int b t1, .int e t2] ((gq, og1) :: (pl, og2) :: (hq, dictOf (holEs w rl k0 k1 vm) 2) :: tp) 12 (fun r n' => ∃ fl nf fnd rl' nr rws' tp', r = .ref fl ∧ n' = (gq, og1) :: (pl, og2) :: (hq, dictOf (holEs w rl' k0 k1 vm) 2) :: tp' ∧
      (fl, listOf (ivs fnd).toArray nf) ∈ tp' ∧ (rl', listOf (ivs rws').toArray nr) ∈ tp' ∧ (∀ v ∈ fnd, IvAt tp' v) ∧ (∀ v ∈ rws', IvAt tp' v) ∧ iv2 fnd = fillHits b e (iv2 rows) ∧ iv2 rws' = fillRows b e (iv2 rows) ∧ (∀ p ∈ tp, p ∈ tp') ∧
      (∀ p ∈ tp', p.1 ≠ gq) ∧ (∀ p ∈ tp', p.1 ≠ pl) ∧ (∀ p ∈ tp', p.1 ≠ hq)) := by
  unfold Ct
  intro mean mg mb dp un gd cn cs ad ccd cl outer A₀ base h₀ L m s Q E B F X N T hk hd hu hret
  have N2 : News h₀ L s.heap (((hx, instObj 314 hq) :: (hq, dictOf (holEs w rl k0 k1 vm) 2) :: (rl, listOf (ivs rows).toArray nn) :: tp) ++ [(gq, og1), (pl, og2)]) := by
    intro p hp
    rcases List.mem_append.mp hp with hp | hp
    · rcases List.mem_cons.mp hp with rfl | hp
      · exact N _ (.tail _ (.tail _ (.tail _ hhx)))
      rcases List.mem_cons.mp hp with rfl | hp
      · exact N _ (.tail _ (.tail _ (.head _)))
      rcases List.mem_cons.mp hp with rfl | hp
      · exact N _ (.tail _ (.tail _ (.tail _ hrl)))
      · exact N _ (.tail _ (.tail _ (.tail _ hp)))
    · rcases List.mem_cons.mp hp with rfl | hp
      · exact N _ (.head _)
      · rw [List.mem_singleton.mp hp]
        exact N _ (.tail _ (.head _))
  refine Ct.use (fill_ct hrows oh (oh _ hhx) (oh _ hrl) hsz ?_) B F X N2 T hk hd hu ?_
  · refine List.forall_mem_cons.mpr ⟨List.forall_mem_cons.mpr ⟨(og _ hhx).symm, List.forall_mem_cons.mpr ⟨m2, List.forall_mem_cons.mpr ⟨(og _ hrl).symm, fun q hq => (og q hq).symm⟩⟩⟩, List.forall_mem_cons.mpr ⟨List.forall_mem_cons.mpr ⟨(op _ hhx).symm, List.forall_mem_cons.mpr ⟨m3, List.forall_mem_cons.mpr ⟨(op _ hrl).symm, fun q hq => (op q hq).symm⟩⟩⟩, fun _ h => nomatch h⟩⟩
  · rintro r n' h' tk' F' N' ⟨n0, rfl, ⟨fl, nf, fnd, rl', nr, rws', tp', rfl, rfl, g1, g2, g3, g4, g5, g6, g7, g8⟩, g9⟩
    have z1 := fun p hp => g9 p hp _ (List.Mem.head _)
    have z2 := fun p hp => g9 p hp _ (List.Mem.tail _ (List.Mem.head _))
    refine hret _ (news' := (gq, og1) :: (pl, og2) :: (hq, dictOf (holEs w rl' k0 k1 vm) 2) :: (rl', listOf (ivs rws').toArray nr) :: tp') _ _ F' ?_ ⟨fl, nf, fnd, rl', nr, rws', (rl', listOf (ivs rws').toArray nr) :: tp', rfl, rfl, .tail _ g1, .head _, fun v hv => List.mem_cons_of_mem _ (g2 v hv), fun v hv => List.mem_cons_of_mem _ (g3 v hv), g4, g5, fun p hp => List.mem_cons_of_mem _ (g6 p hp), ?_, ?_, ?_⟩
    · intro p hp
      rcases List.mem_cons.mp hp with rfl | hp
      · exact N' _ (List.mem_append_right _ (.head _))
      rcases List.mem_cons.mp hp with rfl | hp
      · exact N' _ (List.mem_append_right _ (.tail _ (.head _)))
      rcases List.mem_cons.mp hp with rfl | hp
      · exact N' _ (List.mem_append_left _ (.tail _ (.head _)))
      · exact N' _ (List.mem_append_left _ (.tail _ (.tail _ hp)))
    · exact fun p hp => z1 p (.tail _ (.tail _ hp))
    · exact fun p hp => z2 p (.tail _ (.tail _ hp))
    · exact List.forall_mem_cons.mpr ⟨g8, g7⟩
theorem iv2_one {l : List Iv} {a b : Int} (h : iv2 l = [(a, b)]) : ∃ f, l = [f] ∧ f.lo = a ∧ f.hi = b := by
  match l, h with
  | [f], h => simp [iv2] at h; exact ⟨f, rfl, h.1, h.2⟩
theorem pic_all {b9 : Array UInt8} {ks : List Int} {o d : Int} {len : Nat} (h : KBw.bInts b9 = List.take (clipAt ks.length (o + (ks.length : Int) - o) - clipAt ks.length (o - o)) (List.drop (clipAt ks.length (o - o)) ks)) (hks : ks = List.replicate len d) (hlen : ks.length = len) : KBw.bInts b9 = List.replicate len d := by
  rw [h, show o + (ks.length : Int) - o = ((ks.length : Nat) : Int) by omega, show o - o = ((0 : Nat) : Int) by omega, clipAt_nat, clipAt_nat]
  simp [hks]
theorem Ct.deep {w : World} {f : Addr} {vs : List Value} {news : Led} {D D' : Nat} {P : Value → Led → Prop} (C : Ct w f vs news D P) (h : D ≤ D') : Ct w f vs news D' P :=
  fun mean mg mb dp un gd cn cs a ccd cl outer A₀ base h₀ L m s Q E B F X N T hk hd hu ret =>
    C mean mg mb dp un gd cn cs a ccd cl outer A₀ base h₀ L m s Q E B F X N T hk (by omega) (by omega) ret
section
set_option maxHeartbeats 8000000 in
theorem against_more {w : World} {gx gq pl hx : Addr} {b e : Int} {t1 t2 te : Tok} {en : Option Int} {fv : Value} {ah sz : Int} {da : DTok} {ta ts : Tok} {all : Led} (h1 : (gx, instObj 368 gq) ∈ all) (h2 : (gq, dictOf (dgEs w hx pl (enV en te) fv ah sz da ta ts) 8) ∈ all)
    {more : Bool} (hm : more = true) (he : e ≤ 65535) (hE : ∀ E, en = some E → e < E) : Ct w 339 [.ref gx, .int b t1, .int e t2, .bool more] all 8 (fun r n' => n' = all ∧ r = .bool false) := by
  subst hm
  refine' Ct.ro ?ho ?hcd ?hbind ?hloc ?hco ?hgen ?hk ?hcell ?hsub ?hb
  case ho => k_is
  case hcd => k_is
  case hbind => (intro s hX; first | exact BindsTo.of_eq rfl | exact binds_K hX rfl (by k_is) rfl rfl rfl)
  case hloc => exact locs rfl
  case hco => exact rfl
  case hgen => exact rfl
  case hk => exact rfl
  case hcell => decide
  case hsub => exact sub2 h1 h2
  case hb =>
  unfold Bd
  intro mean mg mb dp un gd outer A₀ base g L s B F X N T hd hu
  refine hideQ ?_
  intro Qz bkz
  (try dsimp only)
  cases en with
  | none =>
    simp only [enV] at N
    k_steps
    all_goals first | exact absurd he (by omega) | exact bkz _ _ <| CtRet.intro (by assumption) (by assumption) ⟨rfl, by ((repeat (first | exact List.forall_mem_nil _ | (refine List.forall_mem_cons.mpr ⟨(by k_mem), ?_⟩))))⟩
  | some E9 =>
    simp only [enV] at N
    have hlt := hE E9 rfl
    k_steps
    all_goals first | (exfalso; omega) | exact bkz _ _ <| CtRet.intro (by assumption) (by assumption) ⟨congrArg Value.bool (by simp; omega), by ((repeat (first | exact List.forall_mem_nil _ | (refine List.forall_mem_cons.mpr ⟨(by k_mem), ?_⟩))))⟩
end
section
set_option maxHeartbeats 8000000 in
theorem against_last {w : World} {gx gq pl hx hq rl : Addr} {b e : Int} {t1 t2 kk0 kk1 vm : Tok} {fv : Value} {ah sz : Int} {da : DTok} {ta ts : Tok} {nn : Nat} {arr items : Array Value} {lv : Iv} {all : Led} (h1 : (gx, instObj 368 gq) ∈ all) (h2 : (gq, dictOf (dgEs w hx pl .none fv ah sz da ta ts) 8) ∈ all)
    (h3 : (hx, instObj 314 hq) ∈ all) (h4 : (hq, dictOf (holEs w rl kk0 kk1 vm) 2) ∈ all) (h5 : (rl, listOf arr nn) ∈ all) (h6 : (lv.t, pairOf (.int lv.lo lv.tl) (.int 65535 lv.th) lv.n) ∈ all) (har : arr = items.push (.ref lv.t)) (hsz : items.size ≤ 1000)
    {more : Bool} (hm : more = false) (he : e ≤ 65535) (hlo : lv.lo ≤ e) (hah : ah < e) (hpos : 0 < e) : Ct w 339 [.ref gx, .int b t1, .int e t2, .bool more] all 20 (fun r n' => n' = all ∧ r = .bool false) := by
  subst hm
  refine' Ct.ro ?ho ?hcd ?hbind ?hloc ?hco ?hgen ?hk ?hcell ?hsub ?hb
  case ho => k_is
  case hcd => k_is
  case hbind => (intro s hX; first | exact BindsTo.of_eq rfl | exact binds_K hX rfl (by k_is) rfl rfl rfl)
  case hloc => exact locs rfl
  case hco => exact rfl
  case hgen => exact rfl
  case hk => exact rfl
  case hcell => decide
  case hsub => exact List.forall_mem_cons.mpr ⟨h1, List.forall_mem_cons.mpr ⟨h2, List.forall_mem_cons.mpr ⟨h3, List.forall_mem_cons.mpr ⟨h4, List.forall_mem_cons.mpr ⟨h5, List.forall_mem_cons.mpr ⟨h6, List.forall_mem_nil _⟩⟩⟩⟩⟩⟩
  case hb =>
  unfold Bd
  intro mean mg mb dp un gd outer A₀ base g L s B F X N T hd hu
  refine hideQ ?_
  intro Qz bkz
  (try dsimp only)
  have hq9 : HoldAt [304] := .mk
  (k_steps; (repeat' (unfold Hold; (first | (k_here; k_dflt (refine' Ct.use' (reach_ct ?c0 ?c1 ?c2 ?c3 ?c4) ?k1 ?k2 ?k3 ?k4 ?k5 ?kK ?kd ?ku ?_; walk_at "ct1"; (case k4 => k_asm); (case c0 => assumption); (case c1 => k_mem); (case c2 => k_mem); (case c3 => k_mem); (case c4 => k_mem); k_whole; (intro zh9 ztk9 zF9 zP7 zbk7 zr9 znw9); (rintro ⟨ze9, ze8⟩); (try subst ze8); (try subst ze9); (refine zbk7 _ _ ?_); (clear zbk7 zP7); (intro zN9); (try k_lt zl1); (try k_lt2 zl2); (try dsimp only); (try k_sweep); (try k_fold)))); k_steps)))
  all_goals first | exact absurd he (by omega) | (exfalso; omega) | exact bkz _ _ <| CtRet.intro (by assumption) (by assumption) ⟨congrArg Value.bool (by simp; omega), by ((repeat (first | exact List.forall_mem_nil _ | (refine List.forall_mem_cons.mpr ⟨(by k_mem), ?_⟩))))⟩ | exact bkz _ _ <| CtRet.intro (by assumption) (by assumption) ⟨rfl, by ((repeat (first | exact List.forall_mem_nil _ | (refine List.forall_mem_cons.mpr ⟨(by k_mem), ?_⟩))))⟩
end
/-- why a piece is not against its datagram -/
def PieceOk (off len : Int) (more : Bool) (en : Option Int) (ah : Int) (rows : List Iv) : Prop :=
  (more = true ∧ ∀ E, en = some E → off + len < E) ∨ (more = false ∧ en = none ∧ ah < off + len ∧ 0 < off + len ∧ ∃ rs lv, rows = rs ++ [lv] ∧ lv.hi = 65535 ∧ lv.lo ≤ off + len)
theorem against_all {w : World} {gx gq pl hx hq rl : Addr} {b off len : Int} {t1 t2 te kk0 kk1 vm : Tok} {en : Option Int} {fv : Value} {ah sz : Int} {da : DTok} {ta ts : Tok} {nn : Nat} {rows : List Iv} {all : Led} (h1 : (gx, instObj 368 gq) ∈ all) (h2 : (gq, dictOf (dgEs w hx pl (enV en te) fv ah sz da ta ts) 8) ∈ all)
    (h3 : (hx, instObj 314 hq) ∈ all) (h4 : (hq, dictOf (holEs w rl kk0 kk1 vm) 2) ∈ all) (h5 : (rl, listOf (ivs rows).toArray nn) ∈ all) (hrows : ∀ v ∈ rows, IvAt all v) (hsz : rows.length ≤ 400)
    {more : Bool} (he : off + len ≤ 65535) (hc : PieceOk off len more en ah rows) : Ct w 339 [.ref gx, .int b t1, .int (off + len) t2, .bool more] all 20 (fun r n' => n' = all ∧ r = .bool false) := by
  rcases hc with ⟨hm, hE⟩ | ⟨hm, hen, hah, hpos, rs, lv, hrs, hlh, hll⟩
  · exact (against_more h1 h2 hm he hE).deep (by decide)
  · subst hen
    have hlv : (lv.t, pairOf (.int lv.lo lv.tl) (.int 65535 lv.th) lv.n) ∈ all := by
      have := hrows lv (by rw [hrs]; exact List.mem_append_right _ (.head _))
      unfold IvAt at this
      rw [hlh] at this
      exact this
    exact against_last h1 h2 h3 h4 h5 hlv (by rw [hrs]; exact ivs_push) (by rw [hrs] at hsz; simp only [List.length_append, List.length_singleton] at hsz; simp only [List.size_toArray, List.length_map]; omega) hm he hll hah hpos
section
local macro_rules | `(tactic| walk_at "exec For Tuple Call cons nil") => `(tactic| (k_here; (rename Fr _ _ _ _ => lF'); (with_unfolding_all refine' For_pairs lF' ?k1 ?k2 ?k3 ?_; (case k1 => exact rfl); (case k2 => exact rfl); (case k3 => exact rfl); k_whole)))
set_option maxHeartbeats 16000000 in
theorem dput_all {w : World} {gx gq pl hx hq rl x dx : Addr} {H : Hdr} {pb : Array UInt8} {ks : List Int} {tk te : Tok} {fv : Value} {ah sz : Int} {en : Option Int} {da : DTok} {ta ts kk0 kk1 vm : Tok} {pv : Array Value} {np nn : Nat} {rows : List Iv} {tp rest : Led} {len : Nat} {d : Int}
    {kh : HTok} {n : Nat}
    (hgx : (gx, instObj 368 gq) ∈ tp) (hhx : (hx, instObj 314 hq) ∈ tp) (hrl : (rl, listOf (ivs rows).toArray nn) ∈ tp) (hx1 : (x, instObj 155 dx) ∈ tp) (hx2 : (dx, dictOf (hdrEs w H kh) n) ∈ tp)
    (hb : KBw.bInts pb = ks) (hlen : ks.length = len) (hks : ks = List.replicate len d) (hrows : ∀ v ∈ rows, IvAt tp v) (hsz : rows.length ≤ 400) (hnp : pv.size ≤ 1000) (hhit : fillHits H.off (H.off + (ks.length : Int)) (iv2 rows) = [(H.off, (H.off + (ks.length : Int)))]) (ho : 0 ≤ H.off) (ho2 : H.off + len ≤ 60000)
    (hfv : (H.off = 0 ∧ fv = .none) ∨ H.off ≠ 0) (hcase : PieceOk H.off (ks.length : Int) H.more en ah rows)
    (m1 : Apart gq pl) (m2 : Apart gq hq) (m3 : Apart pl hq) (og : ∀ p ∈ tp, p.1 ≠ gq) (op : ∀ p ∈ tp, p.1 ≠ pl) (oh : ∀ p ∈ tp, p.1 ≠ hq)
    (ha : ∀ p ∈ rest, ∀ q ∈ (gq, dictOf (dgEs w hx pl (enV en te) fv ah sz da ta ts) 8) :: (pl, listOf pv np) :: (hq, dictOf (holEs w rl kk0 kk1 vm) 2) :: tp, p.1 ≠ q.1) :
    Ct w 346 [.ref gx, .ref x, .bytes pb tk] (((gq, dictOf (dgEs w hx pl (enV en te) fv ah sz da ta ts) 8) :: (pl, listOf pv np) :: (hq, dictOf (holEs w rl kk0 kk1 vm) 2) :: tp) ++ rest) 60 (fun r n' => ∃ n0, n' = n0 ++ rest ∧
      (∃ D9 tL tD b9 rl' nr rws' tp' ah' ev' fv' ta' ts', r = .bool true ∧ n0 = (gq, dictOf (dgEs w hx pl ev' fv' ah' (sz + (H.off + (ks.length : Int)) - H.off) da ta' ts') 8) :: (pl, listOf (pv.push (.ref D9)) (np + 1)) :: (hq, dictOf (holEs w rl' kk0 kk1 vm) 2) :: tp' ∧ (rl', listOf (ivs rws').toArray nr) ∈ tp' ∧ (∀ v ∈ rws', IvAt tp' v) ∧
        iv2 rws' = (if H.more then fillRows H.off (H.off + (ks.length : Int)) (iv2 rows) else fillRows (H.off + (ks.length : Int)) 65535 (fillRows H.off (H.off + (ks.length : Int)) (iv2 rows))) ∧ (D9, pairOf (.int H.off tL) (.bytes b9 tD) 0) ∈ tp' ∧ KBw.bInts b9 = List.replicate len d ∧ (∀ p ∈ tp, p ∈ tp') ∧ (∀ p ∈ tp', p.1 ≠ gq) ∧ (∀ p ∈ tp', p.1 ≠ pl) ∧ (∀ p ∈ tp', p.1 ≠ hq) ∧
        ah' = (if H.more then (if (H.off + (ks.length : Int)) > ah then (H.off + (ks.length : Int)) else ah) else ah) ∧ (∃ te', ev' = enV (if H.more then en else some (H.off + (ks.length : Int))) te') ∧ fv' = (if H.off = 0 then .ref x else fv)) ∧ ∀ p ∈ n0, ∀ q ∈ rest, p.1 ≠ q.1) := by
  refine' Ct.rw ?ho ?hcd ?hbind ?hloc ?hco ?hgen ?hk ?hcell ?hap ?hb
  case ho => k_is
  case hcd => k_is
  case hbind => (intro s hX; first | exact BindsTo.of_eq rfl | exact binds_K hX rfl (by k_is) rfl rfl rfl)
  case hloc => exact locs rfl
  case hco => exact rfl
  case hgen => exact rfl
  case hk => exact rfl
  case hcell => decide
  case hap => exact ha
  case hb =>
  unfold Bd
  intro mean mg mb dp un gd outer A₀ base g L s B F X N T hd hu
  refine hideQ ?_
  intro Qz bkz
  (try dsimp only)
  have hq9 : HoldAt [290, 339] := .mk
  obtain N2 : News g L s.heap ((gq, dictOf (dgEs w hx pl (enV en te) fv ah sz da ta ts) 8) :: (pl, listOf pv np) :: (hq, dictOf (holEs w rl kk0 kk1 vm) 2) :: (gx, instObj 368 gq) :: (hx, instObj 314 hq) :: (rl, listOf (ivs rows).toArray nn) :: (x, instObj 155 dx) :: (dx, dictOf (hdrEs w H kh) n) :: tp) := by
    refine cb_drop N (List.forall_mem_cons.mpr ⟨by k_mem, List.forall_mem_cons.mpr ⟨by k_mem, List.forall_mem_cons.mpr ⟨by k_mem, ?_⟩⟩⟩)
    have up : ∀ p ∈ tp, p ∈ (gq, dictOf (dgEs w hx pl (enV en te) fv ah sz da ta ts) 8) :: (pl, listOf pv np) :: (hq, dictOf (holEs w rl kk0 kk1 vm) 2) :: tp := fun p hp => List.mem_cons_of_mem _ (List.mem_cons_of_mem _ (List.mem_cons_of_mem _ hp))
    exact List.forall_mem_cons.mpr ⟨up _ hgx, List.forall_mem_cons.mpr ⟨up _ hhx, List.forall_mem_cons.mpr ⟨up _ hrl, List.forall_mem_cons.mpr ⟨up _ hx1, List.forall_mem_cons.mpr ⟨up _ hx2, up⟩⟩⟩⟩⟩
  clear N
  have q0 := Apart.of (og _ hgx)
  have q1 := Apart.of (og _ hhx)
  have q2 := Apart.of (og _ hrl)
  have q3 := Apart.of (og _ hx1)
  have q4 := Apart.of (og _ hx2)
  have r0 := Apart.of (op _ hgx)
  have r1 := Apart.of (op _ hhx)
  have r2 := Apart.of (op _ hrl)
  have r3 := Apart.of (op _ hx1)
  have r4 := Apart.of (op _ hx2)
  have z0 := Apart.of (oh _ hgx)
  have z1 := Apart.of (oh _ hhx)
  have z2 := Apart.of (oh _ hrl)
  have z3 := Apart.of (oh _ hx1)
  have z4 := Apart.of (oh _ hx2)
  dsimp only at q0 q1 q2 q3 q4 r0 r1 r2 r3 r4 z0 z1 z2 z3 z4
  have hz0 : (#[] : Array UInt8).size = 0 := rfl
  have up5 : ∀ p ∈ tp, p ∈ (gx, instObj 368 gq) :: (hx, instObj 314 hq) :: (rl, listOf (ivs rows).toArray nn) :: (x, instObj 155 dx) :: (dx, dictOf (hdrEs w H kh) n) :: tp := fun p hp => List.mem_cons_of_mem _ (List.mem_cons_of_mem _ (List.mem_cons_of_mem _ (List.mem_cons_of_mem _ (List.mem_cons_of_mem _ hp))))
  (k_steps; (repeat' (unfold Hold; (first | (k_here; k_dflt (refine' Ct.use' (against_all (rows := rows) (rl := rl) (kk0 := kk0) (kk1 := kk1) (vm := vm) (nn := nn) ?c1 ?c2 ?c3 ?c4 ?c5 ?c6 ?c7 ?c8 ?c9) ?k1 ?k2 ?k3 ?k4 ?k5 ?kK ?kd ?ku ?_; walk_at "ct1"; (case k4 => k_asm); (case c1 => k_mem); (case c2 => k_mem); (case c3 => k_mem); (case c4 => k_mem); (case c5 => k_mem); (case c6 => (intro v hv; unfold IvAt; (repeat refine List.mem_cons_of_mem _ ?_); exact hrows v hv)); (case c7 => exact hsz); (case c8 => omega); (case c9 => assumption); k_whole; (intro zh9 ztk9 zF9 zP7 zbk7 zr9 znw9); (rintro ⟨ze9, ze8⟩); (try subst ze8); (try subst ze9); (refine zbk7 _ _ ?_); (clear zbk7 zP7); (intro zN9); (try k_lt zl1); (try k_lt2 zl2); (try dsimp only); (try k_sweep); (try k_fold)))); k_steps)))
  unfold Hold
  (k_here; k_dflt (refine' Ct.use' (fill_dg (tp := (gx, instObj 368 gq) :: (hx, instObj 314 hq) :: (rl, listOf (ivs rows).toArray nn) :: (x, instObj 155 dx) :: (dx, dictOf (hdrEs w H kh) n) :: tp) ?c1 ?c2 ?c3 ?c4 m1.ne m2.ne m3.ne ?c5 ?c6 ?c7) ?k1 ?k2 ?k3 ?k4 ?k5 ?kK ?kd ?ku ?_; walk_at "ct1"; (case k4 => k_asm); (case c1 => k_mem); (case c2 => k_mem); (case c3 => exact fun v hv => up5 _ (hrows v hv)); (case c4 => omega); (case c5 => k_all); (case c6 => k_all); (case c7 => k_all); k_whole; (intro h9 tk9 F9 P7 bk7 r9 nw9); (rintro ⟨fl, nf, fnd, rl', nr, rws', tp', e8, e9, g1, g2, g3, g4, g5, g6, g7, g8, g9, g10⟩); (try subst e8); (try subst e9); (refine bk7 _ _ ?_); (clear bk7 P7); (intro N9); (try k_lt l1); (try k_lt2 l2); (try dsimp only); (try k_sweep); (try k_fold)))
  refine hideG ?_
  intro PZ bkZ
  obtain ⟨f, rfl, f1, f2⟩ := iv2_one (g5.trans hhit)
  refine bkZ ?_
  clear bkZ PZ
  refine hideG ?_
  intro PZ bkZ
  obtain ⟨ft, flo, fhi, ftl, fth, fn⟩ := f
  refine bkZ ?_
  clear bkZ PZ
  dsimp only at f1 f2
  subst f1 f2
  have gl := g1
  have gt := g3 _ (List.mem_singleton.mpr rfl)
  have up9 : ∀ p ∈ tp, p ∈ tp' := fun p hp => g7 p (up5 p hp)
  have hN9 : News g L h9 ((gq, dictOf (dgEs w hx pl (enV en te) fv ah sz da ta ts) 8) :: (pl, listOf pv np) :: (hq, dictOf (holEs w rl' kk0 kk1 vm) 2) :: (fl, listOf #[.ref ft] nf) :: (ft, pairOf (.int H.off ftl) (.int (H.off + (ks.length : Int)) fth) fn) :: (gx, instObj 368 gq) :: (hx, instObj 314 hq) :: (x, instObj 155 dx) :: (dx, dictOf (hdrEs w H kh) n) :: tp') := by
    have up3 : ∀ p ∈ tp', p ∈ (gq, dictOf (dgEs w hx pl (enV en te) fv ah sz da ta ts) 8) :: (pl, listOf pv np) :: (hq, dictOf (holEs w rl' kk0 kk1 vm) 2) :: tp' := fun p hp => List.mem_cons_of_mem _ (List.mem_cons_of_mem _ (List.mem_cons_of_mem _ hp))
    refine cb_drop N9 (List.forall_mem_cons.mpr ⟨by k_mem, List.forall_mem_cons.mpr ⟨by k_mem, List.forall_mem_cons.mpr ⟨by k_mem, ?_⟩⟩⟩)
    exact List.forall_mem_cons.mpr ⟨up3 _ gl, List.forall_mem_cons.mpr ⟨up3 _ gt, List.forall_mem_cons.mpr ⟨up3 _ (up9 _ hgx), List.forall_mem_cons.mpr ⟨up3 _ (up9 _ hhx), List.forall_mem_cons.mpr ⟨up3 _ (up9 _ hx1), List.forall_mem_cons.mpr ⟨up3 _ (up9 _ hx2), up3⟩⟩⟩⟩⟩⟩
  clear N9
  have u1 := Apart.of (g8 _ gl)
  have u2 := Apart.of (g9 _ gl)
  have u3 := Apart.of (g10 _ gl)
  have u4 := Apart.of (g8 _ gt)
  have u5 := Apart.of (g9 _ gt)
  have u6 := Apart.of (g10 _ gt)
  dsimp only at u1 u2 u3 u4 u5 u6
  refine pairs_one (l := fl) (t := ft) (v₁ := .int H.off ftl) (v₂ := .int (H.off + (ks.length : Int)) fth) (n := fn) (nn := nf) rfl (by k_mem) (by k_mem) F9 hN9 ?_
  intro h tk own hoff hcl wF wN
  simp only [List.cons_append] at wN
  have og' : ∀ p ∈ tp' ++ own, p.1 ≠ gq := fun p hp => (List.mem_append.mp hp).elim (g8 p) fun h => hoff p h gq (List.mem_cons_self ..)
  have op' : ∀ p ∈ tp' ++ own, p.1 ≠ pl := fun p hp => (List.mem_append.mp hp).elim (g9 p) fun h => hoff p h pl (List.mem_cons_of_mem _ (List.mem_cons_self ..))
  show wpAny _ _ _ _ _ _
  k_fold
  (k_steps; (repeat' (unfold Hold; (first | (k_here; k_dflt (refine' Ct.use' (against_all (rows := rows) (rl := rl) (kk0 := kk0) (kk1 := kk1) (vm := vm) (nn := nn) ?c1 ?c2 ?c3 ?c4 ?c5 ?c6 ?c7 ?c8 ?c9) ?k1 ?k2 ?k3 ?k4 ?k5 ?kK ?kd ?ku ?_; walk_at "ct1"; (case k4 => k_asm); (case c1 => k_mem); (case c2 => k_mem); (case c3 => k_mem); (case c4 => k_mem); (case c5 => k_mem); (case c6 => (intro v hv; unfold IvAt; (repeat refine List.mem_cons_of_mem _ ?_); exact hrows v hv)); (case c7 => exact hsz); (case c8 => omega); (case c9 => assumption); k_whole; (intro zh9 ztk9 zF9 zP7 zbk7 zr9 znw9); (rintro ⟨ze9, ze8⟩); (try subst ze8); (try subst ze9); (refine zbk7 _ _ ?_); (clear zbk7 zP7); (intro zN9); (try k_lt zl1); (try k_lt2 zl2); (try dsimp only); (try k_sweep); (try k_fold)))); k_steps)))
  obtain ⟨D9, tD, tsz, hNN, hlt⟩ : ∃ (D9 : Addr) (tD tsz : Tok), News g L _ ((D9, pairOf (.int H.off ftl) (.bytes (KBy.picked pb (some (H.off - H.off)) (some (H.off + (ks.length : Int) - H.off))) tD) 0) :: (gq, dictOf (dgEs w hx pl (enV en te) fv ah (sz + (H.off + (ks.length : Int)) - H.off) da ta tsz) 8) :: (pl, listOf (pv.push (.ref D9)) (np + 1)) :: (hq, dictOf (holEs w rl' kk0 kk1 vm) 2) :: (fl, listOf #[.ref ft] nf) :: (ft, pairOf (.int H.off ftl) (.int (H.off + (ks.length : Int)) fth) fn) :: (gx, instObj 368 gq) :: (hx, instObj 314 hq) :: (x, instObj 155 dx) :: (dx, dictOf (hdrEs w H kh) n) :: (tp' ++ own)) ∧ (gq < D9 ∧ pl < D9 ∧ hq < D9 ∧ fl < D9 ∧ ft < D9 ∧ gx < D9 ∧ hx < D9 ∧ x < D9 ∧ dx < D9 ∧ AllLt D9 (tp' ++ own)) := ⟨_, _, _, by assumption, by assumption⟩
  have hpic : KBw.bInts (KBy.picked pb (some (H.off - H.off)) (some (H.off + (ks.length : Int) - H.off))) = List.replicate len d := pic_all (by assumption) hks hlen
  refine InvEndG.intro (nx := (gq, dictOf (dgEs w hx pl (enV en te) fv ah (sz + (H.off + (ks.length : Int)) - H.off) da ta tsz) 8) :: (pl, listOf (pv.push (.ref D9)) (np + 1)) :: (hq, dictOf (holEs w rl' kk0 kk1 vm) 2) :: (fl, listOf #[.ref ft] nf) :: (D9, pairOf (.int H.off ftl) (.bytes (KBy.picked pb (some (H.off - H.off)) (some (H.off + (ks.length : Int) - H.off))) tD) 0) :: (gx, instObj 368 gq) :: (hx, instObj 314 hq) :: (x, instObj 155 dx) :: (dx, dictOf (hdrEs w H kh) n) :: tp') (by assumption) hNN ⟨by k_mem, ?_⟩ ?_ ?_ ?_
  · intro h7 tk7 F7 N7
    have og7 : ∀ p ∈ tp', p.1 ≠ gq := g8
    have op7 : ∀ p ∈ tp', p.1 ≠ pl := g9
    have oh7 : ∀ p ∈ tp', p.1 ≠ hq := g10
    have w1 := Apart.of (Nat.ne_of_gt hlt.1)
    have w2 := Apart.of (Nat.ne_of_gt hlt.2.1)
    have w3 := Apart.of (Nat.ne_of_gt hlt.2.2.1)
    clear hNN hlt og' op' hoff hcl
    try clear hN9
    try clear wN
    try clear wF
    rcases hcase with ⟨hm, _⟩ | ⟨hm, hen, _, _, _⟩
    · skip
      rcases hfv with ⟨ho0, rfl⟩ | ho0
      · (k_steps; (repeat' (unfold Hold; (first | (k_here; k_dflt (refine' Ct.use' (against_all (rows := rows) (rl := rl) (kk0 := kk0) (kk1 := kk1) (vm := vm) (nn := nn) ?c1 ?c2 ?c3 ?c4 ?c5 ?c6 ?c7 ?c8 ?c9) ?k1 ?k2 ?k3 ?k4 ?k5 ?kK ?kd ?ku ?_; walk_at "ct1"; (case k4 => k_asm); (case c1 => k_mem); (case c2 => k_mem); (case c3 => k_mem); (case c4 => k_mem); (case c5 => k_mem); (case c6 => (intro v hv; unfold IvAt; (repeat refine List.mem_cons_of_mem _ ?_); exact hrows v hv)); (case c7 => exact hsz); (case c8 => omega); (case c9 => assumption); k_whole; (intro zh9 ztk9 zF9 zP7 zbk7 zr9 znw9); (rintro ⟨ze9, ze8⟩); (try subst ze8); (try subst ze9); (refine zbk7 _ _ ?_); (clear zbk7 zP7); (intro zN9); (try k_lt zl1); (try k_lt2 zl2); (try dsimp only); (try k_sweep); (try k_fold)))); k_steps)))
        · rename News _ _ _ _ => hZ
          refine bkz _ _ <| CtRet.intro (by assumption) hZ ?_
          refine ⟨D9, ftl, tD, _, rl', nr, rws', (fl, listOf #[.ref ft] nf) :: (D9, pairOf (.int H.off ftl) (.bytes (KBy.picked pb (some (H.off - H.off)) (some (H.off + (ks.length : Int) - H.off))) tD) 0) :: (gx, instObj 368 gq) :: (hx, instObj 314 hq) :: (x, instObj 155 dx) :: (dx, dictOf (hdrEs w H kh) n) :: tp', _, _, _, _, _, rfl, rfl, ?_, ?_, (by rw [if_pos hm]; exact g6), ?_, hpic, ?_, ?_, ?_, ?_, (by rw [if_pos hm]), ⟨te, by rw [if_pos hm]⟩, (by rw [if_pos ho0])⟩
          · (repeat refine List.mem_cons_of_mem _ ?_); exact g2
          · intro v hv; unfold IvAt; (repeat refine List.mem_cons_of_mem _ ?_); exact g4 v hv
          · k_mem
          · intro p hp; (repeat refine List.mem_cons_of_mem _ ?_); exact up9 p hp
          · exact List.forall_mem_cons.mpr ⟨u1.ne, List.forall_mem_cons.mpr ⟨w1.ne, List.forall_mem_cons.mpr ⟨q0.ne, List.forall_mem_cons.mpr ⟨q1.ne, List.forall_mem_cons.mpr ⟨q3.ne, List.forall_mem_cons.mpr ⟨q4.ne, g8⟩⟩⟩⟩⟩⟩
          · exact List.forall_mem_cons.mpr ⟨u2.ne, List.forall_mem_cons.mpr ⟨w2.ne, List.forall_mem_cons.mpr ⟨r0.ne, List.forall_mem_cons.mpr ⟨r1.ne, List.forall_mem_cons.mpr ⟨r3.ne, List.forall_mem_cons.mpr ⟨r4.ne, g9⟩⟩⟩⟩⟩⟩
          · exact List.forall_mem_cons.mpr ⟨u3.ne, List.forall_mem_cons.mpr ⟨w3.ne, List.forall_mem_cons.mpr ⟨z0.ne, List.forall_mem_cons.mpr ⟨z1.ne, List.forall_mem_cons.mpr ⟨z3.ne, List.forall_mem_cons.mpr ⟨z4.ne, g10⟩⟩⟩⟩⟩⟩
        all_goals exact absurd ho0 (by assumption)
      · (k_steps; (repeat' (unfold Hold; (first | (k_here; k_dflt (refine' Ct.use' (against_all (rows := rows) (rl := rl) (kk0 := kk0) (kk1 := kk1) (vm := vm) (nn := nn) ?c1 ?c2 ?c3 ?c4 ?c5 ?c6 ?c7 ?c8 ?c9) ?k1 ?k2 ?k3 ?k4 ?k5 ?kK ?kd ?ku ?_; walk_at "ct1"; (case k4 => k_asm); (case c1 => k_mem); (case c2 => k_mem); (case c3 => k_mem); (case c4 => k_mem); (case c5 => k_mem); (case c6 => (intro v hv; unfold IvAt; (repeat refine List.mem_cons_of_mem _ ?_); exact hrows v hv)); (case c7 => exact hsz); (case c8 => omega); (case c9 => assumption); k_whole; (intro zh9 ztk9 zF9 zP7 zbk7 zr9 znw9); (rintro ⟨ze9, ze8⟩); (try subst ze8); (try subst ze9); (refine zbk7 _ _ ?_); (clear zbk7 zP7); (intro zN9); (try k_lt zl1); (try k_lt2 zl2); (try dsimp only); (try k_sweep); (try k_fold)))); k_steps)))
        all_goals try exact absurd (by assumption) ho0
        · rename News _ _ _ _ => hZ
          refine bkz _ _ <| CtRet.intro (by assumption) hZ ?_
          refine ⟨D9, ftl, tD, _, rl', nr, rws', (fl, listOf #[.ref ft] nf) :: (D9, pairOf (.int H.off ftl) (.bytes (KBy.picked pb (some (H.off - H.off)) (some (H.off + (ks.length : Int) - H.off))) tD) 0) :: (gx, instObj 368 gq) :: (hx, instObj 314 hq) :: (x, instObj 155 dx) :: (dx, dictOf (hdrEs w H kh) n) :: tp', _, _, _, _, _, rfl, rfl, ?_, ?_, (by rw [if_pos hm]; exact g6), ?_, hpic, ?_, ?_, ?_, ?_, (by rw [if_pos hm]), ⟨te, by rw [if_pos hm]⟩, (by rw [if_neg ho0])⟩
          · (repeat refine List.mem_cons_of_mem _ ?_); exact g2
          · intro v hv; unfold IvAt; (repeat refine List.mem_cons_of_mem _ ?_); exact g4 v hv
          · k_mem
          · intro p hp; (repeat refine List.mem_cons_of_mem _ ?_); exact up9 p hp
          · exact List.forall_mem_cons.mpr ⟨u1.ne, List.forall_mem_cons.mpr ⟨w1.ne, List.forall_mem_cons.mpr ⟨q0.ne, List.forall_mem_cons.mpr ⟨q1.ne, List.forall_mem_cons.mpr ⟨q3.ne, List.forall_mem_cons.mpr ⟨q4.ne, g8⟩⟩⟩⟩⟩⟩
          · exact List.forall_mem_cons.mpr ⟨u2.ne, List.forall_mem_cons.mpr ⟨w2.ne, List.forall_mem_cons.mpr ⟨r0.ne, List.forall_mem_cons.mpr ⟨r1.ne, List.forall_mem_cons.mpr ⟨r3.ne, List.forall_mem_cons.mpr ⟨r4.ne, g9⟩⟩⟩⟩⟩⟩
          · exact List.forall_mem_cons.mpr ⟨u3.ne, List.forall_mem_cons.mpr ⟨w3.ne, List.forall_mem_cons.mpr ⟨z0.ne, List.forall_mem_cons.mpr ⟨z1.ne, List.forall_mem_cons.mpr ⟨z3.ne, List.forall_mem_cons.mpr ⟨z4.ne, g10⟩⟩⟩⟩⟩⟩
    · have hmf : ¬ H.more = true := by rw [hm]; decide
      rw [hen] at N7
      dsimp only [enV] at N7
      have hsz9 : rws'.length ≤ 1000 := by
        have z := fillRows_len (b := H.off) (e := (H.off + (ks.length : Int))) (iv2 rows)
        rw [← g6] at z
        simp only [iv2, List.length_map] at z
        omega
      have upt : ∀ p ∈ tp', p ∈ (fl, listOf #[.ref ft] nf) :: (D9, pairOf (.int H.off ftl) (.bytes (KBy.picked pb (some (H.off - H.off)) (some (H.off + (ks.length : Int) - H.off))) tD) 0) :: (gx, instObj 368 gq) :: (hx, instObj 314 hq) :: (x, instObj 155 dx) :: (dx, dictOf (hdrEs w H kh) n) :: tp' := fun p hp => by (repeat refine List.mem_cons_of_mem _ ?_); exact hp
      have o1 : ∀ p ∈ (fl, listOf #[.ref ft] nf) :: (D9, pairOf (.int H.off ftl) (.bytes (KBy.picked pb (some (H.off - H.off)) (some (H.off + (ks.length : Int) - H.off))) tD) 0) :: (gx, instObj 368 gq) :: (hx, instObj 314 hq) :: (x, instObj 155 dx) :: (dx, dictOf (hdrEs w H kh) n) :: tp', p.1 ≠ gq := List.forall_mem_cons.mpr ⟨u1.ne, List.forall_mem_cons.mpr ⟨w1.ne, List.forall_mem_cons.mpr ⟨q0.ne, List.forall_mem_cons.mpr ⟨q1.ne, List.forall_mem_cons.mpr ⟨q3.ne, List.forall_mem_cons.mpr ⟨q4.ne, g8⟩⟩⟩⟩⟩⟩
      have o2 : ∀ p ∈ (fl, listOf #[.ref ft] nf) :: (D9, pairOf (.int H.off ftl) (.bytes (KBy.picked pb (some (H.off - H.off)) (some (H.off + (ks.length : Int) - H.off))) tD) 0) :: (gx, instObj 368 gq) :: (hx, instObj 314 hq) :: (x, instObj 155 dx) :: (dx, dictOf (hdrEs w H kh) n) :: tp', p.1 ≠ pl := List.forall_mem_cons.mpr ⟨u2.ne, List.forall_mem_cons.mpr ⟨w2.ne, List.forall_mem_cons.mpr ⟨r0.ne, List.forall_mem_cons.mpr ⟨r1.ne, List.forall_mem_cons.mpr ⟨r3.ne, List.forall_mem_cons.mpr ⟨r4.ne, g9⟩⟩⟩⟩⟩⟩
      have o3 : ∀ p ∈ (fl, listOf #[.ref ft] nf) :: (D9, pairOf (.int H.off ftl) (.bytes (KBy.picked pb (some (H.off - H.off)) (some (H.off + (ks.length : Int) - H.off))) tD) 0) :: (gx, instObj 368 gq) :: (hx, instObj 314 hq) :: (x, instObj 155 dx) :: (dx, dictOf (hdrEs w H kh) n) :: tp', p.1 ≠ hq := List.forall_mem_cons.mpr ⟨u3.ne, List.forall_mem_cons.mpr ⟨w3.ne, List.forall_mem_cons.mpr ⟨z0.ne, List.forall_mem_cons.mpr ⟨z1.ne, List.forall_mem_cons.mpr ⟨z3.ne, List.forall_mem_cons.mpr ⟨z4.ne, g10⟩⟩⟩⟩⟩⟩
      (k_steps; (repeat' (unfold Hold; (first | (k_here; k_dflt (refine' Ct.use' (against_all (rows := rows) (rl := rl) (kk0 := kk0) (kk1 := kk1) (vm := vm) (nn := nn) ?c1 ?c2 ?c3 ?c4 ?c5 ?c6 ?c7 ?c8 ?c9) ?k1 ?k2 ?k3 ?k4 ?k5 ?kK ?kd ?ku ?_; walk_at "ct1"; (case k4 => k_asm); (case c1 => k_mem); (case c2 => k_mem); (case c3 => k_mem); (case c4 => k_mem); (case c5 => k_mem); (case c6 => (intro v hv; unfold IvAt; (repeat refine List.mem_cons_of_mem _ ?_); exact hrows v hv)); (case c7 => exact hsz); (case c8 => omega); (case c9 => assumption); k_whole; (intro zh9 ztk9 zF9 zP7 zbk7 zr9 znw9); (rintro ⟨ze9, ze8⟩); (try subst ze8); (try subst ze9); (refine zbk7 _ _ ?_); (clear zbk7 zP7); (intro zN9); (try k_lt zl1); (try k_lt2 zl2); (try dsimp only); (try k_sweep); (try k_fold)))); k_steps)))
      unfold Hold
      (k_here; k_dflt (refine' Ct.use' (fill_dg (rows := rws') (rl := rl') (tp := (fl, listOf #[.ref ft] nf) :: (D9, pairOf (.int H.off ftl) (.bytes (KBy.picked pb (some (H.off - H.off)) (some (H.off + (ks.length : Int) - H.off))) tD) 0) :: (gx, instObj 368 gq) :: (hx, instObj 314 hq) :: (x, instObj 155 dx) :: (dx, dictOf (hdrEs w H kh) n) :: tp') ?c1 ?c2 ?c3 ?c4 m1.ne m2.ne m3.ne ?c5 ?c6 ?c7) ?k1 ?k2 ?k3 ?k4 ?k5 ?kK ?kd ?ku ?_; walk_at "ct1"; (case k4 => k_asm); (case c1 => k_mem); (case c2 => exact upt _ g2); (case c3 => exact fun v hv => upt _ (g4 v hv)); (case c4 => exact hsz9); (case c5 => exact o1); (case c6 => exact o2); (case c7 => exact o3); k_whole; (intro h9 tk9 F9 P7 bk7 r9 nw9); (rintro ⟨fl2, nf2, fnd2, rl2, nr2, rws2, tp2, e8, e9, j1, j2, j3, j4, j5, j6, j7, j8, j9, j10⟩); (try subst e8); (try subst e9); (refine bk7 _ _ ?_); (clear bk7 P7); (intro N9); (try k_lt l1); (try k_lt2 l2); (try dsimp only); (try k_sweep); (try k_fold)))
      have up29 : ∀ p ∈ tp', p ∈ tp2 := fun p hp => j7 p (upt p hp)
      have up3 : ∀ (a b c : Addr × Obj), ∀ p ∈ tp2, p ∈ a :: b :: c :: tp2 := fun a b c p hp => List.mem_cons_of_mem _ (List.mem_cons_of_mem _ (List.mem_cons_of_mem _ hp))
      have hN2 := cb_drop (news := _ :: _ :: _ :: (D9, pairOf (.int H.off ftl) (.bytes (KBy.picked pb (some (H.off - H.off)) (some (H.off + (ks.length : Int) - H.off))) tD) 0) :: (gx, instObj 368 gq) :: (hx, instObj 314 hq) :: (x, instObj 155 dx) :: (dx, dictOf (hdrEs w H kh) n) :: tp2) N9 (List.forall_mem_cons.mpr ⟨List.Mem.head _, List.forall_mem_cons.mpr ⟨List.Mem.tail _ (List.Mem.head _), List.forall_mem_cons.mpr ⟨List.Mem.tail _ (List.Mem.tail _ (List.Mem.head _)), List.forall_mem_cons.mpr ⟨up3 _ _ _ _ (j7 _ (.tail _ (.head _))), List.forall_mem_cons.mpr ⟨up3 _ _ _ _ (up29 _ (up9 _ hgx)), List.forall_mem_cons.mpr ⟨up3 _ _ _ _ (up29 _ (up9 _ hhx)), List.forall_mem_cons.mpr ⟨up3 _ _ _ _ (up29 _ (up9 _ hx1)), List.forall_mem_cons.mpr ⟨up3 _ _ _ _ (up29 _ (up9 _ hx2)), up3 _ _ _⟩⟩⟩⟩⟩⟩⟩⟩)
      clear N9
      rcases hfv with ⟨ho0, rfl⟩ | ho0
      · (k_steps; (repeat' (unfold Hold; (first | (k_here; k_dflt (refine' Ct.use' (against_all (rows := rows) (rl := rl) (kk0 := kk0) (kk1 := kk1) (vm := vm) (nn := nn) ?c1 ?c2 ?c3 ?c4 ?c5 ?c6 ?c7 ?c8 ?c9) ?k1 ?k2 ?k3 ?k4 ?k5 ?kK ?kd ?ku ?_; walk_at "ct1"; (case k4 => k_asm); (case c1 => k_mem); (case c2 => k_mem); (case c3 => k_mem); (case c4 => k_mem); (case c5 => k_mem); (case c6 => (intro v hv; unfold IvAt; (repeat refine List.mem_cons_of_mem _ ?_); exact hrows v hv)); (case c7 => exact hsz); (case c8 => omega); (case c9 => assumption); k_whole; (intro zh9 ztk9 zF9 zP7 zbk7 zr9 znw9); (rintro ⟨ze9, ze8⟩); (try subst ze8); (try subst ze9); (refine zbk7 _ _ ?_); (clear zbk7 zP7); (intro zN9); (try k_lt zl1); (try k_lt2 zl2); (try dsimp only); (try k_sweep); (try k_fold)))); k_steps)))
        · rename News _ _ _ _ => hZ
          refine bkz _ _ <| CtRet.intro (by assumption) hZ ?_
          refine ⟨D9, ftl, tD, _, rl2, nr2, rws2, (D9, pairOf (.int H.off ftl) (.bytes (KBy.picked pb (some (H.off - H.off)) (some (H.off + (ks.length : Int) - H.off))) tD) 0) :: (gx, instObj 368 gq) :: (hx, instObj 314 hq) :: (x, instObj 155 dx) :: (dx, dictOf (hdrEs w H kh) n) :: tp2, _, _, _, _, _, rfl, rfl, ?_, ?_, (by rw [if_neg hmf, j6, g6]), List.Mem.head _, hpic, ?_, ?_, ?_, ?_, (by rw [if_neg hmf]), ⟨_, by rw [if_neg hmf]; rfl⟩, (by rw [if_pos ho0])⟩
          · (repeat refine List.mem_cons_of_mem _ ?_); exact j2
          · intro v hv; unfold IvAt; (repeat refine List.mem_cons_of_mem _ ?_); exact j4 v hv
          · intro p hp; (repeat refine List.mem_cons_of_mem _ ?_); exact up29 p (up9 p hp)
          · exact List.forall_mem_cons.mpr ⟨w1.ne, List.forall_mem_cons.mpr ⟨q0.ne, List.forall_mem_cons.mpr ⟨q1.ne, List.forall_mem_cons.mpr ⟨q3.ne, List.forall_mem_cons.mpr ⟨q4.ne, j8⟩⟩⟩⟩⟩
          · exact List.forall_mem_cons.mpr ⟨w2.ne, List.forall_mem_cons.mpr ⟨r0.ne, List.forall_mem_cons.mpr ⟨r1.ne, List.forall_mem_cons.mpr ⟨r3.ne, List.forall_mem_cons.mpr ⟨r4.ne, j9⟩⟩⟩⟩⟩
          · exact List.forall_mem_cons.mpr ⟨w3.ne, List.forall_mem_cons.mpr ⟨z0.ne, List.forall_mem_cons.mpr ⟨z1.ne, List.forall_mem_cons.mpr ⟨z3.ne, List.forall_mem_cons.mpr ⟨z4.ne, j10⟩⟩⟩⟩⟩
        all_goals exact absurd ho0 (by assumption)
      · (k_steps; (repeat' (unfold Hold; (first | (k_here; k_dflt (refine' Ct.use' (against_all (rows := rows) (rl := rl) (kk0 := kk0) (kk1 := kk1) (vm := vm) (nn := nn) ?c1 ?c2 ?c3 ?c4 ?c5 ?c6 ?c7 ?c8 ?c9) ?k1 ?k2 ?k3 ?k4 ?k5 ?kK ?kd ?ku ?_; walk_at "ct1"; (case k4 => k_asm); (case c1 => k_mem); (case c2 => k_mem); (case c3 => k_mem); (case c4 => k_mem); (case c5 => k_mem); (case c6 => (intro v hv; unfold IvAt; (repeat refine List.mem_cons_of_mem _ ?_); exact hrows v hv)); (case c7 => exact hsz); (case c8 => omega); (case c9 => assumption); k_whole; (intro zh9 ztk9 zF9 zP7 zbk7 zr9 znw9); (rintro ⟨ze9, ze8⟩); (try subst ze8); (try subst ze9); (refine zbk7 _ _ ?_); (clear zbk7 zP7); (intro zN9); (try k_lt zl1); (try k_lt2 zl2); (try dsimp only); (try k_sweep); (try k_fold)))); k_steps)))
        all_goals try exact absurd (by assumption) ho0
        · rename News _ _ _ _ => hZ
          refine bkz _ _ <| CtRet.intro (by assumption) hZ ?_
          refine ⟨D9, ftl, tD, _, rl2, nr2, rws2, (D9, pairOf (.int H.off ftl) (.bytes (KBy.picked pb (some (H.off - H.off)) (some (H.off + (ks.length : Int) - H.off))) tD) 0) :: (gx, instObj 368 gq) :: (hx, instObj 314 hq) :: (x, instObj 155 dx) :: (dx, dictOf (hdrEs w H kh) n) :: tp2, _, _, _, _, _, rfl, rfl, ?_, ?_, (by rw [if_neg hmf, j6, g6]), List.Mem.head _, hpic, ?_, ?_, ?_, ?_, (by rw [if_neg hmf]), ⟨_, by rw [if_neg hmf]; rfl⟩, (by rw [if_neg ho0])⟩
          · (repeat refine List.mem_cons_of_mem _ ?_); exact j2
          · intro v hv; unfold IvAt; (repeat refine List.mem_cons_of_mem _ ?_); exact j4 v hv
          · intro p hp; (repeat refine List.mem_cons_of_mem _ ?_); exact up29 p (up9 p hp)
          · exact List.forall_mem_cons.mpr ⟨w1.ne, List.forall_mem_cons.mpr ⟨q0.ne, List.forall_mem_cons.mpr ⟨q1.ne, List.forall_mem_cons.mpr ⟨q3.ne, List.forall_mem_cons.mpr ⟨q4.ne, j8⟩⟩⟩⟩⟩
          · exact List.forall_mem_cons.mpr ⟨w2.ne, List.forall_mem_cons.mpr ⟨r0.ne, List.forall_mem_cons.mpr ⟨r1.ne, List.forall_mem_cons.mpr ⟨r3.ne, List.forall_mem_cons.mpr ⟨r4.ne, j9⟩⟩⟩⟩⟩
          · exact List.forall_mem_cons.mpr ⟨w3.ne, List.forall_mem_cons.mpr ⟨z0.ne, List.forall_mem_cons.mpr ⟨z1.ne, List.forall_mem_cons.mpr ⟨z3.ne, List.forall_mem_cons.mpr ⟨z4.ne, j10⟩⟩⟩⟩⟩
  · intro p hp b hb
    by_cases hbD : b = D9
    · subst hbD
      exact Nat.ne_of_lt (allLt_mem hlt.2.2.2.2.2.2.2.2.2 p (List.mem_append_right _ hp))
    · refine hoff p hp b ?_
      simp only [List.map_cons, List.mem_cons] at hb ⊢
      rcases hb with h | h | h | h | h | h | h | h | h | h <;> first | exact absurd h hbD | simp [h]
  · exact List.forall_mem_cons.mpr ⟨by k_mem, List.forall_mem_cons.mpr ⟨by k_mem, List.forall_mem_cons.mpr ⟨by k_mem, List.forall_mem_cons.mpr ⟨by k_mem, List.forall_mem_cons.mpr ⟨by k_mem, List.forall_mem_cons.mpr ⟨by k_mem, List.forall_mem_cons.mpr ⟨by k_mem, List.forall_mem_cons.mpr ⟨by k_mem, List.forall_mem_cons.mpr ⟨by k_mem, fun p hp => by (repeat refine List.mem_cons_of_mem _ ?_); exact List.mem_append_left _ hp⟩⟩⟩⟩⟩⟩⟩⟩⟩
  · exact fun p hp => by (repeat refine List.mem_cons_of_mem _ ?_); exact List.mem_append_right _ hp
end
end
-- Stored
section
example : True := by
  w_top off
  trivial
abbrev raEs (w : World) (wl : Addr) (k0 k1 k2 k3 u0 u1 u2 : Tok) : List DictEntry :=
  [⟨PyData.keyHash w.params (Str.ofString "time_limit"), .str (Str.ofString "time_limit") k0, .int 50 u0⟩,
   ⟨PyData.keyHash w.params (Str.ofString "most_octets"), .str (Str.ofString "most_octets") k1, .int 999 u1⟩,
   ⟨PyData.keyHash w.params (Str.ofString "most"), .str (Str.ofString "most") k2, .int 65535 u2⟩,
   ⟨PyData.keyHash w.params (Str.ofString "waiting"), .str (Str.ofString "waiting") k3, .ref wl⟩]
section
open PySem.Calls LCg
local macro_rules | `(tactic| walk_at "eval ListComp") => `(tactic| walk_at "hold")
local macro_rules | `(tactic| walk_at "subscriptTail") => `(tactic| (k_here; (with_reducible show wpAny _ _ (subscriptTail _ _ (Value.ref _) (Value.ref _)) _ _ _); (k_dflt (refine Hold.on ?_))))
local macro_rules | `(tactic| walk_at "SrcD") => `(tactic| walk_at "hold")
local macro_rules | `(tactic| k_enter) => `(tactic| (refine' code_defC ?k1 ?k2 ?k3 ?k4 ?k5 ?kA ?kF ?kK ?k6 ?k7 ?k8 ?k9 ?kB ?kD ?_ ?c2 ?c3 ?c4; (case kA => exact rfl); (case kF => exact rfl); (case kK => first | exact rfl | assumption); (case k1 => k_asm); (case k2 => k_asm); (case k3 => k_asm); (case k4 => k_asm); (case k5 => k_asm); (case k6 => k_is); (case k7 => k_is); (case k8 => ktr_room); (case k9 => exact BindsTo.of_eq rfl); (case kB => exact rfl); (case kD => decide +kernel); (case c2 => exact rfl); (case c3 => exact rfl); (case c4 => exact rfl); k_whole; intro g' L' h' tk' cells' FG' F' N' Y' B' X' T' l1; (try k_lt l1); k_cells Y'; (try simp only [List.cons_append, List.nil_append] at N'); (try dsimp only); (try k_lift B'); (try k_fold)))
set_option maxHeartbeats 8000000 in
theorem stored_ct {w : World} {rx rq wl kt gx gq pl hx : Addr} {k0 k1 k2 k3 u0 u1 u2 : Tok} {a b c e : Int} {ok : Obj} {nw : Nat} {ev fv : Value} {ah sz : Int} {da : DTok} {ta ts : Tok} {all : Led}
    (h1 : (rx, instObj 451 rq) ∈ all) (h2 : (rq, dictOf (raEs w wl k0 k1 k2 k3 u0 u1 u2) 4) ∈ all) (h3 : (wl, dictOf (oneEs w a b c e kt (.ref gx)) nw) ∈ all) (h4 : (kt, ok) ∈ all) (hk : KeyObj a b c e ok) (hwl : (wl == sysModules) = false)
    (h5 : (gx, instObj 368 gq) ∈ all) (h6 : (gq, dictOf (dgEs w hx pl ev fv ah sz da ta ts) 8) ∈ all) (hs0 : 0 ≤ sz) (hs1 : sz ≤ 999) :
    Ct w 420 [.ref rx] all 12 (fun r n' => n' = all ∧ ∃ t, r = .int sz t) := by
  unfold Ct
  intro mean mg mb dp un gd cn cs ad ccd cl outer A₀ base h₀ L m s Q E B F X N T hkk hd hu hret
  obtain N2 : News h₀ L s.heap ((rx, instObj 451 rq) :: (rq, dictOf (raEs w wl k0 k1 k2 k3 u0 u1 u2) 4) :: (wl, dictOf (oneEs w a b c e kt (.ref gx)) nw) :: (kt, ok) :: (gx, instObj 368 gq) :: (gq, dictOf (dgEs w hx pl ev fv ah sz da ta ts) 8) :: all) :=
    cb_drop N (List.forall_mem_cons.mpr ⟨h1, List.forall_mem_cons.mpr ⟨h2, List.forall_mem_cons.mpr ⟨h3, List.forall_mem_cons.mpr ⟨h4, List.forall_mem_cons.mpr ⟨h5, List.forall_mem_cons.mpr ⟨h6, fun p hp => hp⟩⟩⟩⟩⟩⟩)
  clear N
  refine wpAny_call ?_
  k_dflt k_enter
  k_steps
  unfold Hold
  k_dflt (refine ListComp_D (F₀ := by k_asm) (by with_unfolding_all rfl) (by decide) (by rfl) (by decide) (by rfl) ?_)
  k_steps
  unfold Hold
  refine ⟨wl, _, kt, .ref gx, nw, _, rfl, rfl, hwl, by assumption, by assumption, by k_mem, ?_⟩
  rintro s₂ ⟨hh2, rfl⟩
  refine CompRest.succ ?_
  intro v I oI C oC D m₂ h tk E' hP hC hx F N off ne
  subst hP
  have off0 := off
  simp only [Off3, and_true] at off
  k_steps
  unfold Hold
  refine item_one (by ktr_units) N (by k_mem) hk (by k_mem) hk (by k_mem) ?_
  intro tk9
  k_steps
  refine CompEnd.intro F N _ (fun p hp => hp) off0 (by k_mem) (CompRest.zero ?_)
  k_steps
  rename News _ _ _ _ => hN
  rename Fr _ _ _ _ => hF
  exact hret _ all _ _ hF (cb_drop hN fun p hp => by (repeat refine List.mem_cons_of_mem _ ?_); exact hp) ⟨rfl, _, congrArg (Value.int · _) (by omega)⟩
end
end
-- MRoom
section
example : True := by
  w_top off
  trivial
section
set_option maxHeartbeats 8000000 in
theorem mroom_ct {w : World} {rx rq wl kt gx gq pl hx : Addr} {k0 k1 k2 k3 u0 u1 u2 : Tok} {a b c e : Int} {ok : Obj} {nw : Nat} {ev fv : Value} {ah sz : Int} {da : DTok} {ta ts : Tok} {all : Led}
    (h1 : (rx, instObj 451 rq) ∈ all) (h2 : (rq, dictOf (raEs w wl k0 k1 k2 k3 u0 u1 u2) 4) ∈ all) (h3 : (wl, dictOf (oneEs w a b c e kt (.ref gx)) nw) ∈ all) (h4 : (kt, ok) ∈ all) (hk : KeyObj a b c e ok) (hwl : (wl == sysModules) = false)
    (h5 : (gx, instObj 368 gq) ∈ all) (h6 : (gq, dictOf (dgEs w hx pl ev fv ah sz da ta ts) 8) ∈ all) (hs0 : 0 ≤ sz) (hs1 : sz ≤ 999) :
    Ct w 434 [.ref rx] all 20 (fun r n' => n' = all ∧ r = .none) := by
  refine' Ct.ro ?ho ?hcd ?hbind ?hloc ?hco ?hgen ?hk ?hcell ?hsub ?hb
  case ho => k_is
  case hcd => k_is
  case hbind => (intro s hX; first | exact BindsTo.of_eq rfl | exact binds_K hX rfl (by k_is) rfl rfl rfl)
  case hloc => exact locs rfl
  case hco => exact rfl
  case hgen => exact rfl
  case hk => exact rfl
  case hcell => decide
  case hsub => exact List.forall_mem_cons.mpr ⟨h1, List.forall_mem_cons.mpr ⟨h2, List.forall_mem_cons.mpr ⟨h3, List.forall_mem_cons.mpr ⟨h4, List.forall_mem_cons.mpr ⟨h5, List.forall_mem_cons.mpr ⟨h6, List.forall_mem_nil _⟩⟩⟩⟩⟩⟩
  case hb =>
  unfold Bd
  intro mean mg mb dp un gd outer A₀ base g L s B F X N T hd hu
  refine hideQ ?_
  intro Qz bkz
  (try dsimp only)
  have hq9 : HoldAt [420] := .mk
  (k_steps; (repeat' (unfold Hold; (first | (k_here; k_dflt (refine' Ct.use' (stored_ct ?c1 ?c2 ?c3 ?c4 ?c5 ?c6 ?c7 ?c8 ?c9 ?c10) ?k1 ?k2 ?k3 ?k4 ?k5 ?kK ?kd ?ku ?_; walk_at "ct1"; (case k4 => k_asm); (case c1 => k_mem); (case c2 => k_mem); (case c3 => k_mem); (case c4 => k_mem); (case c5 => assumption); (case c6 => assumption); (case c7 => k_mem); (case c8 => k_mem); (case c9 => assumption); (case c10 => assumption); k_whole; (intro zh9 ztk9 zF9 zP7 zbk7 zr9 znw9); (rintro ⟨ze9, zt9, ze8⟩); (try subst ze8); (try subst ze9); (refine zbk7 _ _ ?_); (clear zbk7 zP7); (intro zN9); (try k_lt zl1); (try k_lt2 zl2); (try dsimp only); (try k_sweep); (try k_fold)))); k_steps)))
  rw [show decide (999 < sz) = false from decide_eq_false (by omega)]
  (k_steps; (repeat' (unfold Hold; (first | (k_here; k_dflt (refine' Ct.use' (stored_ct ?c1 ?c2 ?c3 ?c4 ?c5 ?c6 ?c7 ?c8 ?c9 ?c10) ?k1 ?k2 ?k3 ?k4 ?k5 ?kK ?kd ?ku ?_; walk_at "ct1"; (case k4 => k_asm); (case c1 => k_mem); (case c2 => k_mem); (case c3 => k_mem); (case c4 => k_mem); (case c5 => assumption); (case c6 => assumption); (case c7 => k_mem); (case c8 => k_mem); (case c9 => assumption); (case c10 => assumption); k_whole; (intro zh9 ztk9 zF9 zP7 zbk7 zr9 znw9); (rintro ⟨ze9, zt9, ze8⟩); (try subst ze8); (try subst ze9); (refine zbk7 _ _ ?_); (clear zbk7 zP7); (intro zN9); (try k_lt zl1); (try k_lt2 zl2); (try dsimp only); (try k_sweep); (try k_fold)))); k_steps)))
  exact bkz _ _ <| CtRet.intro (by assumption) (by assumption) ⟨rfl, by ((repeat (first | exact List.forall_mem_nil _ | (refine List.forall_mem_cons.mpr ⟨(by k_mem), ?_⟩))))⟩
end
end
-- SortP
section
example : True := by
  w_top off
  trivial
def goodT (n : Nat) : KasT (Array Nat) → Bool
  | .ret p => p.toList.isPerm (List.range n)
  | .ask i j k => decide (i < n) && decide (j < n) && decide (i ≠ j) && goodT n (k true) && goodT n (k false)
theorem goodT_2 : goodT 2 (kas_sort 2) = true := by decide +kernel
theorem goodT_3 : goodT 3 (kas_sort 3) = true := by decide +kernel
theorem goodT_4 : goodT 4 (kas_sort 4) = true := by decide +kernel
theorem goodT_5 : goodT 5 (kas_sort 5) = true := by decide +kernel
theorem goodT_6 : goodT 6 (kas_sort 6) = true := by decide +kernel
theorem goodT_few {n : Nat} (h2 : 2 ≤ n) (h6 : n ≤ 6) : goodT n (kas_sort n) = true := by
  match n, h2, h6 with
  | 2, _, _ => exact goodT_2
  | 3, _, _ => exact goodT_3
  | 4, _, _ => exact goodT_4
  | 5, _, _ => exact goodT_5
  | 6, _, _ => exact goodT_6
  | n + 7, _, h => omega
theorem kasWp_perm {cmp : Nat → Nat → (Bool → Shared → Prop) → Shared → Prop} {G : Array Nat → Shared → Prop} {n : Nat} {s : Shared} (hc : ∀ i j (C : Bool → Shared → Prop), i < n → j < n → i ≠ j → (∀ b, C b s) → cmp i j C s)
    (hG : ∀ p : Array Nat, p.toList.Perm (List.range n) → G p s) : ∀ (t : KasT (Array Nat)), goodT n t = true → t.kasWp cmp G s
  | .ret p, h => hG p (List.isPerm_iff.mp h)
  | .ask i j k, h => by
    simp only [goodT, Bool.and_eq_true, decide_eq_true_eq] at h
    refine hc i j _ h.1.1.1.1 h.1.1.1.2 h.1.1.2 fun b => ?_
    cases b with
    | true => exact kasWp_perm hc hG (k true) h.1.2
    | false => exact kasWp_perm hc hG (k false) h.2
theorem perm_pick {α : Type} {vs : List α} {d : α} {l : List Nat} (h : l.Perm (List.range vs.length)) : (l.map fun i => vs.getD i d).Perm vs := by
  refine (h.map _).trans ?_
  have e : (List.range vs.length).map (fun i => vs.getD i d) = vs := by
    refine List.ext_getElem (by simp) fun i h1 h2 => ?_
    simp [h2]
  rw [e]
structure Pt where
  t : Addr
  off : Int
  len : Nat
  tL : Tok
  b : Array UInt8
  tD : Tok
def PtAt (nw : Led) (d : Int) (p : Pt) : Prop := (p.t, pairOf (.int p.off p.tL) (.bytes p.b p.tD) 0) ∈ nw ∧ KBw.bInts p.b = List.replicate p.len d
abbrev pts (l : List Pt) : List Value := l.map fun p => .ref p.t
section
open PySem.Calls
variable {prog : Program} {w : World} {A : Around} {E : Value → Shared → Prop} {s : Shared} {h₀ : Heap} {L : Addr} {m : Str → Option Value} {news : Led}
theorem katTups_pts {h : Heap} {d : Int} (N : News h₀ L h news) : ∀ (l : List Pt), (∀ p ∈ l, PtAt news d p) → KatTups h (pts l) (l.map fun p => .int p.off p.tL)
  | [], _ => KatTups.nil
  | p :: l, hp => KatTups.cons (N _ (hp p (.head _)).1).1 rfl rfl rfl (katTups_pts N l fun q hq => hp q (.tail _ hq))
theorem lt_pts {h : Heap} {d : Int} {p q : Pt} {Q : Bool → Shared → Prop} {s : Shared} (N : News h₀ L s.heap news) (hp : PtAt news d p) (hq : PtAt news d q) (hne : p.off ≠ q.off) (h : ∀ b, Q b s) :
    wpAny (model prog w) A (keyLt' (tuples' true) (.ref p.t) (.ref q.t)) Q E s := by
  refine kat_lt (N _ hp.1).1 rfl (N _ hq.1).1 rfl ?_
  refine kat_cons (r := [_]) (wpAny_eqBool_int ?_)
  rw [show (p.off == q.off) = false by simpa using hne]
  refine kat_no ?_
  exact oneLt_int (h _)
theorem sorted_pairs {d : Int} {l : Addr} {nn : Nat} {pl : List Pt} {Q : Value → Shared → Prop} (F : Fr h₀ L s.heap m) (N : News h₀ L s.heap news) (hl : (l, listOf (pts pl).toArray nn) ∈ news)
    (hp : ∀ p ∈ pl, PtAt news d p) (hd : pl.Pairwise fun p q => p.off ≠ q.off) (h2 : 2 ≤ pl.length) (h6 : pl.length ≤ 6)
    (h : ∀ D c h' pl', pl'.Perm pl → Fr h₀ L h' m → News h₀ L h' ((D, listOf (pts pl').toArray c) :: news) → (∀ q ∈ news, q.1 < D) → Q (.ref D) { s with heap := h' }) :
    wpAny (model prog w) A (call (.builtin "sorted") [.ref l]) Q E s := by
  have hlen : (pts pl).length = pl.length := by simp
  refine kat_sorted (vs := pts pl) F N (News.isList N hl) (by omega) (by omega) fun D e1 h' F' N' hlt => ?_
  have N0 : News h₀ L h' news := fun p hp => N' p (.tail _ hp)
  refine kat_kind (fs := pl.map fun p => .int p.off p.tL) (T := .type "int") (katTups_pts N0 pl hp) (by simp; omega) (fun v hv => ?_) (by decide) ?_
  · obtain ⟨p, _, rfl⟩ := List.mem_map.mp hv
    exact Looks.of_pure rfl
  · have ht : (Value.type "int" != Value.type "tuple") = true := by decide
    rw [ht]
    refine kasWp_perm (n := (pts pl).length) ?_ ?_ _ (goodT_few (by omega) (by omega))
    · intro i j C hi hj hij hC
      unfold kas_ask
      rw [hlen] at hi hj
      have ei : (pts pl).getD i Value.none = .ref pl[i].t := by simp [pts, hi]
      have ej : (pts pl).getD j Value.none = .ref pl[j].t := by simp [pts, hj]
      rw [ei, ej]
      refine lt_pts (h := h') N0 (hp _ (List.getElem_mem hi)) (hp _ (List.getElem_mem hj)) ?_ hC
      rcases Nat.lt_or_gt_of_ne hij with h | h
      · exact List.pairwise_iff_getElem.mp hd i j hi hj h
      · exact (List.pairwise_iff_getElem.mp hd j i hj hi h).symm
    · intro p hpp
      refine KasFin.intro F' N' (UpdF.head fun q hq => Nat.ne_of_lt (hlt q hq)) fun h9 c F9 N9 => ?_
      have hpp2 : p.toList.Perm (List.range pl.length) := by rw [← hlen]; exact hpp
      cases pl with
      | nil => simp at h2
      | cons p0 pl0 =>
      have hperm := perm_pick (d := p0) hpp2
      have e : (p.toList.map fun i => (pts (p0 :: pl0)).getD i Value.none) = pts (p.toList.map fun i => (p0 :: pl0).getD i p0) := by
        simp only [pts, List.map_map]
        refine List.map_congr_left fun i hi => ?_
        have hi2 : i < (p0 :: pl0).length := List.mem_range.mp (hpp2.mem_iff.mp hi)
        simp only [Function.comp_def, List.getD_eq_getElem?_getD, List.getElem?_map, List.getElem?_eq_getElem hi2, Option.map_some, Option.getD_some]
      rw [e] at N9
      exact h D c h9 _ hperm F9 N9 hlt
end
end
-- Dg
section
example : True := by
  w_top off
  trivial
theorem Ct.mono {w : World} {f : Addr} {vs : List Value} {news : Led} {D : Nat} {P P' : Value → Led → Prop} (C : Ct w f vs news D P) (h : ∀ r n, P r n → P' r n) : Ct w f vs news D P' :=
  fun mean mg mb dp un gd cn cs a ccd cl outer A₀ base h₀ L m s Q E B F X N T hk hd hu ret =>
    C mean mg mb dp un gd cn cs a ccd cl outer A₀ base h₀ L m s Q E B F X N T hk hd hu fun r n h' tk F' N' hp => ret r n h' tk F' N' (h r n hp)
structure DgSt where
  rows : List (Int × Int)
  en : Option Int
  fst : Option Addr
  ah : Int
  sz : Int
  parts : List (Int × Nat)
def fstV : Option Addr → Value
  | none => .none
  | some x => .ref x
/-- the ledger bears a datagram at gx: three things that turn, and what stands -/
inductive DgAt (w : World) (gx : Addr) (d : Int) (S : DgSt) (m1 m2 m3 : Addr × Obj) (tp : Led) : Prop
  | mk (gq pl hx hq rl : Addr) (da : DTok) (ta ts kk0 kk1 vm te : Tok) (np nn : Nat) (rws : List Iv) (P : List Pt)
    (h1 : m1 = (gq, dictOf (dgEs w hx pl (enV S.en te) (fstV S.fst) S.ah S.sz da ta ts) 8)) (h2 : m2 = (pl, listOf (pts P).toArray np)) (h3 : m3 = (hq, dictOf (holEs w rl kk0 kk1 vm) 2))
    (c1 : (gx, instObj 368 gq) ∈ tp) (c2 : (hx, instObj 314 hq) ∈ tp) (c3 : (rl, listOf (ivs rws).toArray nn) ∈ tp) (c4 : ∀ v ∈ rws, IvAt tp v) (c5 : iv2 rws = S.rows) (c6 : ∀ p ∈ P, PtAt tp d p) (c7 : P.map (fun p => (p.off, p.len)) = S.parts)
    (c8 : Apart gq pl) (c9 : Apart gq hq) (c10 : Apart pl hq) (c11 : ∀ p ∈ tp, p.1 ≠ gq) (c12 : ∀ p ∈ tp, p.1 ≠ pl) (c13 : ∀ p ∈ tp, p.1 ≠ hq) : DgAt w gx d S m1 m2 m3 tp
def dstep (S : DgSt) (off : Int) (len : Nat) (more : Bool) (x : Addr) : DgSt where
  rows := if more then fillRows off (off + len) S.rows else fillRows (off + len) 65535 (fillRows off (off + len) S.rows)
  en := if more then S.en else some (off + len)
  fst := if off = 0 then some x else S.fst
  ah := if more then (if off + len > S.ah then off + len else S.ah) else S.ah
  sz := S.sz + (off + len) - off
  parts := S.parts ++ [(off, len)]
structure PutOk (S : DgSt) (off : Int) (len : Nat) (more : Bool) : Prop where
  hit : fillHits off (off + len) S.rows = [(off, off + len)]
  o1 : 0 ≤ off
  o2 : off + len ≤ 60000
  few : S.rows.length ≤ 400
  few2 : S.parts.length ≤ 1000
  fst : off = 0 → S.fst = none
  mr : more = true → ∀ E, S.en = some E → off + len < E
  ls : more = false → S.en = none ∧ S.ah < off + len ∧ 0 < len ∧ ∃ rs lo, S.rows = rs ++ [(lo, 65535)] ∧ lo ≤ off + len
theorem iv2_len {l : List Iv} : (iv2 l).length = l.length := by simp [iv2]
theorem fstV_if {c : Prop} [Decidable c] {x : Addr} {o : Option Addr} : (if c then Value.ref x else fstV o) = fstV (if c then some x else o) := by split <;> rfl
theorem parts_snoc {P : List Pt} {l : List (Int × Nat)} {p : Pt} (h : P.map (fun p => (p.off, p.len)) = l) : (P ++ [p]).map (fun p => (p.off, p.len)) = l ++ [(p.off, p.len)] := by rw [List.map_append, h]; rfl
theorem pts_push {l : List Pt} {p : Pt} : (pts l).toArray.push (.ref p.t) = (pts (l ++ [p])).toArray := by simp [pts]
set_option maxHeartbeats 4000000 in
theorem dput_ct {w : World} {gx x : Addr} {d : Int} {S : DgSt} {m1 m2 m3 : Addr × Obj} {tp rest : Led} {H : Hdr} {pb : Array UInt8} {len : Nat} {tk : Tok} (hD : DgAt w gx d S m1 m2 m3 tp) (hH : HdrAt w tp x H) (hb : KBw.bInts pb = List.replicate len d) (ok : PutOk S H.off len H.more)
    (ha : ∀ p ∈ rest, ∀ q ∈ m1 :: m2 :: m3 :: tp, p.1 ≠ q.1) :
    Ct w 346 [.ref gx, .ref x, .bytes pb tk] ((m1 :: m2 :: m3 :: tp) ++ rest) 60 (fun r n' => ∃ n0, n' = n0 ++ rest ∧ (∃ m1' m2' m3' tp', r = .bool true ∧ n0 = m1' :: m2' :: m3' :: tp' ∧ DgAt w gx d (dstep S H.off len H.more x) m1' m2' m3' tp' ∧ ∀ p ∈ tp, p ∈ tp') ∧ ∀ p ∈ n0, ∀ q ∈ rest, p.1 ≠ q.1) := by
  obtain ⟨gq, pl, hx, hq, rl, da, ta, ts, kk0, kk1, vm, te, np, nn, rws, P, rfl, rfl, rfl, c1, c2, c3, c4, c5, c6, c7, c8, c9, c10, c11, c12, c13⟩ := hD
  obtain ⟨dx, kh, n, hx1, hx2⟩ := hH
  obtain ⟨ok1, ok2, ok3, ok4, ok5, ok6, ok7, ok8⟩ := ok
  have hl9 : (List.replicate len d).length = len := List.length_replicate
  have hhit : fillHits H.off (H.off + ((List.replicate len d).length : Int)) (iv2 rws) = [(H.off, H.off + ((List.replicate len d).length : Int))] := by rw [hl9, c5]; exact ok1
  have hfew : rws.length ≤ 400 := by rw [← iv2_len, c5]; exact ok4
  have hfew2 : (pts P).toArray.size ≤ 1000 := by rw [← c7] at ok5; simpa using ok5
  have hfv : (H.off = 0 ∧ fstV S.fst = .none) ∨ H.off ≠ 0 := by
    by_cases h : H.off = 0
    · exact .inl ⟨h, by rw [ok6 h]; rfl⟩
    · exact .inr h
  have hcase : PieceOk H.off ((List.replicate len d).length : Int) H.more S.en S.ah rws := by
    rw [hl9]
    cases hm : H.more with
    | true => exact .inl ⟨rfl, ok7 hm⟩
    | false =>
      obtain ⟨hen, hah, hpos, rs, lo, hrs, hlo⟩ := ok8 hm
      rw [← c5] at hrs
      obtain ⟨rs', ls', e1, e2, e3⟩ := List.map_eq_append_iff.mp hrs
      obtain ⟨lv, e4, e5⟩ := List.map_eq_singleton_iff.mp e3
      subst e4
      injection e5 with e5 e6
      exact .inr ⟨rfl, hen, hah, by omega, rs', lv, e1, e6, by rw [e5]; exact hlo⟩
  refine Ct.mono (dput_all (en := S.en) (te := te) c1 c2 c3 hx1 hx2 hb hl9 rfl c4 hfew hfew2 hhit ok2 ok3 hfv hcase c8 c9 c10 c11 c12 c13 ha) ?_
  rintro r n' ⟨n0, rfl, ⟨D9, tL, tD, b9, rl', nr, rws', tp', ah', ev', fv', ta', ts', rfl, rfl, g1, g2, g3, g4, g5, g6, g7, g8, g9, rfl, ⟨te', rfl⟩, rfl⟩, hsep⟩
  refine ⟨_, rfl, ⟨_, _, _, tp', rfl, rfl, ?_, g6⟩, hsep⟩
  refine ⟨gq, pl, hx, hq, rl', da, ta', ts', kk0, kk1, vm, te', np + 1, nr, rws', P ++ [⟨D9, H.off, len, tL, b9, tD⟩], ?_, ?_, rfl, g6 _ c1, g6 _ c2, g1, g2, ?_, ?_, parts_snoc c7, c8, c9, c10, g7, g8, g9⟩
  · rw [fstV_if]; simp only [dstep, hl9]
  · rw [pts_push (p := ⟨D9, H.off, len, tL, b9, tD⟩)]
  · rw [g3, hl9, c5]; rfl
  · intro p hp
    rcases List.mem_append.mp hp with hp | hp
    · exact ⟨g6 _ (c6 p hp).1, (c6 p hp).2⟩
    · rw [List.mem_singleton.mp hp]; exact ⟨g4, g5⟩
end
-- DgW
section
example : True := by
  w_top off
  trivial
theorem ivs_empty {l : List Iv} {r : List (Int × Int)} (h : iv2 l = r) : ((ivs l).toArray.size == 0) = r.isEmpty := by
  subst h
  cases l <;> simp [iv2]
section
local macro_rules | `(tactic| walk_at "compareOp Eq ref ref") => `(tactic| (k_here; (with_reducible show wpAny _ _ (compareOp CmpOp.Eq (Value.ref _) (Value.ref _)) _ _ _); k_dflt (refine cmp_eq_nil (News.isList (by k_asm) (by k_mem)) (News.isList (by k_asm) (by k_mem)) (by ktr_units) ?_)))
set_option maxHeartbeats 8000000 in
theorem whole_ct {w : World} {gx : Addr} {d : Int} {S : DgSt} {m1 m2 m3 : Addr × Obj} {tp all : Led} (hD : DgAt w gx d S m1 m2 m3 tp) (hsub : ∀ p ∈ m1 :: m2 :: m3 :: tp, p ∈ all) :
    Ct w 353 [.ref gx] all 12 (fun r n' => n' = all ∧ r = .bool (S.en.isSome && S.fst.isSome && S.rows.isEmpty)) := by
  obtain ⟨gq, pl, hx, hq, rl, da, ta, ts, kk0, kk1, vm, te, np, nn, rws, P, rfl, rfl, rfl, c1, c2, c3, c4, c5, c6, c7, c8, c9, c10, c11, c12, c13⟩ := hD
  have z1 := hsub _ (.head _)
  have z3 := hsub _ (.tail _ (.tail _ (.head _)))
  have y1 := hsub _ (.tail _ (.tail _ (.tail _ c1)))
  have y2 := hsub _ (.tail _ (.tail _ (.tail _ c2)))
  have y3 := hsub _ (.tail _ (.tail _ (.tail _ c3)))
  have hem := ivs_empty c5
  obtain ⟨rows, en, fst, ah, sz, parts⟩ := S
  clear hsub c1 c2 c3 c4 c5 c6 c7 c8 c9 c10 c11 c12 c13
  dsimp only at hem z1 ⊢
  cases en with
  | none =>
    dsimp only [enV] at z1
    refine' Ct.ro ?ho ?hcd ?hbind ?hloc ?hco ?hgen ?hk ?hcell ?hsub ?hb
    case ho => k_is
    case hcd => k_is
    case hbind => (intro s hX; first | exact BindsTo.of_eq rfl | exact binds_K hX rfl (by k_is) rfl rfl rfl)
    case hloc => exact locs rfl
    case hco => exact rfl
    case hgen => exact rfl
    case hk => exact rfl
    case hcell => decide
    case hsub => exact List.forall_mem_cons.mpr ⟨z1, List.forall_mem_cons.mpr ⟨y1, List.forall_mem_nil _⟩⟩
    case hb =>
    unfold Bd
    intro mean mg mb dp un gd outer A₀ base g L s B F X N T hd hu
    refine hideQ ?_
    intro Qz bkz
    (try dsimp only)
    k_steps
    all_goals exact bkz _ _ <| CtRet.intro (by assumption) (by assumption) ⟨rfl, by ((repeat (first | exact List.forall_mem_nil _ | (refine List.forall_mem_cons.mpr ⟨(by k_mem), ?_⟩))))⟩
  | some e =>
    cases fst with
    | none =>
      dsimp only [enV, fstV] at z1
      refine' Ct.ro ?ho ?hcd ?hbind ?hloc ?hco ?hgen ?hk ?hcell ?hsub ?hb
      case ho => k_is
      case hcd => k_is
      case hbind => (intro s hX; first | exact BindsTo.of_eq rfl | exact binds_K hX rfl (by k_is) rfl rfl rfl)
      case hloc => exact locs rfl
      case hco => exact rfl
      case hgen => exact rfl
      case hk => exact rfl
      case hcell => decide
      case hsub => exact List.forall_mem_cons.mpr ⟨z1, List.forall_mem_cons.mpr ⟨y1, List.forall_mem_nil _⟩⟩
      case hb =>
      unfold Bd
      intro mean mg mb dp un gd outer A₀ base g L s B F X N T hd hu
      refine hideQ ?_
      intro Qz bkz
      (try dsimp only)
      k_steps
      all_goals exact bkz _ _ <| CtRet.intro (by assumption) (by assumption) ⟨rfl, by ((repeat (first | exact List.forall_mem_nil _ | (refine List.forall_mem_cons.mpr ⟨(by k_mem), ?_⟩))))⟩
    | some x =>
      dsimp only [enV, fstV] at z1
      refine' Ct.ro ?ho ?hcd ?hbind ?hloc ?hco ?hgen ?hk ?hcell ?hsub ?hb
      case ho => k_is
      case hcd => k_is
      case hbind => (intro s hX; first | exact BindsTo.of_eq rfl | exact binds_K hX rfl (by k_is) rfl rfl rfl)
      case hloc => exact locs rfl
      case hco => exact rfl
      case hgen => exact rfl
      case hk => exact rfl
      case hcell => decide
      case hsub => exact List.forall_mem_cons.mpr ⟨z1, List.forall_mem_cons.mpr ⟨z3, List.forall_mem_cons.mpr ⟨y1, List.forall_mem_cons.mpr ⟨y2, List.forall_mem_cons.mpr ⟨y3, List.forall_mem_nil _⟩⟩⟩⟩⟩
      case hb =>
      unfold Bd
      intro mean mg mb dp un gd outer A₀ base g L s B F X N T hd hu
      refine hideQ ?_
      intro Qz bkz
      (try dsimp only)
      k_steps
      all_goals exact bkz _ _ <| CtRet.intro (by assumption) (by assumption) ⟨(by rw [hem]; rfl), by ((repeat (first | exact List.forall_mem_nil _ | (refine List.forall_mem_cons.mpr ⟨(by k_mem), ?_⟩))))⟩
end
def S0 : DgSt := ⟨[(0, 65535)], none, none, 0, 0, []⟩
set_option maxHeartbeats 4000000 in
theorem mkDg_ct {w : World} {news : Led} {d : Int} {tb tm : Tok} :
    Ct w 368 [.int 1 tb, .int 65535 tm] news 8 (fun r n' => ∃ gx m1 m2 m3 new, r = .ref gx ∧ n' = m1 :: m2 :: m3 :: (new ++ news) ∧ DgAt w gx d S0 m1 m2 m3 new ∧ ∀ p ∈ news, p.1 ≠ m1.1 ∧ p.1 ≠ m2.1 ∧ p.1 ≠ m3.1 ∧ ∀ q ∈ new, p.1 ≠ q.1) := by
  unfold Ct
  k_fill
  intro mean mg mb dp un gd cn cs ad ccd cl outer A₀ base h₀ L m s Q E B F X N T hk hd hu hret
  k_steps
  rename News _ _ _ _ => hN
  rename Fr _ _ _ _ => hF
  rename (∀ p ∈ news, p.1 < _) => hlt
  refine hret _ (_ :: _ :: _ :: _ :: _ :: _ :: _ :: news) _ _ hF (cb_drop hN (List.forall_mem_cons.mpr ⟨.tail _ (.tail _ (.tail _ (.tail _ (.tail _ (.tail _ (.head _)))))), List.forall_mem_cons.mpr ⟨.head _, List.forall_mem_cons.mpr ⟨.tail _ (.tail _ (.tail _ (.tail _ (.head _)))), List.forall_mem_cons.mpr ⟨.tail _ (.tail _ (.tail _ (.tail _ (.tail _ (.head _))))), List.forall_mem_cons.mpr ⟨.tail _ (.tail _ (.tail _ (.head _))), List.forall_mem_cons.mpr ⟨.tail _ (.head _), List.forall_mem_cons.mpr ⟨.tail _ (.tail _ (.head _)), fun p hp => List.mem_cons_of_mem _ (List.mem_cons_of_mem _ (List.mem_cons_of_mem _ (List.mem_cons_of_mem _ (List.mem_cons_of_mem _ (List.mem_cons_of_mem _ (List.mem_cons_of_mem _ (hp)))))))⟩⟩⟩⟩⟩⟩⟩)) ⟨_, _, _, _, [_, _, _, _], rfl, rfl, ⟨_, _, _, _, _, ⟨_, _, _, _, _, _, _, _, _, _⟩, _, _, _, _, _, 0, _, _, [⟨_, 0, 65535, _, _, _⟩], [], rfl, rfl, rfl, .head _, .tail _ (.head _), .tail _ (.tail _ (.head _)), List.forall_mem_cons.mpr ⟨.tail _ (.tail _ (.tail _ (.head _))), fun _ h => nomatch h⟩, rfl, (fun _ h => nomatch h), rfl, Apart.of (by k_ne), Apart.of (by k_ne), Apart.of (by k_ne), ?_, ?_, ?_⟩, fun p hp => ⟨Nat.ne_of_lt (hlt p hp), Nat.ne_of_lt (Nat.lt_trans (hlt p hp) (by omega)), Nat.ne_of_lt (Nat.lt_trans (hlt p hp) (by omega)), List.forall_mem_cons.mpr ⟨Nat.ne_of_lt (Nat.lt_trans (hlt p hp) (by omega)), List.forall_mem_cons.mpr ⟨Nat.ne_of_lt (Nat.lt_trans (hlt p hp) (by omega)), List.forall_mem_cons.mpr ⟨Nat.ne_of_lt (Nat.lt_trans (hlt p hp) (by omega)), List.forall_mem_cons.mpr ⟨Nat.ne_of_lt (Nat.lt_trans (hlt p hp) (by omega)), fun _ h => nomatch h⟩⟩⟩⟩⟩⟩
  · exact List.forall_mem_cons.mpr ⟨by k_ne, List.forall_mem_cons.mpr ⟨by k_ne, List.forall_mem_cons.mpr ⟨by k_ne, List.forall_mem_cons.mpr ⟨by k_ne, fun _ h => nomatch h⟩⟩⟩⟩
  · exact List.forall_mem_cons.mpr ⟨by k_ne, List.forall_mem_cons.mpr ⟨by k_ne, List.forall_mem_cons.mpr ⟨by k_ne, List.forall_mem_cons.mpr ⟨by k_ne, fun _ h => nomatch h⟩⟩⟩⟩
  · exact List.forall_mem_cons.mpr ⟨by k_ne, List.forall_mem_cons.mpr ⟨by k_ne, List.forall_mem_cons.mpr ⟨by k_ne, List.forall_mem_cons.mpr ⟨by k_ne, fun _ h => nomatch h⟩⟩⟩⟩
end
-- Join
section
example : True := by
  w_top off
  trivial
section
open PySem.Calls PySem.F PySem.Builtin
theorem slot_bjoin : Slot "bytes" "join" "bytes.join" :=
  .of (owner := "bytes") (n := "join") (by rw [typeLookup_type, builtinLookup_eq_fast]; kernel_rfl) (by decide +kernel) (by decide +kernel) (by decide +kernel)
    (by first | exact .inl (by decide +kernel) | exact .inr (by decide +kernel)) (by rw [isSubtype_type]; kernel_rfl)
theorem type_bjoin : typeOf (.builtin "bytes.join") = pure (.type "method_descriptor") := by show builtinType _ = _; rw [builtinType_eq_fast]; kernel_rfl
theorem entry_bjoin : entryFor table "bytes.join" = some Builtin.«bytes.join» := entryFor_of_tree (by kernel_rfl)
theorem args_bjoin (a b : Value) : argsOk "bytes.join" ⟨[a, b], []⟩ := by
  unfold argsOk; rw [signature?_of (id := "bytes.join") (n := ['n', 'i', 'o', 'j']) (o := ['s', 'e', 't', 'y', 'b']) (by kernel_rfl) FB.owner_bytes]; kernel_rfl
variable {prog : Program} {w : World} {A : Around} {E : Value → Shared → Prop} {s : Shared} {b : Array UInt8} {t : Tok}
theorem takeBuf_eq {id : String} : Bytes.takeBufferQuiet? id (.bytes b t) 0 = pure (some (b, none)) := by
  unfold Bytes.takeBufferQuiet? Bytes.takeBuffer?
  rw [KBy.special_eq KBy.look_buffer, KBy.own_buffer]
  have e : ((0 : Int) == Bytes.fullReadOnly) = false := by decide +kernel
  simp only [pure_bind]
  rw [e, KBy.buffer_eq]
  kernel_rfl
abbrev bvals (ps : List (Array UInt8 × Tok)) : List Value := ps.map fun p => .bytes p.1 p.2
theorem join_foldl : ∀ (l : List (Array UInt8)) (k : Nat), l.foldl (fun x1 x2 => x1 + x2.size) k = k + (l.map (·.size)).sum
  | [], k => by simp
  | x :: l, k => by
    rw [List.foldl_cons, join_foldl l]
    simp only [List.map_cons, List.sum_cons]
    omega
theorem joined_go : ∀ (l : List (Array UInt8 × Nat)) (o : Array UInt8), (l.foldl (fun out (x : Array UInt8 × Nat) => (if x.2 > 0 then out ++ (#[] : Array UInt8) else out) ++ x.1) o).toList = o.toList ++ (l.map (·.1.toList)).flatten
  | [], o => by simp
  | x :: l, o => by
    rw [List.foldl_cons, joined_go l]
    have e : (if x.2 > 0 then o ++ (#[] : Array UInt8) else o) = o := by split <;> simp
    rw [e]
    simp
theorem joined_list (l : List (Array UInt8)) : (Bytes.joined #[] l).toList = (l.map (·.toList)).flatten := by
  unfold Bytes.joined
  have h := joined_go l.zipIdx #[]
  refine Eq.trans h ?_
  have e : l.zipIdx.map (fun x => x.1.toList) = l.map (·.toList) := by
    have e2 : l.zipIdx.map (fun x => x.1.toList) = (l.zipIdx.map (·.1)).map (·.toList) := by rw [List.map_map]; rfl
    rw [e2, List.zipIdx_map_fst]
  rw [e]
  rfl
theorem joined_size (l : List (Array UInt8)) : (Bytes.joined #[] l).size = (l.map (·.size)).sum := by
  rw [← Array.length_toList, joined_list, List.length_flatten, List.map_map]
  rfl
theorem joined_ints {d : Int} : ∀ (l : List (Array UInt8 × Nat)), (∀ x ∈ l, KBw.bInts x.1 = List.replicate x.2 d) → KBw.bInts (Bytes.joined #[] (l.map (·.1))) = List.replicate (l.map (·.2)).sum d := by
  intro l h
  have key : ∀ (l : List (Array UInt8 × Nat)), (∀ x ∈ l, KBw.bInts x.1 = List.replicate x.2 d) → KBw.bInts (((l.map (·.1)).map (·.toList)).flatten.toArray) = List.replicate (l.map (·.2)).sum d := by
    intro l
    induction l with
    | nil => intro _; rfl
    | cons x l ih =>
      intro h
      have h1 := h x (.head _)
      have h2 := ih fun y hy => h y (.tail _ hy)
      unfold KBw.bInts at h1 h2 ⊢
      simp only [List.map_cons, List.flatten_cons, List.map_append, List.sum_cons, List.replicate_append_replicate.symm] at h1 h2 ⊢
      rw [h1, h2]
  have e : Bytes.joined #[] (l.map (·.1)) = (((l.map (·.1)).map (·.toList)).flatten.toArray) := by
    rw [← joined_list, Array.toArray_toList]
  rw [e]
  exact key l h
theorem joinLetGo_quiet {M : Model} {Q : Unit → Shared → Prop} : ∀ (ps : List (Array UInt8 × Tok)) (keep : List Value), Q () s → wpAny M A (Bytes.joinLetGo (ps.map fun p => (Value.bytes p.1 p.2, none)) keep) Q E s
  | [], _, h => wpAny_pure h
  | p :: ps, keep, h => by
    rw [List.map_cons]
    unfold Bytes.joinLetGo
    dsimp only
    refine wpAny_bind ?_
    unfold letGo
    refine wpAny_bind (wpAny_holding (wpAny_point ?_))
    refine wpAny_pure ?_
    exact joinLetGo_quiet ps keep h
theorem jm_other {α : Type} {G : Array Value} {X : Value → α} {Y : Array Value → α} (h : G.size ≠ 1) : Bytes.joinM.match_1 (fun _ => α) G X Y = Y G := by
  unfold Bytes.joinM.match_1
  rw [dif_neg h]
theorem join_body {M : Model} {a : Addr} {o : Obj} {ps : List (Array UInt8 × Tok)} {n : Nat} {t0 : Tok} {Q : PySem.Fin → Shared → Prop} (ho : s.heap.get? a = some o) (hc : o.cls = .type "list") (hd : o.data = .seq (bvals ps).toArray n) (h2 : 2 ≤ ps.length) (hs2 : ((ps.map (·.1)).map (·.size)).sum ≤ 100000)
    (h : ∀ t k, Q (.done (.ret (.bytes (Bytes.joined #[] (ps.map (·.1))) t))) { s with toks := k }) : wpAny M A (Builtin.«bytes.join» ⟨[.bytes #[] t0, .ref a], []⟩) Q E s := by
  show wpAny M A (Bytes.joinM .bytes ⟨[.bytes #[] t0, .ref a], []⟩) Q E s
  unfold Bytes.joinM
  refine wpAny_bind (wpAny_of_eq (a := (.bytes #[] t0, .ref a)) rfl ?_)
  dsimp only
  refine bm_if_true rfl ?_
  have hT : s.TypeIs (.ref a) "list" := ⟨o, ho, hc⟩
  unfold Bytes.joinItems
  refine wpAny_bind (wpAny_bind (wpAny_typeOf hT ?_))
  refine bm_if_true (by decide) ?_
  refine wpAny_pure ?_
  refine wpAny_bind (wpAny_seqItems ho hd ?_)
  dsimp only
  refine bm_if_true rfl ?_
  have hsz : (bvals ps).toArray.size = ps.length := by simp [bvals]
  generalize hG : (bvals ps).toArray = G at hsz hd
  rw [jm_other (by omega)]
  · rw [Std.Legacy.Range.forIn_eq_forIn_range']
    refine wpAny_bind (wpAny_forIn_list _ (fun rest b s' => s' = s ∧ ∃ i, i ≤ ps.length ∧ rest = List.range' i (ps.length - i) ∧ b = (((ps.take i).map (·.1)).toArray, (ps.take i).map fun p => (Value.bytes p.1 p.2, none))) _ ?_ ?_ _ _ ⟨rfl, 0, Nat.zero_le _, ?_, by simp⟩)
    · rintro x rest b s' ⟨rfl, i, hi, hr, rfl⟩
      have hlt : i < ps.length := by
        rcases Nat.lt_or_ge i ps.length with h | h
        · exact h
        · rw [show ps.length - i = 0 by omega] at hr
          cases hr
      rw [show ps.length - i = (ps.length - (i + 1)) + 1 by omega, List.range'_succ] at hr
      injection hr with hx hr
      subst hx hr
      have hany : ((ps.take x).map fun p => ((Value.bytes p.1 p.2, none) : Value × Option Value)).any (fun x => x.1.onHeap) = false := by
        rw [List.any_map]
        exact List.any_eq_false.mpr fun p _ => by simp [Value.onHeap]
      have hget : G.getD x Value.none = Value.bytes ps[x].1 ps[x].2 := by
        rw [← hG]
        simp [bvals, Array.getD, hlt]
      refine wpAny_bind (wpAny_seqItems ho hd ?_)
      dsimp only
      rw [hany]
      refine bm_if_false rfl ?_
      refine wpAny_bind (wpAny_holding ?_)
      rw [hget, takeBuf_eq]
      refine wpAny_pure ?_
      dsimp only
      refine wpAny_bind (wpAny_seqItems ho hd ?_)
      dsimp only
      refine bm_if_false (by simp) ?_
      refine wpAny_pure ⟨rfl, x + 1, hlt, rfl, ?_⟩
      rw [List.take_add_one, List.getElem?_eq_getElem hlt, Option.toList_some, List.map_append, List.map_append]
      simp only [List.map_cons, List.map_nil, List.push_toArray]
    · rintro b s' ⟨rfl, i, hi, hr, rfl⟩
      have hi9 : i = ps.length := by
        rcases Nat.lt_or_ge i ps.length with h | h
        · rw [show ps.length - i = (ps.length - (i + 1)) + 1 by omega, List.range'_succ] at hr
          cases hr
        · omega
      subst hi9
      rw [List.take_length]
      dsimp only
      refine wpAny_bind (wpAny_of_eq (a := (#[] : Array UInt8)) rfl ?_)
      have htl : Bytes.tooLong (((ps.map (·.1)).toArray).foldl (fun x1 x2 => x1 + x2.size) ((#[] : Array UInt8).size * ((ps.map (·.1)).toArray.size - 1))) = false := by
        have e0 : (#[] : Array UInt8).size * ((ps.map (·.1)).toArray.size - 1) = 0 := by simp
        rw [e0]
        refine KBy.tooLong_not ?_
        rw [List.foldl_toArray, join_foldl, Nat.zero_add]
        omega
      refine bm_if_false htl ?_
      refine wpAny_bind (wpAny_mkBytes ?_ (by rw [joined_size, sizeLine_eq]; omega))
      refine wpAny_bind (wpAny_holding (wpAny_point ?_))
      refine wpAny_bind (joinLetGo_quiet ps _ ?_)
      exact wpAny_pure (h _ _)
    · simp [hsz, Std.Legacy.Range.size]
theorem call_join {a : Addr} {o : Obj} {ps : List (Array UInt8 × Tok)} {n : Nat} {t0 : Tok} {Q : Value → Shared → Prop} (ho : s.heap.get? a = some o) (hc : o.cls = .type "list") (hd : o.data = .seq (bvals ps).toArray n) (h2 : 2 ≤ ps.length) (hs2 : ((ps.map (·.1)).map (·.size)).sum ≤ 100000)
    (h : ∀ t k, Q (.bytes (Bytes.joined #[] (ps.map (·.1))) t) { s with toks := k }) : wpAny (model prog w) A (call (.builtin "bytes.join") [.bytes #[] t0, .ref a]) Q E s :=
  wpAny_call_entry slot_bjoin (PySem.W.typeIs_bytes _ _ _) entry_bjoin (join_body ho hc hd h2 hs2 fun t k => ⟨_, rfl, h t k⟩) (args_bjoin _ _)
theorem getMethod_bjoin {b : Array UInt8} {t : Tok} {pl : Sem Bool} {Q : Value × List Value → Shared → Prop} {M : Model} (h : Q (.builtin "bytes.join", [.bytes b t]) s) : wpAny M A (getMethod (.bytes b t) "join" pl) Q E s :=
  getMethod_builtin (PySem.W.typeIs_bytes _ _ _) FB.plainAttrs_bytes slot_bjoin type_bjoin (fun a e => nomatch e) h
end
end
-- Octets
section
example : True := by
  w_top off
  trivial
section
open PySem.Calls LCg
theorem rest_pairs {prog : Program} {w : World} {A : Around} {h₀ : Heap} {L : Addr} {m : Str → Option Value} {env : Env} {elt : Expr} {x x₂ : Str} {scope : Scope} {cl : List (Str × Addr)} {s : Shared} {S : Led → Prop} {Fin : List Value → Led → Prop} {news : Led} {pl : List Pt} {d : Int}
    (hS : S news) (hp : ∀ p ∈ pl, PtAt news d p)
    (hev : ∀ (p : Pt) (I C D : Addr) (oI oC : Obj) (ys : List Value) (m₂ : Str → Option Value) (h : Heap) (tk : Nat) (E' Q' : Value → Shared → Prop), NsObj oC m₂ → m₂ x₂ = some (.bytes p.b p.tD) → Fr h₀ L h m → News h₀ L h ((I, oI) :: (C, oC) :: (D, lst ys) :: news) →
      Q' (.bytes p.b p.tD) { s with heap := h, toks := tk } → wpAny (model prog w) A (eval elt (compEnvC scope cl C env)) Q' E' { s with heap := h, toks := tk })
    (fin : Fin (pl.map fun p => .bytes p.b p.tD) news) :
    ∀ k i ys, i + k = pl.length → ys = ((pl.take i).map fun p => .bytes p.b p.tD) → LCp.CompRestP prog w A h₀ L m env elt x x₂ scope cl s S (fun i v => (pts pl).toArray[i]? = some v) Fin k i ys news
  | 0, i, ys, hi, hy => by
    refine LCp.CompRestP.zero ?_
    rw [hy, List.take_of_length_le (by omega)]
    exact fin
  | k + 1, i, ys, hi, hy => by
    refine LCp.CompRestP.succ fun v hv => ?_
    have hlt : i < pl.length := by omega
    have hv2 : v = .ref pl[i].t := by
      have e : (pts pl).toArray[i]? = some (.ref pl[i].t) := by simp [pts, hlt]
      rw [e] at hv
      exact (Option.some.inj hv).symm
    subst hv2
    refine ⟨pl[i].t, _, _, _, 0, rfl, (hp _ (List.getElem_mem hlt)).1, rfl, rfl, ?_⟩
    intro I oI C oC D m₂ h tk E' hC hx hx2 F N off ne
    refine hev pl[i] I C D oI oC ys m₂ h tk E' _ hC hx2 F N ?_
    refine CompEnd.intro F N news (fun p hp => hp) off hS (rest_pairs hS hp hev fin k (i + 1) _ (by omega) ?_)
    rw [hy, List.take_add_one, List.getElem?_eq_getElem hlt, Option.toList_some, List.map_append]
    rfl
local macro_rules | `(tactic| walk_at "eval ListComp") => `(tactic| walk_at "hold")
local macro_rules | `(tactic| walk_at "call builtin:sorted") => `(tactic| (k_here; (with_reducible show wpAny _ _ (call (Value.builtin "sorted") [Value.ref _]) _ _ _); (k_dflt (refine Hold.on ?_))))
local macro_rules | `(tactic| walk_at "call builtin:bytes.join") => `(tactic| walk_at "hold")
local macro_rules | `(tactic| walk_at "getMethod bytes") => `(tactic| (k_here; (with_reducible show wpAny _ _ (getMethod (Value.bytes _ _) (PySem.Str.ofString "join") _) _ _ _); (k_dflt (refine getMethod_bjoin ?_))))
set_option maxHeartbeats 8000000 in
theorem octets_ct {w : World} {gx gq pl hx : Addr} {ev fv : Value} {ah sz : Int} {da : DTok} {ta ts : Tok} {np : Nat} {P : List Pt} {d : Int} {all : Led}
    (h1 : (gx, instObj 368 gq) ∈ all) (h2 : (gq, dictOf (dgEs w hx pl ev fv ah sz da ta ts) 8) ∈ all) (h3 : (pl, listOf (pts P).toArray np) ∈ all)
    (hP : ∀ p ∈ P, PtAt all d p) (hd9 : P.Pairwise fun p q => p.off ≠ q.off) (hl2 : 2 ≤ P.length) (hl6 : P.length ≤ 6) (hs : (P.map (·.len)).sum ≤ 1000) :
    Ct w 358 [.ref gx] all 12 (fun r n' => n' = all ∧ ∃ b t, r = .bytes b t ∧ KBw.bInts b = List.replicate (P.map (·.len)).sum d) := by
  refine' Ct.ro ?ho ?hcd ?hbind ?hloc ?hco ?hgen ?hk ?hcell ?hsub ?hb
  case ho => k_is
  case hcd => k_is
  case hbind => (intro s hX; first | exact BindsTo.of_eq rfl | exact binds_K hX rfl (by k_is) rfl rfl rfl)
  case hloc => exact locs rfl
  case hco => exact rfl
  case hgen => exact rfl
  case hk => exact rfl
  case hcell => decide
  case hsub => exact fun p hp => hp
  case hb =>
  unfold Bd
  intro mean mg mb dp un gd outer A₀ base g L s B F X N T hd hu
  refine hideQ ?_
  intro Qz bkz
  (try dsimp only)
  obtain N2 : News g L s.heap ((gx, instObj 368 gq) :: (gq, dictOf (dgEs w hx pl ev fv ah sz da ta ts) 8) :: (pl, listOf (pts P).toArray np) :: all) :=
    cb_drop N (List.forall_mem_cons.mpr ⟨h1, List.forall_mem_cons.mpr ⟨h2, List.forall_mem_cons.mpr ⟨h3, fun p hp => hp⟩⟩⟩)
  clear N
  k_steps
  unfold Hold
  k_dflt (refine LCp.ListComp_P (F₀ := by k_asm) (by with_unfolding_all rfl) (by decide) (by rfl) (by decide) (by rfl) (by rfl) (by decide) ?_)
  k_steps
  unfold Hold
  refine sorted_pairs (pl := P) (d := d) (by k_asm) N2 (by k_mem) (fun p hp => ⟨List.mem_cons_of_mem _ (List.mem_cons_of_mem _ (List.mem_cons_of_mem _ (hP p hp).1)), (hP p hp).2⟩) hd9 hl2 hl6 ?_
  intro D9 c9 h9 P9 hperm F9 N9 hlt
  dsimp only
  refine LCp.SrcLP.ledger rfl F9 N9 (List.Mem.head _) (by rw [List.size_toArray, List.length_map, hperm.length_eq, sizeLine_eq]; omega) ?_
  intro g9
  refine rest_pairs (pl := P9) (d := d) (.inr ⟨_, .head _, rfl, _, rfl⟩) (fun p hp => ?_) ?_ ?_ _ 0 [] (by simp) rfl
  · have hp9 := hP p (hperm.mem_iff.mp hp)
    exact ⟨List.mem_cons_of_mem _ (List.mem_cons_of_mem _ (List.mem_cons_of_mem _ (List.mem_cons_of_mem _ hp9.1))), hp9.2⟩
  · intro p I C D oI oC ys m₂ h tk E' Q' hC hx2 F8 N8 hQ
    k_steps
    exact hQ
  · unfold FinE
    intro D8 h8 tk8 F8 N8 O8
    k_steps
    unfold Hold
    have ev9 : P9.map (fun p => Value.bytes p.b p.tD) = bvals (P9.map fun p => (p.b, p.tD)) := by simp [bvals, List.map_map, Function.comp_def]
    have hp9 : ∀ p ∈ P9, KBw.bInts p.b = List.replicate p.len d := fun p hp => (hP p (hperm.mem_iff.mp hp)).2
    have hsz9 : ((P9.map fun p => (p.b, p.tD)).map (·.1)).map (·.size) = P9.map (·.len) := by
      rw [List.map_map, List.map_map]
      refine List.map_congr_left fun p hp => ?_
      have z := KBw.ints_length p.b
      rw [hp9 p hp, List.length_replicate] at z
      exact z.symm
    have hsum : (P9.map (·.len)).sum = (P.map (·.len)).sum := (hperm.map _).sum_nat
    rw [ev9] at N8
    refine call_join (ps := P9.map fun p => (p.b, p.tD)) (N8 _ (.head _)).1 rfl rfl (by rw [List.length_map, hperm.length_eq]; exact hl2) (by rw [hsz9, hsum]; omega) fun t k => bkz _ _ <| CtRet.intro F8 N8 ⟨⟨_, t, rfl, ?_⟩, fun p hp => by (repeat refine List.mem_cons_of_mem _ ?_); exact hp⟩
    have hj := joined_ints (d := d) (P9.map fun p => (p.b, p.len)) (fun x hx => by
      refine hideG ?_
      intro PZ bkZ
      obtain ⟨p, hp, rfl⟩ := List.mem_map.mp hx
      refine bkZ ?_
      clear bkZ PZ
      exact hp9 p hp)
    rw [List.map_map, List.map_map] at hj
    rw [← hsum, List.map_map]
    exact hj
end
end
-- Bad
section
example : True := by
  w_top off
  trivial
section
set_option maxHeartbeats 8000000 in
theorem bad_ct {w : World} {x : Addr} {H : Hdr} {pb : Array UInt8} {ks : List Int} {tk : Tok} {all : Led} (hH : HdrAt w all x H) (hb : KBw.bInts pb = ks) (hbad : H.more = true → 0 < ks.length ∧ ks.length % 8 = 0) (hl : ks.length ≤ 60000) :
    Ct w 393 [.ref x, .bytes pb tk] all 12 (fun r n' => n' = all ∧ r = .bool false) := by
  refine hideG ?_
  intro PZ bkZ
  obtain ⟨dx, kh, n, hx, hdx⟩ := hH
  refine bkZ ?_
  clear bkZ PZ
  refine' Ct.ro ?ho ?hcd ?hbind ?hloc ?hco ?hgen ?hk ?hcell ?hsub ?hb
  case ho => k_is
  case hcd => k_is
  case hbind => (intro s hX; first | exact BindsTo.of_eq rfl | exact binds_K hX rfl (by k_is) rfl rfl rfl)
  case hloc => exact locs rfl
  case hco => exact rfl
  case hgen => exact rfl
  case hk => exact rfl
  case hcell => decide
  case hsub => exact sub2 hx hdx
  case hb =>
  unfold Bd
  intro mean mg mb dp un gd outer A₀ base g L s B F X N T hd hu
  refine hideQ ?_
  intro Qz bkz
  (try dsimp only)
  cases hm : H.more with
  | true =>
    obtain ⟨hb1, hb2⟩ := hbad hm
    have hne : (pb.toList == (#[] : Array UInt8).toList) = false := by
      rw [← hb, KBw.ints_length] at hb1
      cases hp : pb.toList with
      | nil => rw [← Array.length_toList, hp] at hb1; simp at hb1
      | cons a l => rfl
    k_steps
    have e8 : (((ks.length : Int)).fmod 8 != 0) = false := by
      rw [Int.fmod_eq_emod_of_nonneg _ (by decide), bne_eq_decide, decide_eq_false_iff_not]
      omega
    exact bkz _ _ <| CtRet.intro (by assumption) (by assumption) ⟨congrArg Value.bool e8, by ((repeat (first | exact List.forall_mem_nil _ | (refine List.forall_mem_cons.mpr ⟨(by k_mem), ?_⟩))))⟩
  | false =>
    k_steps
    all_goals exact bkz _ _ <| CtRet.intro (by assumption) (by assumption) ⟨congrArg Value.bool hm, by ((repeat (first | exact List.forall_mem_nil _ | (refine List.forall_mem_cons.mpr ⟨(by k_mem), ?_⟩))))⟩
end
end
-- RPut
section
example : True := by
  w_top off
  trivial
inductive RaAt (w : World) (rx wl : Addr) (tp : Led) : Prop
  | mk (rq : Addr) (k0 k1 k2 k3 u0 u1 u2 : Tok) (h1 : (rx, instObj 451 rq) ∈ tp) (h2 : (rq, dictOf (raEs w wl k0 k1 k2 k3 u0 u1 u2) 4) ∈ tp) (h3 : (wl == sysModules) = false) : RaAt w rx wl tp
theorem RaAt.mono {w : World} {rx wl : Addr} {tp tp' : Led} (h : RaAt w rx wl tp) (hs : ∀ p ∈ tp, p ∈ tp') : RaAt w rx wl tp' :=
  let ⟨rq, k0, k1, k2, k3, u0, u1, u2, a, b, c⟩ := h
  ⟨rq, k0, k1, k2, k3, u0, u1, u2, hs _ a, hs _ b, c⟩
def isWh (S : DgSt) : Bool := S.en.isSome && S.fst.isSome && S.rows.isEmpty
theorem DgAt.inst {w : World} {gx : Addr} {d : Int} {S : DgSt} {m1 m2 m3 : Addr × Obj} {tp : Led} (h : DgAt w gx d S m1 m2 m3 tp) : ∃ (gq pl hx : Addr) (da : DTok) (ta ts te : Tok), m1 = (gq, dictOf (dgEs w hx pl (enV S.en te) (fstV S.fst) S.ah S.sz da ta ts) 8) ∧ (gx, instObj 368 gq) ∈ tp := by
  refine hideG ?_
  intro PZ bkZ
  obtain ⟨gq, pl, hx, hq, rl, da, ta, ts, kk0, kk1, vm, te, np, nn, rws, P, rfl, rfl, rfl, c1, _, _, _, _, _, _, _, _, _, _, _, _⟩ := h
  refine bkZ ?_
  clear bkZ PZ
  exact ⟨gq, pl, hx, da, ta, ts, te, rfl, c1⟩
theorem DgAt.grow {w : World} {gx : Addr} {d : Int} {S : DgSt} {m1 m2 m3 : Addr × Obj} {tp tp2 : Led} (h : DgAt w gx d S m1 m2 m3 tp) (hs : ∀ p ∈ tp, p ∈ tp2) (h1 : ∀ p ∈ tp2, p.1 ≠ m1.1) (h2 : ∀ p ∈ tp2, p.1 ≠ m2.1) (h3 : ∀ p ∈ tp2, p.1 ≠ m3.1) : DgAt w gx d S m1 m2 m3 tp2 := by
  refine hideG ?_
  intro PZ bkZ
  obtain ⟨gq, pl, hx, hq, rl, da, ta, ts, kk0, kk1, vm, te, np, nn, rws, P, rfl, rfl, rfl, c1, c2, c3, c4, c5, c6, c7, c8, c9, c10, c11, c12, c13⟩ := h
  refine bkZ ?_
  clear bkZ PZ
  exact ⟨gq, pl, hx, hq, rl, da, ta, ts, kk0, kk1, vm, te, np, nn, rws, P, rfl, rfl, rfl, hs _ c1, hs _ c2, hs _ c3, fun v hv => hs _ (c4 v hv), c5, fun p hp => ⟨hs _ (c6 p hp).1, (c6 p hp).2⟩, c7, c8, c9, c10, h1, h2, h3⟩
theorem DgAt.kinds {w : World} {gx : Addr} {d : Int} {S : DgSt} {m1 m2 m3 : Addr × Obj} {tp : Led} (h : DgAt w gx d S m1 m2 m3 tp) : m1.2.cls = .type "dict" ∧ m2.2.cls = .type "list" ∧ m3.2.cls = .type "dict" ∧ (∀ p ∈ tp, p.1 ≠ m1.1) ∧ (∀ p ∈ tp, p.1 ≠ m2.1) ∧ (∀ p ∈ tp, p.1 ≠ m3.1) := by
  refine hideG ?_
  intro PZ bkZ
  obtain ⟨gq, pl, hx, hq, rl, da, ta, ts, kk0, kk1, vm, te, np, nn, rws, P, rfl, rfl, rfl, c1, c2, c3, c4, c5, c6, c7, c8, c9, c10, c11, c12, c13⟩ := h
  refine bkZ ?_
  clear bkZ PZ
  exact ⟨rfl, rfl, rfl, c11, c12, c13⟩
theorem KeyObj.kind {a b c e : Int} {o : Obj} (h : KeyObj a b c e o) : o.cls = .type "tuple" := by
  obtain ⟨ta, tb, tc, te, n, rfl⟩ := h; rfl
theorem octs_ct {w : World} {gx : Addr} {d : Int} {S : DgSt} {m1 m2 m3 : Addr × Obj} {tp all : Led} (hD : DgAt w gx d S m1 m2 m3 tp) (hsub : ∀ p ∈ m1 :: m2 :: m3 :: tp, p ∈ all)
    (h2 : 2 ≤ S.parts.length) (h6 : S.parts.length ≤ 6) (hp : S.parts.Pairwise fun p q => p.1 ≠ q.1) (hs : (S.parts.map (·.2)).sum ≤ 1000) :
    Ct w 358 [.ref gx] all 12 (fun r n' => n' = all ∧ ∃ b t, r = .bytes b t ∧ KBw.bInts b = List.replicate (S.parts.map (·.2)).sum d) := by
  refine hideG ?_
  intro PZ bkZ
  obtain ⟨gq, pl, hx, hq, rl, da, ta, ts, kk0, kk1, vm, te, np, nn, rws, P, rfl, rfl, rfl, c1, c2, c3, c4, c5, c6, c7, c8, c9, c10, c11, c12, c13⟩ := hD
  refine bkZ ?_
  clear bkZ PZ
  have e1 : S.parts.map (·.2) = P.map (·.len) := by rw [← c7, List.map_map]; rfl
  have e2 : S.parts.length = P.length := by rw [← c7, List.length_map]
  rw [e1] at hs ⊢
  rw [← c7, List.pairwise_map] at hp
  exact octets_ct (hsub _ (.tail _ (.tail _ (.tail _ c1)))) (hsub _ (.head _)) (hsub _ (.tail _ (.head _))) (fun p hp => ⟨hsub _ (.tail _ (.tail _ (.tail _ (c6 p hp).1))), (c6 p hp).2⟩) hp (by omega) (by omega) hs
structure FinOk (w : World) (tp : Led) (src tgt ident : Int) (S : DgSt) : Prop where
  head : ∃ x0 mo o0, S.fst = some x0 ∧ HdrAt w tp x0 ⟨src, tgt, ident, mo, o0⟩
  en : ∃ e, S.en = some e ∧ 0 ≤ e ∧ e ≤ 60000
  p2 : 2 ≤ S.parts.length
  p6 : S.parts.length ≤ 6
  pw : S.parts.Pairwise fun p q => p.1 ≠ q.1
  su : (S.parts.map (·.2)).sum ≤ 1000
/-- what Reassembly.put leaves behind -/
def PutEnd (w : World) (wl gx : Addr) (d src tgt ident : Int) (kt : Addr) (nw : Nat) (tp : Led) (S : DgSt) (r : Value) (n0 : Led) : Prop :=
  (isWh S = false ∧ r = .none ∧ ∃ m1' m2' m3' tp', n0 = (wl, dictOf (oneEs w src tgt 17 ident kt (.ref gx)) nw) :: m1' :: m2' :: m3' :: tp' ∧ DgAt w gx d S m1' m2' m3' tp' ∧ (∀ p ∈ tp, p ∈ tp') ∧ ∀ p ∈ m1' :: m2' :: m3' :: tp', p.1 ≠ wl) ∨
  (isWh S = true ∧ ∃ t hx b tb k, r = .ref t ∧ (t, pairOf (.ref hx) (.bytes b tb) k) ∈ n0 ∧ HdrAt w n0 hx ⟨src, tgt, ident, false, 0⟩ ∧ KBw.bInts b = List.replicate (S.parts.map (·.2)).sum d ∧ ∀ p ∈ tp, p ∈ n0)
def StopB : Prop := True
theorem StopB.go : StopB := trivial
section
local macro_rules | `(tactic| walk_at "getMethod ref") => `(tactic| (k_here; (with_reducible show wpAny _ _ (getMethod (Value.ref _) (Str.ofString "pop") _) _ _ _); (k_dflt (refine getMethod_dpop (by k_asm) (by k_mem) ?_))))
local macro_rules | `(tactic| walk_at "isTrue BoolOp") => `(tactic| ((with_reducible rename StopB => sb9); clear sb9; refine Hold.on ?_))
local macro_rules | `(tactic| walk_at "subscriptTail") => `(tactic| (k_here; (with_reducible show wpAny _ _ (subscriptTail _ _ (Value.ref _) (Value.ref _)) _ _ _); (k_dflt (refine Hold.on ?_))))
local macro_rules | `(tactic| walk_at "compareOp NotIn ref ref") => `(tactic| (k_here; (with_reducible show wpAny _ _ (compareOp CmpOp.NotIn (Value.ref _) (Value.ref _)) _ _ _); (k_dflt (refine Hold.on ?_))))
local macro_rules | `(tactic| walk_at "call builtin:dict.pop") => `(tactic| walk_at "hold")
set_option maxHeartbeats 16000000 in
theorem rput_old {w : World} {rx wl gx x kt : Addr} {d : Int} {S : DgSt} {m1 m2 m3 : Addr × Obj} {tp rest : Led} {src tgt ident off : Int} {more : Bool} {pb : Array UInt8} {len nw : Nat} {tk tn : Tok} {ok : Obj}
    (hR : RaAt w rx wl tp) (hD : DgAt w gx d S m1 m2 m3 tp) (hk : KeyObj src tgt 17 ident ok) (hko : (kt, ok) ∈ tp) (hH : HdrAt w tp x ⟨src, tgt, ident, more, off⟩) (hb : KBw.bInts pb = List.replicate len d) (ok9 : PutOk S off len more)
    (hno : off = 0 → more = true) {S9 : DgSt} (hS9 : dstep S off len more x = S9) (hsz0 : 0 ≤ S9.sz) (hsz1 : S9.sz ≤ 999)
    (hfin : isWh S9 = true → FinOk w tp src tgt ident S9) (hbad : more = true → 0 < len ∧ len % 8 = 0) (owl : ∀ p ∈ m1 :: m2 :: m3 :: tp, p.1 ≠ wl)
    (ha : ∀ p ∈ rest, ∀ q ∈ (wl, dictOf (oneEs w src tgt 17 ident kt (.ref gx)) nw) :: m1 :: m2 :: m3 :: tp, p.1 ≠ q.1) :
    Ct w 415 [.ref rx, .ref x, .bytes pb tk, .int 1 tn] (((wl, dictOf (oneEs w src tgt 17 ident kt (.ref gx)) nw) :: m1 :: m2 :: m3 :: tp) ++ rest) 70 (fun r n' => ∃ n0, n' = n0 ++ rest ∧ PutEnd w wl gx d src tgt ident kt nw tp S9 r n0 ∧ ∀ p ∈ n0, ∀ q ∈ rest, p.1 ≠ q.1) := by
  refine' Ct.rw ?ho ?hcd ?hbind ?hloc ?hco ?hgen ?hk ?hcell ?hap ?hb
  case ho => k_is
  case hcd => k_is
  case hbind => (intro s hX; first | exact BindsTo.of_eq rfl | exact binds_K hX rfl (by k_is) rfl rfl rfl)
  case hloc => exact locs rfl
  case hco => exact rfl
  case hgen => exact rfl
  case hk => exact rfl
  case hcell => decide
  case hap => exact ha
  case hb =>
  unfold Bd
  intro mean mg mb dp un gd outer A₀ base g L s B F X N T hd hu
  refine hideQ ?_
  intro Qz bkz
  (try dsimp only)
  have hq9 : HoldAt [346, 353, 434, 358, 155, 393] := .mk
  have hR0 := hR
  have hH0 := hH
  refine hideG ?_
  intro PZ bkZ
  obtain ⟨rq, q0, q1, q2, q3, u0, u1, u2, r1, r2, hwl⟩ := hR
  refine bkZ ?_
  clear bkZ PZ
  refine hideG ?_
  intro PZ bkZ
  obtain ⟨dx, kh, n, x1, x2⟩ := hH
  refine bkZ ?_
  clear bkZ PZ
  refine hideG ?_
  intro PZ bkZ
  obtain ⟨gq, pl, hx, da, ta, ts, te, hm1, g1⟩ := hD.inst
  refine bkZ ?_
  clear bkZ PZ
  subst hm1
  have up4 : ∀ p ∈ tp, p ∈ (wl, dictOf (oneEs w src tgt 17 ident kt (.ref gx)) nw) :: (gq, dictOf (dgEs w hx pl (enV S.en te) (fstV S.fst) S.ah S.sz da ta ts) 8) :: m2 :: m3 :: tp := fun p hp => List.mem_cons_of_mem _ (List.mem_cons_of_mem _ (List.mem_cons_of_mem _ (List.mem_cons_of_mem _ hp)))
  have N2 : News g L s.heap ((wl, dictOf (oneEs w src tgt 17 ident kt (.ref gx)) nw) :: (rx, instObj 451 rq) :: (rq, dictOf (raEs w wl q0 q1 q2 q3 u0 u1 u2) 4) :: (x, instObj 155 dx) :: (dx, dictOf (hdrEs w ⟨src, tgt, ident, more, off⟩ kh) n) :: (kt, ok) :: (gx, instObj 368 gq) :: (gq, dictOf (dgEs w hx pl (enV S.en te) (fstV S.fst) S.ah S.sz da ta ts) 8) :: ((wl, dictOf (oneEs w src tgt 17 ident kt (.ref gx)) nw) :: (gq, dictOf (dgEs w hx pl (enV S.en te) (fstV S.fst) S.ah S.sz da ta ts) 8) :: m2 :: m3 :: tp)) :=
    cb_drop N (List.forall_mem_cons.mpr ⟨.head _, List.forall_mem_cons.mpr ⟨up4 _ r1, List.forall_mem_cons.mpr ⟨up4 _ r2, List.forall_mem_cons.mpr ⟨up4 _ x1, List.forall_mem_cons.mpr ⟨up4 _ x2, List.forall_mem_cons.mpr ⟨up4 _ hko, List.forall_mem_cons.mpr ⟨up4 _ g1, List.forall_mem_cons.mpr ⟨.tail _ (.head _), fun p hp => hp⟩⟩⟩⟩⟩⟩⟩⟩)
  clear N
  generalize hM : (wl, dictOf (oneEs w src tgt 17 ident kt (.ref gx)) nw) :: (gq, dictOf (dgEs w hx pl (enV S.en te) (fstV S.fst) S.ah S.sz da ta ts) 8) :: m2 :: m3 :: tp = M at N2
  have hbad9 : more = true → 0 < (List.replicate len d).length ∧ (List.replicate len d).length % 8 = 0 := by rw [List.length_replicate]; exact hbad
  have hlen9 : (List.replicate len d).length ≤ 60000 := by
    have z1 := ok9.o1
    have z2 := ok9.o2
    rw [List.length_replicate]; omega
  have sb := StopB.go
  (k_steps; (repeat' (unfold Hold; (first | (k_here; k_dflt (refine' Ct.use' mkHdrF_ct ?k1 ?k2 ?k3 ?k4 ?k5 ?kK ?kd ?ku ?_; walk_at "ct1"; (case k4 => k_asm); k_whole; (intro zh9 ztk9 zF9 zP7 zbk7 zr9 znw9); (rintro ⟨zx9, zdx9, zkh9, zn9, ze8, ze9, zl1, zl2⟩); (try subst ze8); (try subst ze9); (refine zbk7 _ _ ?_); (clear zbk7 zP7); (intro zN9); (try k_lt zl1); (try k_lt2 zl2); (try dsimp only); (try k_sweep); (try k_fold))) | (k_here; k_dflt (refine' Ct.use' (bad_ct ?c1 ?c2 ?c3 ?c4) ?k1 ?k2 ?k3 ?k4 ?k5 ?kK ?kd ?ku ?_; walk_at "ct1"; (case k4 => k_asm); (case c1 => (refine' ⟨_, _, _, ?hm1, ?hm2⟩; (case hm1 => k_mem); (case hm2 => k_mem))); (case c2 => assumption); (case c3 => assumption); (case c4 => assumption); k_whole; (intro zh9 ztk9 zF9 zP7 zbk7 zr9 znw9); (rintro ⟨ze9, ze8⟩); (try subst ze8); (try subst ze9); (refine zbk7 _ _ ?_); (clear zbk7 zP7); (intro zN9); (try k_lt zl1); (try k_lt2 zl2); (try dsimp only); (try k_sweep); (try k_fold)))); k_steps)))
  unfold Hold
  refine wpAny_mono (Q := fun b s9 => b = false ∧ ∃ tk, s9 = { s with toks := tk }) ?test ?rest (fun _ _ e => e)
  case test =>
    (k_steps; (repeat' (unfold Hold; (first | (k_here; k_dflt (refine' Ct.use' mkHdrF_ct ?k1 ?k2 ?k3 ?k4 ?k5 ?kK ?kd ?ku ?_; walk_at "ct1"; (case k4 => k_asm); k_whole; (intro zh9 ztk9 zF9 zP7 zbk7 zr9 znw9); (rintro ⟨zx9, zdx9, zkh9, zn9, ze8, ze9, zl1, zl2⟩); (try subst ze8); (try subst ze9); (refine zbk7 _ _ ?_); (clear zbk7 zP7); (intro zN9); (try k_lt zl1); (try k_lt2 zl2); (try dsimp only); (try k_sweep); (try k_fold))) | (k_here; k_dflt (refine' Ct.use' (bad_ct ?c1 ?c2 ?c3 ?c4) ?k1 ?k2 ?k3 ?k4 ?k5 ?kK ?kd ?ku ?_; walk_at "ct1"; (case k4 => k_asm); (case c1 => (refine' ⟨_, _, _, ?hm1, ?hm2⟩; (case hm1 => k_mem); (case hm2 => k_mem))); (case c2 => assumption); (case c3 => assumption); (case c4 => assumption); k_whole; (intro zh9 ztk9 zF9 zP7 zbk7 zr9 znw9); (rintro ⟨ze9, ze8⟩); (try subst ze8); (try subst ze9); (refine zbk7 _ _ ?_); (clear zbk7 zP7); (intro zN9); (try k_lt zl1); (try k_lt2 zl2); (try dsimp only); (try k_sweep); (try k_fold)))); k_steps)))
    all_goals (exfalso; have z := hno (by assumption); simp_all)
  case rest =>
    rintro b s9 ⟨rfl, tk9, rfl⟩
    (k_steps; (repeat' (unfold Hold; (first | (k_here; k_dflt (refine' Ct.use' mkHdrF_ct ?k1 ?k2 ?k3 ?k4 ?k5 ?kK ?kd ?ku ?_; walk_at "ct1"; (case k4 => k_asm); k_whole; (intro zh9 ztk9 zF9 zP7 zbk7 zr9 znw9); (rintro ⟨zx9, zdx9, zkh9, zn9, ze8, ze9, zl1, zl2⟩); (try subst ze8); (try subst ze9); (refine zbk7 _ _ ?_); (clear zbk7 zP7); (intro zN9); (try k_lt zl1); (try k_lt2 zl2); (try dsimp only); (try k_sweep); (try k_fold))) | (k_here; k_dflt (refine' Ct.use' (bad_ct ?c1 ?c2 ?c3 ?c4) ?k1 ?k2 ?k3 ?k4 ?k5 ?kK ?kd ?ku ?_; walk_at "ct1"; (case k4 => k_asm); (case c1 => (refine' ⟨_, _, _, ?hm1, ?hm2⟩; (case hm1 => k_mem); (case hm2 => k_mem))); (case c2 => assumption); (case c3 => assumption); (case c4 => assumption); k_whole; (intro zh9 ztk9 zF9 zP7 zbk7 zr9 znw9); (rintro ⟨ze9, ze8⟩); (try subst ze8); (try subst ze9); (refine zbk7 _ _ ?_); (clear zbk7 zP7); (intro zN9); (try k_lt zl1); (try k_lt2 zl2); (try dsimp only); (try k_sweep); (try k_fold)))); k_steps)))
    unfold Hold
    rename News _ _ _ _ => hN
    refine notin_one (by ktr_units) hwl hN (by k_mem) hk (by k_mem) ⟨_, _, _, _, _, rfl⟩ (by k_mem) ?_
    intro tk8
    (k_steps; (repeat' (unfold Hold; (first | (k_here; k_dflt (refine' Ct.use' mkHdrF_ct ?k1 ?k2 ?k3 ?k4 ?k5 ?kK ?kd ?ku ?_; walk_at "ct1"; (case k4 => k_asm); k_whole; (intro zh9 ztk9 zF9 zP7 zbk7 zr9 znw9); (rintro ⟨zx9, zdx9, zkh9, zn9, ze8, ze9, zl1, zl2⟩); (try subst ze8); (try subst ze9); (refine zbk7 _ _ ?_); (clear zbk7 zP7); (intro zN9); (try k_lt zl1); (try k_lt2 zl2); (try dsimp only); (try k_sweep); (try k_fold))) | (k_here; k_dflt (refine' Ct.use' (bad_ct ?c1 ?c2 ?c3 ?c4) ?k1 ?k2 ?k3 ?k4 ?k5 ?kK ?kd ?ku ?_; walk_at "ct1"; (case k4 => k_asm); (case c1 => (refine' ⟨_, _, _, ?hm1, ?hm2⟩; (case hm1 => k_mem); (case hm2 => k_mem))); (case c2 => assumption); (case c3 => assumption); (case c4 => assumption); k_whole; (intro zh9 ztk9 zF9 zP7 zbk7 zr9 znw9); (rintro ⟨ze9, ze8⟩); (try subst ze8); (try subst ze9); (refine zbk7 _ _ ?_); (clear zbk7 zP7); (intro zN9); (try k_lt zl1); (try k_lt2 zl2); (try dsimp only); (try k_sweep); (try k_fold)))); k_steps)))
    unfold Hold
    refine item_one (by ktr_units) hN (by k_mem) hk (by k_mem) ⟨_, _, _, _, _, rfl⟩ (by k_mem) ?_
    intro tk7
    (k_steps; (repeat' (unfold Hold; (first | (k_here; k_dflt (refine' Ct.use' mkHdrF_ct ?k1 ?k2 ?k3 ?k4 ?k5 ?kK ?kd ?ku ?_; walk_at "ct1"; (case k4 => k_asm); k_whole; (intro zh9 ztk9 zF9 zP7 zbk7 zr9 znw9); (rintro ⟨zx9, zdx9, zkh9, zn9, ze8, ze9, zl1, zl2⟩); (try subst ze8); (try subst ze9); (refine zbk7 _ _ ?_); (clear zbk7 zP7); (intro zN9); (try k_lt zl1); (try k_lt2 zl2); (try dsimp only); (try k_sweep); (try k_fold))) | (k_here; k_dflt (refine' Ct.use' (bad_ct ?c1 ?c2 ?c3 ?c4) ?k1 ?k2 ?k3 ?k4 ?k5 ?kK ?kd ?ku ?_; walk_at "ct1"; (case k4 => k_asm); (case c1 => (refine' ⟨_, _, _, ?hm1, ?hm2⟩; (case hm1 => k_mem); (case hm2 => k_mem))); (case c2 => assumption); (case c3 => assumption); (case c4 => assumption); k_whole; (intro zh9 ztk9 zF9 zP7 zbk7 zr9 znw9); (rintro ⟨ze9, ze8⟩); (try subst ze8); (try subst ze9); (refine zbk7 _ _ ?_); (clear zbk7 zP7); (intro zN9); (try k_lt zl1); (try k_lt2 zl2); (try dsimp only); (try k_sweep); (try k_fold)))); k_steps)))
    unfold Hold
    subst hM
    rename News _ _ _ _ => hN5
    refine pick_head hN5 ?_
    intro kt2 e2
    subst e2
    obtain ⟨ok2, hk2, hNA⟩ : ∃ (ok2 : Obj), KeyObj src tgt 17 ident ok2 ∧ News g L _ ((gq, dictOf (dgEs w hx pl (enV S.en te) (fstV S.fst) S.ah S.sz da ta ts) 8) :: m2 :: m3 :: (kt2, ok2) :: (tp ++ [(wl, dictOf (oneEs w src tgt 17 ident kt (.ref gx)) nw)])) :=
      ⟨_, ⟨_, _, _, _, 0, rfl⟩, cb_drop hN5 (List.forall_mem_cons.mpr ⟨.tail _ (.tail _ (.tail _ (.tail _ (.tail _ (.tail _ (.tail _ (.tail _ (.head _)))))))), List.forall_mem_cons.mpr ⟨.tail _ (.tail _ (.tail _ (.tail _ (.tail _ (.tail _ (.tail _ (.tail _ (.tail _ (.tail _ (.tail _ (.head _))))))))))), List.forall_mem_cons.mpr ⟨.tail _ (.tail _ (.tail _ (.tail _ (.tail _ (.tail _ (.tail _ (.tail _ (.tail _ (.tail _ (.tail _ (.tail _ (.head _)))))))))))), List.forall_mem_cons.mpr ⟨.head _, fun p hp => (List.mem_append.mp hp).elim (fun h => List.mem_cons_of_mem _ (List.mem_cons_of_mem _ (List.mem_cons_of_mem _ (List.mem_cons_of_mem _ (List.mem_cons_of_mem _ (List.mem_cons_of_mem _ (List.mem_cons_of_mem _ (List.mem_cons_of_mem _ (List.mem_cons_of_mem _ (List.mem_cons_of_mem _ (List.mem_cons_of_mem _ (List.mem_cons_of_mem _ (List.mem_cons_of_mem _ (h)))))))))))))) (fun h => by rw [List.mem_singleton.mp h]; exact .tail _ (.head _))⟩⟩⟩⟩)⟩
    have hDA : DgAt w gx d S (gq, dictOf (dgEs w hx pl (enV S.en te) (fstV S.fst) S.ah S.sz da ta ts) 8) m2 m3 ((kt2, ok2) :: tp) := by
      refine hideG ?_
      intro PZ bkZ
      obtain ⟨y1, y2, y3, y4, y5, y6⟩ := hD.kinds
      refine bkZ ?_
      clear bkZ PZ
      refine hD.grow (fun p hp => List.mem_cons_of_mem _ hp) (List.forall_mem_cons.mpr ⟨?_, y4⟩) (List.forall_mem_cons.mpr ⟨?_, y5⟩) (List.forall_mem_cons.mpr ⟨?_, y6⟩)
      · exact news_ne hNA (.tail _ (.tail _ (.tail _ (.head _)))) (.head _) (by rw [hk2.kind]; exact ty_ne (by decide))
      · exact news_ne hNA (.tail _ (.tail _ (.tail _ (.head _)))) (.tail _ (.head _)) (by rw [hk2.kind, y2]; exact ty_ne (by decide))
      · exact news_ne hNA (.tail _ (.tail _ (.tail _ (.head _)))) (.tail _ (.tail _ (.head _))) (by rw [hk2.kind, y3]; exact ty_ne (by decide))
    have hkw : kt2 ≠ wl := news_ne hNA (.tail _ (.tail _ (.tail _ (.head _)))) (.tail _ (.tail _ (.tail _ (.tail _ (List.mem_append_right _ (.head _)))))) (by rw [hk2.kind]; exact ty_ne (by decide))
    have hHA : HdrAt w ((kt2, ok2) :: tp) x ⟨src, tgt, ident, more, off⟩ := hH0.mono fun p hp => List.mem_cons_of_mem _ hp
    have sep1 : ∀ q ∈ _ :: m2 :: m3 :: (kt2, ok2) :: tp, wl ≠ q.1 := List.forall_mem_cons.mpr ⟨(owl _ (.head _)).symm, List.forall_mem_cons.mpr ⟨(owl _ (.tail _ (.head _))).symm, List.forall_mem_cons.mpr ⟨(owl _ (.tail _ (.tail _ (.head _)))).symm, List.forall_mem_cons.mpr ⟨hkw.symm, fun q hq => (owl q (.tail _ (.tail _ (.tail _ hq)))).symm⟩⟩⟩⟩
    (k_here; k_dflt (refine' Ct.use' (dput_ct (H := ⟨src, tgt, ident, more, off⟩) (S := S) (tp := (kt2, ok2) :: tp) (rest := [(wl, dictOf (oneEs w src tgt 17 ident kt (.ref gx)) nw)]) ?c1 ?c2 ?c3 ?c4 ?c5) ?k1 ?k2 ?k3 ?k4 ?k5 ?kK ?kd ?ku ?_; walk_at "ct1"; (case k4 => exact hNA); (case c1 => exact hDA); (case c2 => exact hHA); (case c3 => exact hb); (case c4 => exact ok9); (case c5 => exact List.forall_mem_cons.mpr ⟨fun q hq => sep1 q hq, fun _ h => nomatch h⟩); k_whole; (intro h9 tk9 F9 P7 bk7 r9 nw9); (rintro ⟨n0, e9, ⟨m1', m2', m3', tp', e8, rfl, hD', hsub'⟩, hsep'⟩); (try subst e8); (try subst e9); (refine bk7 _ _ ?_); (clear bk7 P7); (intro N9); (try k_lt l1); (try k_lt2 l2); (try dsimp only); (try k_sweep); (try k_fold)))
    have hD9 : DgAt w gx d S9 m1' m2' m3' tp' := hS9 ▸ hD'
    have hsub9 : ∀ p ∈ tp, p ∈ tp' := fun p hp => hsub' p (List.mem_cons_of_mem _ hp)
    have hk9 : (kt2, ok2) ∈ tp' := hsub' _ (.head _)
    have owl2 : ∀ p ∈ m1' :: m2' :: m3' :: tp', p.1 ≠ wl := fun p hp => hsep' p hp _ (.head _)
    clear hD' hD hDA hsub'
    try clear hNA
    clear hS9
    refine hideG ?_
    intro PZ bkZ
    obtain ⟨gq', pl', hx', da', ta', ts', te', hm1', g1'⟩ := hD9.inst
    refine bkZ ?_
    clear bkZ PZ
    subst hm1'
    have up9 : ∀ p ∈ tp', p ∈ ((gq', dictOf (dgEs w hx' pl' (enV S9.en te') (fstV S9.fst) S9.ah S9.sz da' ta' ts') 8) :: m2' :: m3' :: tp') ++ [(wl, dictOf (oneEs w src tgt 17 ident kt (.ref gx)) nw)] := fun p hp => List.mem_append_left _ (List.mem_cons_of_mem _ (List.mem_cons_of_mem _ (List.mem_cons_of_mem _ (hp))))
    have hNB := cb_drop (news := (wl, dictOf (oneEs w src tgt 17 ident kt (.ref gx)) nw) :: (rx, instObj 451 rq) :: (rq, dictOf (raEs w wl q0 q1 q2 q3 u0 u1 u2) 4) :: (kt, ok) :: (kt2, ok2) :: (gx, instObj 368 gq') :: (gq', dictOf (dgEs w hx' pl' (enV S9.en te') (fstV S9.fst) S9.ah S9.sz da' ta' ts') 8) :: (((gq', dictOf (dgEs w hx' pl' (enV S9.en te') (fstV S9.fst) S9.ah S9.sz da' ta' ts') 8) :: m2' :: m3' :: tp') ++ [(wl, dictOf (oneEs w src tgt 17 ident kt (.ref gx)) nw)])) N9 (List.forall_mem_cons.mpr ⟨List.mem_append_right _ (.head _), List.forall_mem_cons.mpr ⟨up9 _ (hsub9 _ r1), List.forall_mem_cons.mpr ⟨up9 _ (hsub9 _ r2), List.forall_mem_cons.mpr ⟨up9 _ (hsub9 _ hko), List.forall_mem_cons.mpr ⟨up9 _ hk9, List.forall_mem_cons.mpr ⟨up9 _ g1', List.forall_mem_cons.mpr ⟨List.mem_append_left _ (.head _), fun p hp => hp⟩⟩⟩⟩⟩⟩⟩)
    clear N9
    have up9b : ∀ p ∈ (gq', dictOf (dgEs w hx' pl' (enV S9.en te') (fstV S9.fst) S9.ah S9.sz da' ta' ts') 8) :: m2' :: m3' :: tp', p ∈ ((gq', dictOf (dgEs w hx' pl' (enV S9.en te') (fstV S9.fst) S9.ah S9.sz da' ta' ts') 8) :: m2' :: m3' :: tp') ++ [(wl, dictOf (oneEs w src tgt 17 ident kt (.ref gx)) nw)] := fun p hp => List.mem_append_left _ hp
    generalize ((gq', dictOf (dgEs w hx' pl' (enV S9.en te') (fstV S9.fst) S9.ah S9.sz da' ta' ts') 8) :: m2' :: m3' :: tp') ++ [(wl, dictOf (oneEs w src tgt 17 ident kt (.ref gx)) nw)] = M9 at hNB up9 up9b
    (k_steps; (repeat' (unfold Hold; (first | (k_here; k_dflt (refine' Ct.use' mkHdrF_ct ?k1 ?k2 ?k3 ?k4 ?k5 ?kK ?kd ?ku ?_; walk_at "ct1"; (case k4 => k_asm); k_whole; (intro zh9 ztk9 zF9 zP7 zbk7 zr9 znw9); (rintro ⟨zx9, zdx9, zkh9, zn9, ze8, ze9, zl1, zl2⟩); (try subst ze8); (try subst ze9); (refine zbk7 _ _ ?_); (clear zbk7 zP7); (intro zN9); (try k_lt zl1); (try k_lt2 zl2); (try dsimp only); (try k_sweep); (try k_fold))) | (k_here; k_dflt (refine' Ct.use' (bad_ct ?c1 ?c2 ?c3 ?c4) ?k1 ?k2 ?k3 ?k4 ?k5 ?kK ?kd ?ku ?_; walk_at "ct1"; (case k4 => k_asm); (case c1 => (refine' ⟨_, _, _, ?hm1, ?hm2⟩; (case hm1 => k_mem); (case hm2 => k_mem))); (case c2 => assumption); (case c3 => assumption); (case c4 => assumption); k_whole; (intro zh9 ztk9 zF9 zP7 zbk7 zr9 znw9); (rintro ⟨ze9, ze8⟩); (try subst ze8); (try subst ze9); (refine zbk7 _ _ ?_); (clear zbk7 zP7); (intro zN9); (try k_lt zl1); (try k_lt2 zl2); (try dsimp only); (try k_sweep); (try k_fold)))); k_steps)))
    unfold Hold
    (k_here; k_dflt (refine' Ct.use' (whole_ct (S := S9) ?c1 ?c2) ?k1 ?k2 ?k3 ?k4 ?k5 ?kK ?kd ?ku ?_; walk_at "ct1"; (case k4 => k_asm); (case c1 => exact hD9); (case c2 => exact fun p hp => List.mem_cons_of_mem _ (List.mem_cons_of_mem _ (List.mem_cons_of_mem _ (List.mem_cons_of_mem _ (List.mem_cons_of_mem _ (List.mem_cons_of_mem _ (List.mem_cons_of_mem _ (up9b p hp)))))))); k_whole; (intro h9 tk9 F9 P7 bk7 r9 nw9); (rintro ⟨e9, e8⟩); (try subst e8); (try subst e9); (refine bk7 _ _ ?_); (clear bk7 P7); (intro N9); (try k_lt l1); (try k_lt2 l2); (try dsimp only); (try k_sweep); (try k_fold)))
    have hwh : (S9.en.isSome && S9.fst.isSome && S9.rows.isEmpty) = isWh S9 := rfl
    rw [hwh]
    cases hw : isWh S9 with
    | false =>
      (k_steps; (repeat' (unfold Hold; (first | (k_here; k_dflt (refine' Ct.use' mkHdrF_ct ?k1 ?k2 ?k3 ?k4 ?k5 ?kK ?kd ?ku ?_; walk_at "ct1"; (case k4 => k_asm); k_whole; (intro zh9 ztk9 zF9 zP7 zbk7 zr9 znw9); (rintro ⟨zx9, zdx9, zkh9, zn9, ze8, ze9, zl1, zl2⟩); (try subst ze8); (try subst ze9); (refine zbk7 _ _ ?_); (clear zbk7 zP7); (intro zN9); (try k_lt zl1); (try k_lt2 zl2); (try dsimp only); (try k_sweep); (try k_fold))) | (k_here; k_dflt (refine' Ct.use' (bad_ct ?c1 ?c2 ?c3 ?c4) ?k1 ?k2 ?k3 ?k4 ?k5 ?kK ?kd ?ku ?_; walk_at "ct1"; (case k4 => k_asm); (case c1 => (refine' ⟨_, _, _, ?hm1, ?hm2⟩; (case hm1 => k_mem); (case hm2 => k_mem))); (case c2 => assumption); (case c3 => assumption); (case c4 => assumption); k_whole; (intro zh9 ztk9 zF9 zP7 zbk7 zr9 znw9); (rintro ⟨ze9, ze8⟩); (try subst ze8); (try subst ze9); (refine zbk7 _ _ ?_); (clear zbk7 zP7); (intro zN9); (try k_lt zl1); (try k_lt2 zl2); (try dsimp only); (try k_sweep); (try k_fold)))); k_steps)))
      unfold Hold
      rename News _ _ _ _ => hN
      (k_here; k_dflt (refine' Ct.use' (mroom_ct ?c1 ?c2 ?c3 ?c4 ?c5 ?c6 ?c7 ?c8 ?c9 ?c10) ?k1 ?k2 ?k3 ?k4 ?k5 ?kK ?kd ?ku ?_; walk_at "ct1"; (case k4 => k_asm); (case c1 => k_mem); (case c2 => k_mem); (case c3 => k_mem); (case c4 => k_mem); (case c5 => exact hk); (case c6 => exact hwl); (case c7 => k_mem); (case c8 => k_mem); (case c9 => exact hsz0); (case c10 => exact hsz1); k_whole; (intro h9 tk9 F9 P7 bk7 r9 nw9); (rintro ⟨e9, e8⟩); (try subst e8); (try subst e9); (refine bk7 _ _ ?_); (clear bk7 P7); (intro N9); (try k_lt l1); (try k_lt2 l2); (try dsimp only); (try k_sweep); (try k_fold)))
      (k_steps; (repeat' (unfold Hold; (first | (k_here; k_dflt (refine' Ct.use' mkHdrF_ct ?k1 ?k2 ?k3 ?k4 ?k5 ?kK ?kd ?ku ?_; walk_at "ct1"; (case k4 => k_asm); k_whole; (intro zh9 ztk9 zF9 zP7 zbk7 zr9 znw9); (rintro ⟨zx9, zdx9, zkh9, zn9, ze8, ze9, zl1, zl2⟩); (try subst ze8); (try subst ze9); (refine zbk7 _ _ ?_); (clear zbk7 zP7); (intro zN9); (try k_lt zl1); (try k_lt2 zl2); (try dsimp only); (try k_sweep); (try k_fold))) | (k_here; k_dflt (refine' Ct.use' (bad_ct ?c1 ?c2 ?c3 ?c4) ?k1 ?k2 ?k3 ?k4 ?k5 ?kK ?kd ?ku ?_; walk_at "ct1"; (case k4 => k_asm); (case c1 => (refine' ⟨_, _, _, ?hm1, ?hm2⟩; (case hm1 => k_mem); (case hm2 => k_mem))); (case c2 => assumption); (case c3 => assumption); (case c4 => assumption); k_whole; (intro zh9 ztk9 zF9 zP7 zbk7 zr9 znw9); (rintro ⟨ze9, ze8⟩); (try subst ze8); (try subst ze9); (refine zbk7 _ _ ?_); (clear zbk7 zP7); (intro zN9); (try k_lt zl1); (try k_lt2 zl2); (try dsimp only); (try k_sweep); (try k_fold)))); k_steps)))
      rename News _ _ _ _ => hN
      rename Fr _ _ _ _ => hF
      refine bkz _ _ <| CtRet.intro hF (cb_drop (news := (wl, dictOf (oneEs w src tgt 17 ident kt (.ref gx)) nw) :: (gq', dictOf (dgEs w hx' pl' (enV S9.en te') (fstV S9.fst) S9.ah S9.sz da' ta' ts') 8) :: m2' :: m3' :: tp') hN (List.forall_mem_cons.mpr ⟨.head _, fun p hp => List.mem_cons_of_mem _ (List.mem_cons_of_mem _ (List.mem_cons_of_mem _ (List.mem_cons_of_mem _ (List.mem_cons_of_mem _ (List.mem_cons_of_mem _ (List.mem_cons_of_mem _ (up9b p hp)))))))⟩)) (.inl ⟨hw, rfl, _, _, _, _, rfl, hD9, hsub9, owl2⟩)
    | true =>
      refine hideG ?_
      intro PZ bkZ
      obtain ⟨⟨x0, mo, o0, hf0, hf1⟩, ⟨en9, he0, he1, he2⟩, p2, p6, ppw, psu⟩ := hfin hw
      refine bkZ ?_
      clear bkZ PZ
      refine hideG ?_
      intro PZ bkZ
      obtain ⟨dx0, y0, n9, hx1, hx2⟩ := hf1
      refine bkZ ?_
      clear bkZ PZ
      rename News _ _ _ _ => hN
      have hNC := cb_drop (news := (x0, instObj 155 dx0) :: (dx0, dictOf (hdrEs w ⟨src, tgt, ident, mo, o0⟩ y0) n9) :: _) hN (List.forall_mem_cons.mpr ⟨List.mem_cons_of_mem _ (List.mem_cons_of_mem _ (List.mem_cons_of_mem _ (List.mem_cons_of_mem _ (List.mem_cons_of_mem _ (List.mem_cons_of_mem _ (List.mem_cons_of_mem _ (up9 _ (hsub9 _ hx1)))))))), List.forall_mem_cons.mpr ⟨List.mem_cons_of_mem _ (List.mem_cons_of_mem _ (List.mem_cons_of_mem _ (List.mem_cons_of_mem _ (List.mem_cons_of_mem _ (List.mem_cons_of_mem _ (List.mem_cons_of_mem _ (up9 _ (hsub9 _ hx2)))))))), fun p hp => hp⟩⟩)
      clear hN
      have og9 : gq' ≠ wl := owl2 _ (.head _)
      rw [he0, hf0] at hNC
      dsimp only [enV, fstV] at hNC
      (k_steps; (repeat' (unfold Hold; (first | (k_here; k_dflt (refine' Ct.use' mkHdrF_ct ?k1 ?k2 ?k3 ?k4 ?k5 ?kK ?kd ?ku ?_; walk_at "ct1"; (case k4 => k_asm); k_whole; (intro zh9 ztk9 zF9 zP7 zbk7 zr9 znw9); (rintro ⟨zx9, zdx9, zkh9, zn9, ze8, ze9, zl1, zl2⟩); (try subst ze8); (try subst ze9); (refine zbk7 _ _ ?_); (clear zbk7 zP7); (intro zN9); (try k_lt zl1); (try k_lt2 zl2); (try dsimp only); (try k_sweep); (try k_fold))) | (k_here; k_dflt (refine' Ct.use' (bad_ct ?c1 ?c2 ?c3 ?c4) ?k1 ?k2 ?k3 ?k4 ?k5 ?kK ?kd ?ku ?_; walk_at "ct1"; (case k4 => k_asm); (case c1 => (refine' ⟨_, _, _, ?hm1, ?hm2⟩; (case hm1 => k_mem); (case hm2 => k_mem))); (case c2 => assumption); (case c3 => assumption); (case c4 => assumption); k_whole; (intro zh9 ztk9 zF9 zP7 zbk7 zr9 znw9); (rintro ⟨ze9, ze8⟩); (try subst ze8); (try subst ze9); (refine zbk7 _ _ ?_); (clear zbk7 zP7); (intro zN9); (try k_lt zl1); (try k_lt2 zl2); (try dsimp only); (try k_sweep); (try k_fold)))); k_steps)))
      unfold Hold
      rename News _ _ _ _ => hN
      rename Fr _ _ _ _ => hF
      refine pop_one (rest := (x0, instObj 155 dx0) :: (dx0, dictOf (hdrEs w ⟨src, tgt, ident, mo, o0⟩ y0) n9) :: (rx, instObj 451 rq) :: (rq, dictOf (raEs w wl q0 q1 q2 q3 u0 u1 u2) 4) :: (kt, ok) :: (kt2, ok2) :: (gx, instObj 368 gq') :: (gq', dictOf (dgEs w hx' pl' (.int en9 te') (.ref x0) S9.ah S9.sz da' ta' ts') 8) :: ((gq', dictOf (dgEs w hx' pl' (enV S9.en te') (fstV S9.fst) S9.ah S9.sz da' ta' ts') 8) :: m2' :: m3' :: tp')) (by ktr_units) hF hN (by k_mem) hk (by k_mem) hk2 (by k_mem) (List.forall_mem_cons.mpr ⟨.head _, List.forall_mem_cons.mpr ⟨.tail _ (.head _), List.forall_mem_cons.mpr ⟨.tail _ (.tail _ (.tail _ (.head _))), List.forall_mem_cons.mpr ⟨.tail _ (.tail _ (.tail _ (.tail _ (.head _)))), List.forall_mem_cons.mpr ⟨.tail _ (.tail _ (.tail _ (.tail _ (.tail _ (.head _))))), List.forall_mem_cons.mpr ⟨.tail _ (.tail _ (.tail _ (.tail _ (.tail _ (.tail _ (.head _)))))), List.forall_mem_cons.mpr ⟨.tail _ (.tail _ (.tail _ (.tail _ (.tail _ (.tail _ (.tail _ (.head _))))))), List.forall_mem_cons.mpr ⟨.tail _ (.tail _ (.tail _ (.tail _ (.tail _ (.tail _ (.tail _ (.tail _ (.head _)))))))), fun p hp => List.mem_cons_of_mem _ (List.mem_cons_of_mem _ (List.mem_cons_of_mem _ (List.mem_cons_of_mem _ (List.mem_cons_of_mem _ (List.mem_cons_of_mem _ (List.mem_cons_of_mem _ (List.mem_cons_of_mem _ (List.mem_cons_of_mem _ (up9b p hp)))))))))⟩⟩⟩⟩⟩⟩⟩⟩) (List.forall_mem_cons.mpr ⟨owl2 _ (List.mem_cons_of_mem _ (List.mem_cons_of_mem _ (List.mem_cons_of_mem _ (hsub9 _ hx1)))), List.forall_mem_cons.mpr ⟨owl2 _ (List.mem_cons_of_mem _ (List.mem_cons_of_mem _ (List.mem_cons_of_mem _ (hsub9 _ hx2)))), List.forall_mem_cons.mpr ⟨owl2 _ (List.mem_cons_of_mem _ (List.mem_cons_of_mem _ (List.mem_cons_of_mem _ (hsub9 _ r1)))), List.forall_mem_cons.mpr ⟨owl2 _ (List.mem_cons_of_mem _ (List.mem_cons_of_mem _ (List.mem_cons_of_mem _ (hsub9 _ r2)))), List.forall_mem_cons.mpr ⟨owl2 _ (List.mem_cons_of_mem _ (List.mem_cons_of_mem _ (List.mem_cons_of_mem _ (hsub9 _ hko)))), List.forall_mem_cons.mpr ⟨owl2 _ (List.mem_cons_of_mem _ (List.mem_cons_of_mem _ (List.mem_cons_of_mem _ (hk9)))), List.forall_mem_cons.mpr ⟨owl2 _ (List.mem_cons_of_mem _ (List.mem_cons_of_mem _ (List.mem_cons_of_mem _ (g1')))), List.forall_mem_cons.mpr ⟨og9, owl2⟩⟩⟩⟩⟩⟩⟩⟩) ?_
      intro h7 n7 tk7 F7 N7
      clear hN hF
      (k_steps; (repeat' (unfold Hold; (first | (k_here; k_dflt (refine' Ct.use' mkHdrF_ct ?k1 ?k2 ?k3 ?k4 ?k5 ?kK ?kd ?ku ?_; walk_at "ct1"; (case k4 => k_asm); k_whole; (intro zh9 ztk9 zF9 zP7 zbk7 zr9 znw9); (rintro ⟨zx9, zdx9, zkh9, zn9, ze8, ze9, zl1, zl2⟩); (try subst ze8); (try subst ze9); (refine zbk7 _ _ ?_); (clear zbk7 zP7); (intro zN9); (try k_lt zl1); (try k_lt2 zl2); (try dsimp only); (try k_sweep); (try k_fold))) | (k_here; k_dflt (refine' Ct.use' (bad_ct ?c1 ?c2 ?c3 ?c4) ?k1 ?k2 ?k3 ?k4 ?k5 ?kK ?kd ?ku ?_; walk_at "ct1"; (case k4 => k_asm); (case c1 => (refine' ⟨_, _, _, ?hm1, ?hm2⟩; (case hm1 => k_mem); (case hm2 => k_mem))); (case c2 => assumption); (case c3 => assumption); (case c4 => assumption); k_whole; (intro zh9 ztk9 zF9 zP7 zbk7 zr9 znw9); (rintro ⟨ze9, ze8⟩); (try subst ze8); (try subst ze9); (refine zbk7 _ _ ?_); (clear zbk7 zP7); (intro zN9); (try k_lt zl1); (try k_lt2 zl2); (try dsimp only); (try k_sweep); (try k_fold)))); k_steps)))
      · exfalso
        rename (65535 < _ + _ + _) => hbig
        have hz : (#[] : Array UInt8).size = 0 := rfl
        rw [hz] at hbig
        omega
      · unfold Hold
        rename News _ _ _ _ => hN
        (k_here; k_dflt (refine' Ct.use' (octs_ct (S := S9) ?c1 ?c2 ?c3 ?c4 ?c5 ?c6) ?k1 ?k2 ?k3 ?k4 ?k5 ?kK ?kd ?ku ?_; walk_at "ct1"; (case k4 => k_asm); (case c1 => exact hD9); (case c2 => exact fun p hp => List.mem_cons_of_mem _ (List.mem_cons_of_mem _ (List.mem_cons_of_mem _ (List.mem_cons_of_mem _ (List.mem_cons_of_mem _ (List.mem_cons_of_mem _ (List.mem_cons_of_mem _ (List.mem_cons_of_mem _ (List.mem_cons_of_mem _ (List.mem_cons_of_mem _ (List.mem_cons_of_mem _ (hp)))))))))))); (case c3 => exact p2); (case c4 => exact p6); (case c5 => exact ppw); (case c6 => exact psu); k_whole; (intro h9 tk9 F9 P7 bk7 r9 nw9); (rintro ⟨e9, b9, tb9, e8, hb9⟩); (try subst e8); (try subst e9); (refine bk7 _ _ ?_); (clear bk7 P7); (intro N9); (try k_lt l1); (try k_lt2 l2); (try dsimp only); (try k_sweep); (try k_fold)))
        (k_steps; (repeat' (unfold Hold; (first | (k_here; k_dflt (refine' Ct.use' mkHdrF_ct ?k1 ?k2 ?k3 ?k4 ?k5 ?kK ?kd ?ku ?_; walk_at "ct1"; (case k4 => k_asm); k_whole; (intro zh9 ztk9 zF9 zP7 zbk7 zr9 znw9); (rintro ⟨zx9, zdx9, zkh9, zn9, ze8, ze9, zl1, zl2⟩); (try subst ze8); (try subst ze9); (refine zbk7 _ _ ?_); (clear zbk7 zP7); (intro zN9); (try k_lt zl1); (try k_lt2 zl2); (try dsimp only); (try k_sweep); (try k_fold))) | (k_here; k_dflt (refine' Ct.use' (bad_ct ?c1 ?c2 ?c3 ?c4) ?k1 ?k2 ?k3 ?k4 ?k5 ?kK ?kd ?ku ?_; walk_at "ct1"; (case k4 => k_asm); (case c1 => (refine' ⟨_, _, _, ?hm1, ?hm2⟩; (case hm1 => k_mem); (case hm2 => k_mem))); (case c2 => assumption); (case c3 => assumption); (case c4 => assumption); k_whole; (intro zh9 ztk9 zF9 zP7 zbk7 zr9 znw9); (rintro ⟨ze9, ze8⟩); (try subst ze8); (try subst ze9); (refine zbk7 _ _ ?_); (clear zbk7 zP7); (intro zN9); (try k_lt zl1); (try k_lt2 zl2); (try dsimp only); (try k_sweep); (try k_fold)))); k_steps)))
        rename News _ _ _ _ => hN
        rename Fr _ _ _ _ => hF
        refine bkz _ _ <| CtRet.intro hF hN (.inr ⟨hw, _, _, b9, _, 0, rfl, .head _, by (refine' ⟨_, _, _, ?hm1, ?hm2⟩; (case hm1 => k_mem); (case hm2 => k_mem)), hb9, fun p hp => List.mem_cons_of_mem _ (List.mem_cons_of_mem _ (List.mem_cons_of_mem _ (List.mem_cons_of_mem _ (List.mem_cons_of_mem _ (List.mem_cons_of_mem _ (List.mem_cons_of_mem _ (List.mem_cons_of_mem _ (List.mem_cons_of_mem _ (List.mem_cons_of_mem _ (List.mem_cons_of_mem _ (List.mem_cons_of_mem _ (List.mem_cons_of_mem _ (List.mem_cons_of_mem _ (List.mem_cons_of_mem _ (hsub9 p hp)))))))))))))))⟩)
end
end
-- RPutN
section
example : True := by
  w_top off
  trivial
theorem pick_key {h₀ h : Heap} {L a : Addr} {o : Obj} {rest : Led} {G : Prop} {src tgt ident : Int} (N : News h₀ L h ((a, o) :: rest)) (hk : KeyObj src tgt 17 ident o) (k : ∀ (b : Addr) (o' : Obj), KeyObj src tgt 17 ident o' → b = a → News h₀ L h ((b, o') :: rest) → G) : G := k a o hk rfl N
/-- what Reassembly.put leaves behind of the first piece -/
def PutNew (w : World) (wl : Addr) (d src tgt ident : Int) (tp : Led) (S : DgSt) (r : Value) (n0 : Led) : Prop :=
  r = .none ∧ ∃ gx kt ok nw' m1' m2' m3' tp', KeyObj src tgt 17 ident ok ∧ (kt, ok) ∈ tp' ∧ n0 = (wl, dictOf (oneEs w src tgt 17 ident kt (.ref gx)) nw') :: m1' :: m2' :: m3' :: tp' ∧ DgAt w gx d S m1' m2' m3' tp' ∧ (∀ p ∈ tp, p ∈ tp') ∧ ∀ p ∈ m1' :: m2' :: m3' :: tp', p.1 ≠ wl
section
local macro_rules | `(tactic| walk_at "getMethod ref") => `(tactic| (k_here; (with_reducible show wpAny _ _ (getMethod (Value.ref _) (Str.ofString "pop") _) _ _ _); (k_dflt (refine getMethod_dpop (by k_asm) (by k_mem) ?_))))
local macro_rules | `(tactic| walk_at "setItem ref ref ref") => `(tactic| walk_at "hold")
local macro_rules | `(tactic| walk_at "isTrue BoolOp") => `(tactic| ((with_reducible rename StopB => sb9); clear sb9; refine Hold.on ?_))
local macro_rules | `(tactic| walk_at "subscriptTail") => `(tactic| (k_here; (with_reducible show wpAny _ _ (subscriptTail _ _ (Value.ref _) (Value.ref _)) _ _ _); (k_dflt (refine Hold.on ?_))))
local macro_rules | `(tactic| walk_at "compareOp NotIn ref ref") => `(tactic| (k_here; (with_reducible show wpAny _ _ (compareOp CmpOp.NotIn (Value.ref _) (Value.ref _)) _ _ _); (k_dflt (refine Hold.on ?_))))
local macro_rules | `(tactic| walk_at "call builtin:dict.pop") => `(tactic| walk_at "hold")
set_option maxHeartbeats 16000000 in
theorem rput_new {w : World} {rx wl x : Addr} {d : Int} {tp rest : Led} {src tgt ident off : Int} {more : Bool} {pb : Array UInt8} {len nw : Nat} {tk tn : Tok}
    (hR : RaAt w rx wl tp) (hH : HdrAt w tp x ⟨src, tgt, ident, more, off⟩) (hb : KBw.bInts pb = List.replicate len d) (ok9 : PutOk S0 off len more)
    (hno : off = 0 → more = true) {S9 : DgSt} (hS9 : dstep S0 off len more x = S9) (hsz0 : 0 ≤ S9.sz) (hsz1 : S9.sz ≤ 999) (hw : isWh S9 = false) (hbad : more = true → 0 < len ∧ len % 8 = 0) (owl : ∀ p ∈ tp, p.1 ≠ wl)
    (ha : ∀ p ∈ rest, ∀ q ∈ (wl, dictOf [] nw) :: tp, p.1 ≠ q.1) :
    Ct w 415 [.ref rx, .ref x, .bytes pb tk, .int 1 tn] (((wl, dictOf [] nw) :: tp) ++ rest) 70 (fun r n' => ∃ n0, n' = n0 ++ rest ∧ PutNew w wl d src tgt ident tp S9 r n0 ∧ ∀ p ∈ n0, ∀ q ∈ rest, p.1 ≠ q.1) := by
  refine' Ct.rw ?ho ?hcd ?hbind ?hloc ?hco ?hgen ?hk ?hcell ?hap ?hb
  case ho => k_is
  case hcd => k_is
  case hbind => (intro s hX; first | exact BindsTo.of_eq rfl | exact binds_K hX rfl (by k_is) rfl rfl rfl)
  case hloc => exact locs rfl
  case hco => exact rfl
  case hgen => exact rfl
  case hk => exact rfl
  case hcell => decide
  case hap => exact ha
  case hb =>
  unfold Bd
  intro mean mg mb dp un gd outer A₀ base g L s B F X N T hd hu
  refine hideQ ?_
  intro Qz bkz
  (try dsimp only)
  have hq9 : HoldAt [346, 353, 434, 358, 368, 155, 393] := .mk
  have hR0 := hR
  have hH0 := hH
  refine hideG ?_
  intro PZ bkZ
  obtain ⟨rq, q0, q1, q2, q3, u0, u1, u2, r1, r2, hwl⟩ := hR
  refine bkZ ?_
  clear bkZ PZ
  refine hideG ?_
  intro PZ bkZ
  obtain ⟨dx, kh, n, x1, x2⟩ := hH
  refine bkZ ?_
  clear bkZ PZ
  have N2 : News g L s.heap ((wl, dictOf [] nw) :: (rx, instObj 451 rq) :: (rq, dictOf (raEs w wl q0 q1 q2 q3 u0 u1 u2) 4) :: (x, instObj 155 dx) :: (dx, dictOf (hdrEs w ⟨src, tgt, ident, more, off⟩ kh) n) :: tp) :=
    cb_drop N (List.forall_mem_cons.mpr ⟨.head _, List.forall_mem_cons.mpr ⟨.tail _ r1, List.forall_mem_cons.mpr ⟨.tail _ r2, List.forall_mem_cons.mpr ⟨.tail _ x1, List.forall_mem_cons.mpr ⟨.tail _ x2, fun p hp => .tail _ hp⟩⟩⟩⟩⟩)
  clear N
  have hbad9 : more = true → 0 < (List.replicate len d).length ∧ (List.replicate len d).length % 8 = 0 := by rw [List.length_replicate]; exact hbad
  have hlen9 : (List.replicate len d).length ≤ 60000 := by
    have z1 := ok9.o1
    have z2 := ok9.o2
    rw [List.length_replicate]; omega
  have sb := StopB.go
  (k_steps; (repeat' (unfold Hold; (first | (k_here; k_dflt (refine' Ct.use' mkHdrF_ct ?k1 ?k2 ?k3 ?k4 ?k5 ?kK ?kd ?ku ?_; walk_at "ct1"; (case k4 => k_asm); k_whole; (intro zh9 ztk9 zF9 zP7 zbk7 zr9 znw9); (rintro ⟨zx9, zdx9, zkh9, zn9, ze8, ze9, zl1, zl2⟩); (try subst ze8); (try subst ze9); (refine zbk7 _ _ ?_); (clear zbk7 zP7); (intro zN9); (try k_lt zl1); (try k_lt2 zl2); (try dsimp only); (try k_sweep); (try k_fold))) | (k_here; k_dflt (refine' Ct.use' (bad_ct ?c1 ?c2 ?c3 ?c4) ?k1 ?k2 ?k3 ?k4 ?k5 ?kK ?kd ?ku ?_; walk_at "ct1"; (case k4 => k_asm); (case c1 => (refine' ⟨_, _, _, ?hm1, ?hm2⟩; (case hm1 => k_mem); (case hm2 => k_mem))); (case c2 => assumption); (case c3 => assumption); (case c4 => assumption); k_whole; (intro zh9 ztk9 zF9 zP7 zbk7 zr9 znw9); (rintro ⟨ze9, ze8⟩); (try subst ze8); (try subst ze9); (refine zbk7 _ _ ?_); (clear zbk7 zP7); (intro zN9); (try k_lt zl1); (try k_lt2 zl2); (try dsimp only); (try k_sweep); (try k_fold)))); k_steps)))
  unfold Hold
  refine wpAny_mono (Q := fun b s9 => b = false ∧ ∃ tk, s9 = { s with toks := tk }) ?test ?rest (fun _ _ e => e)
  case test =>
    (k_steps; (repeat' (unfold Hold; (first | (k_here; k_dflt (refine' Ct.use' mkHdrF_ct ?k1 ?k2 ?k3 ?k4 ?k5 ?kK ?kd ?ku ?_; walk_at "ct1"; (case k4 => k_asm); k_whole; (intro zh9 ztk9 zF9 zP7 zbk7 zr9 znw9); (rintro ⟨zx9, zdx9, zkh9, zn9, ze8, ze9, zl1, zl2⟩); (try subst ze8); (try subst ze9); (refine zbk7 _ _ ?_); (clear zbk7 zP7); (intro zN9); (try k_lt zl1); (try k_lt2 zl2); (try dsimp only); (try k_sweep); (try k_fold))) | (k_here; k_dflt (refine' Ct.use' (bad_ct ?c1 ?c2 ?c3 ?c4) ?k1 ?k2 ?k3 ?k4 ?k5 ?kK ?kd ?ku ?_; walk_at "ct1"; (case k4 => k_asm); (case c1 => (refine' ⟨_, _, _, ?hm1, ?hm2⟩; (case hm1 => k_mem); (case hm2 => k_mem))); (case c2 => assumption); (case c3 => assumption); (case c4 => assumption); k_whole; (intro zh9 ztk9 zF9 zP7 zbk7 zr9 znw9); (rintro ⟨ze9, ze8⟩); (try subst ze8); (try subst ze9); (refine zbk7 _ _ ?_); (clear zbk7 zP7); (intro zN9); (try k_lt zl1); (try k_lt2 zl2); (try dsimp only); (try k_sweep); (try k_fold)))); k_steps)))
    all_goals (exfalso; have z := hno (by assumption); simp_all)
  case rest =>
    rintro b s9 ⟨rfl, tk9, rfl⟩
    (k_steps; (repeat' (unfold Hold; (first | (k_here; k_dflt (refine' Ct.use' mkHdrF_ct ?k1 ?k2 ?k3 ?k4 ?k5 ?kK ?kd ?ku ?_; walk_at "ct1"; (case k4 => k_asm); k_whole; (intro zh9 ztk9 zF9 zP7 zbk7 zr9 znw9); (rintro ⟨zx9, zdx9, zkh9, zn9, ze8, ze9, zl1, zl2⟩); (try subst ze8); (try subst ze9); (refine zbk7 _ _ ?_); (clear zbk7 zP7); (intro zN9); (try k_lt zl1); (try k_lt2 zl2); (try dsimp only); (try k_sweep); (try k_fold))) | (k_here; k_dflt (refine' Ct.use' (bad_ct ?c1 ?c2 ?c3 ?c4) ?k1 ?k2 ?k3 ?k4 ?k5 ?kK ?kd ?ku ?_; walk_at "ct1"; (case k4 => k_asm); (case c1 => (refine' ⟨_, _, _, ?hm1, ?hm2⟩; (case hm1 => k_mem); (case hm2 => k_mem))); (case c2 => assumption); (case c3 => assumption); (case c4 => assumption); k_whole; (intro zh9 ztk9 zF9 zP7 zbk7 zr9 znw9); (rintro ⟨ze9, ze8⟩); (try subst ze8); (try subst ze9); (refine zbk7 _ _ ?_); (clear zbk7 zP7); (intro zN9); (try k_lt zl1); (try k_lt2 zl2); (try dsimp only); (try k_sweep); (try k_fold)))); k_steps)))
    unfold Hold
    rename News _ _ _ _ => hN
    refine pick_key (src := src) (tgt := tgt) (ident := ident) hN ⟨_, _, _, _, 0, rfl⟩ ?_
    intro kt ok hk e2 hN5
    clear hN
    subst e2
    refine notin_none (by ktr_units) hwl hN5 (by k_mem) hk (by k_mem) ?_
    intro tk8
    (k_steps; (repeat' (unfold Hold; (first | (k_here; k_dflt (refine' Ct.use' mkHdrF_ct ?k1 ?k2 ?k3 ?k4 ?k5 ?kK ?kd ?ku ?_; walk_at "ct1"; (case k4 => k_asm); k_whole; (intro zh9 ztk9 zF9 zP7 zbk7 zr9 znw9); (rintro ⟨zx9, zdx9, zkh9, zn9, ze8, ze9, zl1, zl2⟩); (try subst ze8); (try subst ze9); (refine zbk7 _ _ ?_); (clear zbk7 zP7); (intro zN9); (try k_lt zl1); (try k_lt2 zl2); (try dsimp only); (try k_sweep); (try k_fold))) | (k_here; k_dflt (refine' Ct.use' (bad_ct ?c1 ?c2 ?c3 ?c4) ?k1 ?k2 ?k3 ?k4 ?k5 ?kK ?kd ?ku ?_; walk_at "ct1"; (case k4 => k_asm); (case c1 => (refine' ⟨_, _, _, ?hm1, ?hm2⟩; (case hm1 => k_mem); (case hm2 => k_mem))); (case c2 => assumption); (case c3 => assumption); (case c4 => assumption); k_whole; (intro zh9 ztk9 zF9 zP7 zbk7 zr9 znw9); (rintro ⟨ze9, ze8⟩); (try subst ze8); (try subst ze9); (refine zbk7 _ _ ?_); (clear zbk7 zP7); (intro zN9); (try k_lt zl1); (try k_lt2 zl2); (try dsimp only); (try k_sweep); (try k_fold)))); k_steps)))
    unfold Hold
    (k_here; k_dflt (refine' Ct.use' (mkDg_ct (d := d)) ?k1 ?k2 ?k3 ?k4 ?k5 ?kK ?kd ?ku ?_; walk_at "ct1"; (case k4 => k_asm); k_whole; (intro h9 tk9 F9 P7 bk7 r9 nw9); (rintro ⟨gx, m1, m2, m3, new, e8, e9, hD1, hf1⟩); (try subst e8); (try subst e9); (refine bk7 _ _ ?_); (clear bk7 P7); (intro N9); (try k_lt l1); (try k_lt2 l2); (try dsimp only); (try k_sweep); (try k_fold)))
    have hkw : kt ≠ wl := news_ne N9 (.tail _ (.tail _ (.tail _ (List.mem_append_right _ (.head _))))) (.tail _ (.tail _ (.tail _ (List.mem_append_right _ (.tail _ (.head _)))))) (by rw [hk.kind]; exact ty_ne (by decide))
    refine hideG ?_
    intro PZ bkZ
    obtain ⟨y1, y2, y3, y4, y5, y6⟩ := hD1.kinds
    refine bkZ ?_
    clear bkZ PZ
    have fk := hf1 _ (.head _)
    have fw := hf1 _ (.tail _ (.head _))
    have ft := fun p (hp : p ∈ tp) => hf1 p (List.mem_cons_of_mem _ (List.mem_cons_of_mem _ (List.mem_cons_of_mem _ (List.mem_cons_of_mem _ (List.mem_cons_of_mem _ (List.mem_cons_of_mem _ (hp)))))))
    have fn1 : ∀ p ∈ (kt, ok) :: tp, p.1 ≠ m1.1 := List.forall_mem_cons.mpr ⟨fk.1, fun q hq => (ft q hq).1⟩
    have fn2 : ∀ p ∈ (kt, ok) :: tp, p.1 ≠ m2.1 := List.forall_mem_cons.mpr ⟨fk.2.1, fun q hq => (ft q hq).2.1⟩
    have fn3 : ∀ p ∈ (kt, ok) :: tp, p.1 ≠ m3.1 := List.forall_mem_cons.mpr ⟨fk.2.2.1, fun q hq => (ft q hq).2.2.1⟩
    have okw : ∀ p ∈ (kt, ok) :: tp, p.1 ≠ wl := List.forall_mem_cons.mpr ⟨hkw, owl⟩
    have inM : ∀ q ∈ (kt, ok) :: tp, q ∈ (kt, ok) :: (wl, dictOf [] nw) :: (rx, instObj 451 rq) :: (rq, dictOf (raEs w wl q0 q1 q2 q3 u0 u1 u2) 4) :: (x, instObj 155 dx) :: (dx, dictOf (hdrEs w ⟨src, tgt, ident, more, off⟩ kh) n) :: tp := List.forall_mem_cons.mpr ⟨.head _, fun q hq => List.mem_cons_of_mem _ (List.mem_cons_of_mem _ (List.mem_cons_of_mem _ (List.mem_cons_of_mem _ (List.mem_cons_of_mem _ (List.mem_cons_of_mem _ (hq))))))⟩
    have hD2 : DgAt w gx d S0 m1 m2 m3 (new ++ (kt, ok) :: tp) := hD1.grow (fun p hp => List.mem_append_left _ hp)
      (fun p hp => (List.mem_append.mp hp).elim (y4 p) (fn1 p))
      (fun p hp => (List.mem_append.mp hp).elim (y5 p) (fn2 p))
      (fun p hp => (List.mem_append.mp hp).elim (y6 p) (fn3 p))
    have owl2 : ∀ p ∈ m1 :: m2 :: m3 :: (new ++ (kt, ok) :: tp), p.1 ≠ wl := List.forall_mem_cons.mpr ⟨fw.1.symm, List.forall_mem_cons.mpr ⟨fw.2.1.symm, List.forall_mem_cons.mpr ⟨fw.2.2.1.symm, fun p hp => (List.mem_append.mp hp).elim (fun h => (fw.2.2.2 p h).symm) (okw p)⟩⟩⟩
    refine hideG ?_
    intro PZ bkZ
    obtain ⟨gq, pl, hx, da, ta, ts, te, hm1, g1⟩ := hD2.inst
    refine bkZ ?_
    clear bkZ PZ
    subst hm1
    have hNB := cb_drop (news := (wl, dictOf [] nw) :: (rx, instObj 451 rq) :: (rq, dictOf (raEs w wl q0 q1 q2 q3 u0 u1 u2) 4) :: (x, instObj 155 dx) :: (dx, dictOf (hdrEs w ⟨src, tgt, ident, more, off⟩ kh) n) :: (kt, ok) :: (gx, instObj 368 gq) :: (gq, dictOf (dgEs w hx pl (enV S0.en te) (fstV S0.fst) S0.ah S0.sz da ta ts) 8) :: ((gq, dictOf (dgEs w hx pl (enV S0.en te) (fstV S0.fst) S0.ah S0.sz da ta ts) 8) :: m2 :: m3 :: (new ++ (kt, ok) :: tp))) N9 (List.forall_mem_cons.mpr ⟨.tail _ (.tail _ (.tail _ (List.mem_append_right _ (.tail _ (.head _))))), List.forall_mem_cons.mpr ⟨.tail _ (.tail _ (.tail _ (List.mem_append_right _ (.tail _ (.tail _ (.head _)))))), List.forall_mem_cons.mpr ⟨.tail _ (.tail _ (.tail _ (List.mem_append_right _ (.tail _ (.tail _ (.tail _ (.head _))))))), List.forall_mem_cons.mpr ⟨.tail _ (.tail _ (.tail _ (List.mem_append_right _ (.tail _ (.tail _ (.tail _ (.tail _ (.head _)))))))), List.forall_mem_cons.mpr ⟨.tail _ (.tail _ (.tail _ (List.mem_append_right _ (.tail _ (.tail _ (.tail _ (.tail _ (.tail _ (.head _))))))))), List.forall_mem_cons.mpr ⟨.tail _ (.tail _ (.tail _ (List.mem_append_right _ (.head _)))), List.forall_mem_cons.mpr ⟨(List.mem_append.mp g1).elim (fun h => .tail _ (.tail _ (.tail _ (List.mem_append_left _ h)))) (fun h => .tail _ (.tail _ (.tail _ (List.mem_append_right _ (inM _ h))))), List.forall_mem_cons.mpr ⟨.head _, List.forall_mem_cons.mpr ⟨.head _, List.forall_mem_cons.mpr ⟨.tail _ (.head _), List.forall_mem_cons.mpr ⟨.tail _ (.tail _ (.head _)), fun p hp => (List.mem_append.mp hp).elim (fun h => .tail _ (.tail _ (.tail _ (List.mem_append_left _ h)))) (fun h => .tail _ (.tail _ (.tail _ (List.mem_append_right _ (inM _ h)))))⟩⟩⟩⟩⟩⟩⟩⟩⟩⟩⟩)
    clear N9
    try clear hN5
    have htp2 : ∀ p ∈ tp, p ∈ new ++ (kt, ok) :: tp := fun p hp => List.mem_append_right _ (.tail _ hp)
    have hkt2 : (kt, ok) ∈ new ++ (kt, ok) :: tp := List.mem_append_right _ (.head _)
    clear hD1 hf1 fk fw ft y1 y2 y3 y4 y5 y6 fn1 fn2 fn3 okw inM
    generalize new ++ (kt, ok) :: tp = T2 at hNB hD2 owl2 g1 htp2 hkt2
    generalize hM : (gq, dictOf (dgEs w hx pl (enV S0.en te) (fstV S0.fst) S0.ah S0.sz da ta ts) 8) :: m2 :: m3 :: T2 = M9 at hNB owl2
    (k_steps; (repeat' (unfold Hold; (first | (k_here; k_dflt (refine' Ct.use' mkHdrF_ct ?k1 ?k2 ?k3 ?k4 ?k5 ?kK ?kd ?ku ?_; walk_at "ct1"; (case k4 => k_asm); k_whole; (intro zh9 ztk9 zF9 zP7 zbk7 zr9 znw9); (rintro ⟨zx9, zdx9, zkh9, zn9, ze8, ze9, zl1, zl2⟩); (try subst ze8); (try subst ze9); (refine zbk7 _ _ ?_); (clear zbk7 zP7); (intro zN9); (try k_lt zl1); (try k_lt2 zl2); (try dsimp only); (try k_sweep); (try k_fold))) | (k_here; k_dflt (refine' Ct.use' (bad_ct ?c1 ?c2 ?c3 ?c4) ?k1 ?k2 ?k3 ?k4 ?k5 ?kK ?kd ?ku ?_; walk_at "ct1"; (case k4 => k_asm); (case c1 => (refine' ⟨_, _, _, ?hm1, ?hm2⟩; (case hm1 => k_mem); (case hm2 => k_mem))); (case c2 => assumption); (case c3 => assumption); (case c4 => assumption); k_whole; (intro zh9 ztk9 zF9 zP7 zbk7 zr9 znw9); (rintro ⟨ze9, ze8⟩); (try subst ze8); (try subst ze9); (refine zbk7 _ _ ?_); (clear zbk7 zP7); (intro zN9); (try k_lt zl1); (try k_lt2 zl2); (try dsimp only); (try k_sweep); (try k_fold)))); k_steps)))
    unfold Hold
    rename News _ _ _ _ => hN
    rename Fr _ _ _ _ => hF
    refine set_none (rest := (rx, instObj 451 rq) :: (rq, dictOf (raEs w wl q0 q1 q2 q3 u0 u1 u2) 4) :: (x, instObj 155 dx) :: (dx, dictOf (hdrEs w ⟨src, tgt, ident, more, off⟩ kh) n) :: (kt, ok) :: (gx, instObj 368 gq) :: (gq, dictOf (dgEs w hx pl (enV S0.en te) (fstV S0.fst) S0.ah S0.sz da ta ts) 8) :: M9) (by ktr_units) hF hN (by k_mem) hk (by k_mem) (List.forall_mem_cons.mpr ⟨.tail _ (.head _), List.forall_mem_cons.mpr ⟨.tail _ (.tail _ (.head _)), List.forall_mem_cons.mpr ⟨.tail _ (.tail _ (.tail _ (.head _))), List.forall_mem_cons.mpr ⟨.tail _ (.tail _ (.tail _ (.tail _ (.head _)))), List.forall_mem_cons.mpr ⟨.tail _ (.tail _ (.tail _ (.tail _ (.tail _ (.head _))))), List.forall_mem_cons.mpr ⟨.tail _ (.tail _ (.tail _ (.tail _ (.tail _ (.tail _ (.head _)))))), List.forall_mem_cons.mpr ⟨.tail _ (.tail _ (.tail _ (.tail _ (.tail _ (.tail _ (.tail _ (.head _))))))), fun p hp => List.mem_cons_of_mem _ (List.mem_cons_of_mem _ (List.mem_cons_of_mem _ (List.mem_cons_of_mem _ (List.mem_cons_of_mem _ (List.mem_cons_of_mem _ (List.mem_cons_of_mem _ (List.mem_cons_of_mem _ (hp))))))))⟩⟩⟩⟩⟩⟩⟩) (List.forall_mem_cons.mpr ⟨owl _ (r1), List.forall_mem_cons.mpr ⟨owl _ (r2), List.forall_mem_cons.mpr ⟨owl _ (x1), List.forall_mem_cons.mpr ⟨owl _ (x2), List.forall_mem_cons.mpr ⟨hkw, List.forall_mem_cons.mpr ⟨owl2 _ (by rw [← hM]; exact .tail _ (.tail _ (.tail _ (g1)))), List.forall_mem_cons.mpr ⟨owl2 _ (by rw [← hM]; exact .head _), owl2⟩⟩⟩⟩⟩⟩⟩) ?_
    intro h7 n7 tk7 F7 N7
    clear hN hF
    (k_steps; (repeat' (unfold Hold; (first | (k_here; k_dflt (refine' Ct.use' mkHdrF_ct ?k1 ?k2 ?k3 ?k4 ?k5 ?kK ?kd ?ku ?_; walk_at "ct1"; (case k4 => k_asm); k_whole; (intro zh9 ztk9 zF9 zP7 zbk7 zr9 znw9); (rintro ⟨zx9, zdx9, zkh9, zn9, ze8, ze9, zl1, zl2⟩); (try subst ze8); (try subst ze9); (refine zbk7 _ _ ?_); (clear zbk7 zP7); (intro zN9); (try k_lt zl1); (try k_lt2 zl2); (try dsimp only); (try k_sweep); (try k_fold))) | (k_here; k_dflt (refine' Ct.use' (bad_ct ?c1 ?c2 ?c3 ?c4) ?k1 ?k2 ?k3 ?k4 ?k5 ?kK ?kd ?ku ?_; walk_at "ct1"; (case k4 => k_asm); (case c1 => (refine' ⟨_, _, _, ?hm1, ?hm2⟩; (case hm1 => k_mem); (case hm2 => k_mem))); (case c2 => assumption); (case c3 => assumption); (case c4 => assumption); k_whole; (intro zh9 ztk9 zF9 zP7 zbk7 zr9 znw9); (rintro ⟨ze9, ze8⟩); (try subst ze8); (try subst ze9); (refine zbk7 _ _ ?_); (clear zbk7 zP7); (intro zN9); (try k_lt zl1); (try k_lt2 zl2); (try dsimp only); (try k_sweep); (try k_fold)))); k_steps)))
    unfold Hold
    rename News _ _ _ _ => hN
    refine item_one (by ktr_units) hN (by k_mem) hk (by k_mem) hk (by k_mem) ?_
    intro tk6
    (k_steps; (repeat' (unfold Hold; (first | (k_here; k_dflt (refine' Ct.use' mkHdrF_ct ?k1 ?k2 ?k3 ?k4 ?k5 ?kK ?kd ?ku ?_; walk_at "ct1"; (case k4 => k_asm); k_whole; (intro zh9 ztk9 zF9 zP7 zbk7 zr9 znw9); (rintro ⟨zx9, zdx9, zkh9, zn9, ze8, ze9, zl1, zl2⟩); (try subst ze8); (try subst ze9); (refine zbk7 _ _ ?_); (clear zbk7 zP7); (intro zN9); (try k_lt zl1); (try k_lt2 zl2); (try dsimp only); (try k_sweep); (try k_fold))) | (k_here; k_dflt (refine' Ct.use' (bad_ct ?c1 ?c2 ?c3 ?c4) ?k1 ?k2 ?k3 ?k4 ?k5 ?kK ?kd ?ku ?_; walk_at "ct1"; (case k4 => k_asm); (case c1 => (refine' ⟨_, _, _, ?hm1, ?hm2⟩; (case hm1 => k_mem); (case hm2 => k_mem))); (case c2 => assumption); (case c3 => assumption); (case c4 => assumption); k_whole; (intro zh9 ztk9 zF9 zP7 zbk7 zr9 znw9); (rintro ⟨ze9, ze8⟩); (try subst ze8); (try subst ze9); (refine zbk7 _ _ ?_); (clear zbk7 zP7); (intro zN9); (try k_lt zl1); (try k_lt2 zl2); (try dsimp only); (try k_sweep); (try k_fold)))); k_steps)))
    unfold Hold
    subst hM
    rename News _ _ _ _ => hN5
    have hNA := cb_drop (news := (gq, dictOf (dgEs w hx pl (enV S0.en te) (fstV S0.fst) S0.ah S0.sz da ta ts) 8) :: m2 :: m3 :: (T2 ++ [(wl, dictOf (oneEs w src tgt 17 ident kt (.ref gx)) n7)])) hN5 (List.forall_mem_cons.mpr ⟨.tail _ (.tail _ (.tail _ (.tail _ (.tail _ (.tail _ (.tail _ (.tail _ (.head _)))))))), List.forall_mem_cons.mpr ⟨.tail _ (.tail _ (.tail _ (.tail _ (.tail _ (.tail _ (.tail _ (.tail _ (.tail _ (.head _))))))))), List.forall_mem_cons.mpr ⟨.tail _ (.tail _ (.tail _ (.tail _ (.tail _ (.tail _ (.tail _ (.tail _ (.tail _ (.tail _ (.head _)))))))))), fun p hp => (List.mem_append.mp hp).elim (fun h => List.mem_cons_of_mem _ (List.mem_cons_of_mem _ (List.mem_cons_of_mem _ (List.mem_cons_of_mem _ (List.mem_cons_of_mem _ (List.mem_cons_of_mem _ (List.mem_cons_of_mem _ (List.mem_cons_of_mem _ (List.mem_cons_of_mem _ (List.mem_cons_of_mem _ (List.mem_cons_of_mem _ (h)))))))))))) (fun h => by rw [List.mem_singleton.mp h]; exact .head _)⟩⟩⟩)
    have hHA : HdrAt w T2 x ⟨src, tgt, ident, more, off⟩ := hH0.mono htp2
    have sep1 : ∀ q ∈ (gq, dictOf (dgEs w hx pl (enV S0.en te) (fstV S0.fst) S0.ah S0.sz da ta ts) 8) :: m2 :: m3 :: T2, wl ≠ q.1 := fun q hq => (owl2 q hq).symm
    (k_here; k_dflt (refine' Ct.use' (dput_ct (H := ⟨src, tgt, ident, more, off⟩) (S := S0) (tp := T2) (rest := [(wl, dictOf (oneEs w src tgt 17 ident kt (.ref gx)) n7)]) ?c1 ?c2 ?c3 ?c4 ?c5) ?k1 ?k2 ?k3 ?k4 ?k5 ?kK ?kd ?ku ?_; walk_at "ct1"; (case k4 => exact hNA); (case c1 => exact hD2); (case c2 => exact hHA); (case c3 => exact hb); (case c4 => exact ok9); (case c5 => exact List.forall_mem_cons.mpr ⟨fun q hq => sep1 q hq, fun _ h => nomatch h⟩); k_whole; (intro h9 tk9 F9 P7 bk7 r9 nw9); (rintro ⟨n0, e9, ⟨m1', m2', m3', tp', e8, rfl, hD', hsub'⟩, hsep'⟩); (try subst e8); (try subst e9); (refine bk7 _ _ ?_); (clear bk7 P7); (intro N9); (try k_lt l1); (try k_lt2 l2); (try dsimp only); (try k_sweep); (try k_fold)))
    have hD9 : DgAt w gx d S9 m1' m2' m3' tp' := hS9 ▸ hD'
    have hsub9 : ∀ p ∈ tp, p ∈ tp' := fun p hp => hsub' p (htp2 p hp)
    have hk9 : (kt, ok) ∈ tp' := hsub' _ hkt2
    have owl3 : ∀ p ∈ m1' :: m2' :: m3' :: tp', p.1 ≠ wl := fun p hp => hsep' p hp _ (.head _)
    clear hD' hD2 hsub' hS9
    try clear hNA
    refine hideG ?_
    intro PZ bkZ
    obtain ⟨gq', pl', hx', da', ta', ts', te', hm1', g1'⟩ := hD9.inst
    refine bkZ ?_
    clear bkZ PZ
    subst hm1'
    have up9 : ∀ p ∈ tp', p ∈ ((gq', dictOf (dgEs w hx' pl' (enV S9.en te') (fstV S9.fst) S9.ah S9.sz da' ta' ts') 8) :: m2' :: m3' :: tp') ++ [(wl, dictOf (oneEs w src tgt 17 ident kt (.ref gx)) n7)] := fun p hp => List.mem_append_left _ (List.mem_cons_of_mem _ (List.mem_cons_of_mem _ (List.mem_cons_of_mem _ (hp))))
    have hNC := cb_drop (news := (wl, dictOf (oneEs w src tgt 17 ident kt (.ref gx)) n7) :: (rx, instObj 451 rq) :: (rq, dictOf (raEs w wl q0 q1 q2 q3 u0 u1 u2) 4) :: (kt, ok) :: (gx, instObj 368 gq') :: (gq', dictOf (dgEs w hx' pl' (enV S9.en te') (fstV S9.fst) S9.ah S9.sz da' ta' ts') 8) :: (((gq', dictOf (dgEs w hx' pl' (enV S9.en te') (fstV S9.fst) S9.ah S9.sz da' ta' ts') 8) :: m2' :: m3' :: tp') ++ [(wl, dictOf (oneEs w src tgt 17 ident kt (.ref gx)) n7)])) N9 (List.forall_mem_cons.mpr ⟨List.mem_append_right _ (.head _), List.forall_mem_cons.mpr ⟨up9 _ (hsub9 _ r1), List.forall_mem_cons.mpr ⟨up9 _ (hsub9 _ r2), List.forall_mem_cons.mpr ⟨up9 _ hk9, List.forall_mem_cons.mpr ⟨up9 _ g1', List.forall_mem_cons.mpr ⟨List.mem_append_left _ (.head _), fun p hp => hp⟩⟩⟩⟩⟩⟩)
    clear N9
    have up9b : ∀ p ∈ (gq', dictOf (dgEs w hx' pl' (enV S9.en te') (fstV S9.fst) S9.ah S9.sz da' ta' ts') 8) :: m2' :: m3' :: tp', p ∈ ((gq', dictOf (dgEs w hx' pl' (enV S9.en te') (fstV S9.fst) S9.ah S9.sz da' ta' ts') 8) :: m2' :: m3' :: tp') ++ [(wl, dictOf (oneEs w src tgt 17 ident kt (.ref gx)) n7)] := fun p hp => List.mem_append_left _ hp
    generalize ((gq', dictOf (dgEs w hx' pl' (enV S9.en te') (fstV S9.fst) S9.ah S9.sz da' ta' ts') 8) :: m2' :: m3' :: tp') ++ [(wl, dictOf (oneEs w src tgt 17 ident kt (.ref gx)) n7)] = M9 at hNC up9 up9b
    (k_steps; (repeat' (unfold Hold; (first | (k_here; k_dflt (refine' Ct.use' mkHdrF_ct ?k1 ?k2 ?k3 ?k4 ?k5 ?kK ?kd ?ku ?_; walk_at "ct1"; (case k4 => k_asm); k_whole; (intro zh9 ztk9 zF9 zP7 zbk7 zr9 znw9); (rintro ⟨zx9, zdx9, zkh9, zn9, ze8, ze9, zl1, zl2⟩); (try subst ze8); (try subst ze9); (refine zbk7 _ _ ?_); (clear zbk7 zP7); (intro zN9); (try k_lt zl1); (try k_lt2 zl2); (try dsimp only); (try k_sweep); (try k_fold))) | (k_here; k_dflt (refine' Ct.use' (bad_ct ?c1 ?c2 ?c3 ?c4) ?k1 ?k2 ?k3 ?k4 ?k5 ?kK ?kd ?ku ?_; walk_at "ct1"; (case k4 => k_asm); (case c1 => (refine' ⟨_, _, _, ?hm1, ?hm2⟩; (case hm1 => k_mem); (case hm2 => k_mem))); (case c2 => assumption); (case c3 => assumption); (case c4 => assumption); k_whole; (intro zh9 ztk9 zF9 zP7 zbk7 zr9 znw9); (rintro ⟨ze9, ze8⟩); (try subst ze8); (try subst ze9); (refine zbk7 _ _ ?_); (clear zbk7 zP7); (intro zN9); (try k_lt zl1); (try k_lt2 zl2); (try dsimp only); (try k_sweep); (try k_fold)))); k_steps)))
    unfold Hold
    (k_here; k_dflt (refine' Ct.use' (whole_ct (S := S9) ?c1 ?c2) ?k1 ?k2 ?k3 ?k4 ?k5 ?kK ?kd ?ku ?_; walk_at "ct1"; (case k4 => k_asm); (case c1 => exact hD9); (case c2 => exact fun p hp => List.mem_cons_of_mem _ (List.mem_cons_of_mem _ (List.mem_cons_of_mem _ (List.mem_cons_of_mem _ (List.mem_cons_of_mem _ (List.mem_cons_of_mem _ (up9b p hp))))))); k_whole; (intro h9 tk9 F9 P7 bk7 r9 nw9); (rintro ⟨e9, e8⟩); (try subst e8); (try subst e9); (refine bk7 _ _ ?_); (clear bk7 P7); (intro N9); (try k_lt l1); (try k_lt2 l2); (try dsimp only); (try k_sweep); (try k_fold)))
    have hwh : (S9.en.isSome && S9.fst.isSome && S9.rows.isEmpty) = isWh S9 := rfl
    rw [hwh, hw]
    (k_steps; (repeat' (unfold Hold; (first | (k_here; k_dflt (refine' Ct.use' mkHdrF_ct ?k1 ?k2 ?k3 ?k4 ?k5 ?kK ?kd ?ku ?_; walk_at "ct1"; (case k4 => k_asm); k_whole; (intro zh9 ztk9 zF9 zP7 zbk7 zr9 znw9); (rintro ⟨zx9, zdx9, zkh9, zn9, ze8, ze9, zl1, zl2⟩); (try subst ze8); (try subst ze9); (refine zbk7 _ _ ?_); (clear zbk7 zP7); (intro zN9); (try k_lt zl1); (try k_lt2 zl2); (try dsimp only); (try k_sweep); (try k_fold))) | (k_here; k_dflt (refine' Ct.use' (bad_ct ?c1 ?c2 ?c3 ?c4) ?k1 ?k2 ?k3 ?k4 ?k5 ?kK ?kd ?ku ?_; walk_at "ct1"; (case k4 => k_asm); (case c1 => (refine' ⟨_, _, _, ?hm1, ?hm2⟩; (case hm1 => k_mem); (case hm2 => k_mem))); (case c2 => assumption); (case c3 => assumption); (case c4 => assumption); k_whole; (intro zh9 ztk9 zF9 zP7 zbk7 zr9 znw9); (rintro ⟨ze9, ze8⟩); (try subst ze8); (try subst ze9); (refine zbk7 _ _ ?_); (clear zbk7 zP7); (intro zN9); (try k_lt zl1); (try k_lt2 zl2); (try dsimp only); (try k_sweep); (try k_fold)))); k_steps)))
    unfold Hold
    rename News _ _ _ _ => hN
    (k_here; k_dflt (refine' Ct.use' (mroom_ct ?c1 ?c2 ?c3 ?c4 ?c5 ?c6 ?c7 ?c8 ?c9 ?c10) ?k1 ?k2 ?k3 ?k4 ?k5 ?kK ?kd ?ku ?_; walk_at "ct1"; (case k4 => k_asm); (case c1 => k_mem); (case c2 => k_mem); (case c3 => k_mem); (case c4 => k_mem); (case c5 => exact hk); (case c6 => exact hwl); (case c7 => k_mem); (case c8 => k_mem); (case c9 => exact hsz0); (case c10 => exact hsz1); k_whole; (intro h9 tk9 F9 P7 bk7 r9 nw9); (rintro ⟨e9, e8⟩); (try subst e8); (try subst e9); (refine bk7 _ _ ?_); (clear bk7 P7); (intro N9); (try k_lt l1); (try k_lt2 l2); (try dsimp only); (try k_sweep); (try k_fold)))
    (k_steps; (repeat' (unfold Hold; (first | (k_here; k_dflt (refine' Ct.use' mkHdrF_ct ?k1 ?k2 ?k3 ?k4 ?k5 ?kK ?kd ?ku ?_; walk_at "ct1"; (case k4 => k_asm); k_whole; (intro zh9 ztk9 zF9 zP7 zbk7 zr9 znw9); (rintro ⟨zx9, zdx9, zkh9, zn9, ze8, ze9, zl1, zl2⟩); (try subst ze8); (try subst ze9); (refine zbk7 _ _ ?_); (clear zbk7 zP7); (intro zN9); (try k_lt zl1); (try k_lt2 zl2); (try dsimp only); (try k_sweep); (try k_fold))) | (k_here; k_dflt (refine' Ct.use' (bad_ct ?c1 ?c2 ?c3 ?c4) ?k1 ?k2 ?k3 ?k4 ?k5 ?kK ?kd ?ku ?_; walk_at "ct1"; (case k4 => k_asm); (case c1 => (refine' ⟨_, _, _, ?hm1, ?hm2⟩; (case hm1 => k_mem); (case hm2 => k_mem))); (case c2 => assumption); (case c3 => assumption); (case c4 => assumption); k_whole; (intro zh9 ztk9 zF9 zP7 zbk7 zr9 znw9); (rintro ⟨ze9, ze8⟩); (try subst ze8); (try subst ze9); (refine zbk7 _ _ ?_); (clear zbk7 zP7); (intro zN9); (try k_lt zl1); (try k_lt2 zl2); (try dsimp only); (try k_sweep); (try k_fold)))); k_steps)))
    rename News _ _ _ _ => hN
    rename Fr _ _ _ _ => hF
    refine bkz _ _ <| CtRet.intro hF (cb_drop (news := (wl, dictOf (oneEs w src tgt 17 ident kt (.ref gx)) n7) :: (gq', dictOf (dgEs w hx' pl' (enV S9.en te') (fstV S9.fst) S9.ah S9.sz da' ta' ts') 8) :: m2' :: m3' :: tp') hN (List.forall_mem_cons.mpr ⟨.head _, fun p hp => List.mem_cons_of_mem _ (List.mem_cons_of_mem _ (List.mem_cons_of_mem _ (List.mem_cons_of_mem _ (List.mem_cons_of_mem _ (List.mem_cons_of_mem _ (up9b p hp))))))⟩)) ⟨rfl, gx, kt, ok, n7, _, _, _, _, hk, hk9, rfl, hD9, hsub9, owl3⟩
end
end
-- RaMk
section
example : True := by
  w_top off
  trivial
theorem isDict_nil {prog : Program} {w : World} {o : Obj} (h : o.IsDictOf (PySem.strKind prog w) []) : ∃ n, o = dictOf [] n := by
  obtain ⟨es, ep, ⟨h1, h2, h3⟩, hd, _, hp, _⟩ := h
  have he : es.toList = [] := List.length_eq_zero_iff.mp hp.length
  obtain ⟨cl, dc, dt, sl⟩ := o
  dsimp only at h1 h2 h3 hd
  subst h1 h2 h3 hd
  refine ⟨ep, ?_⟩
  rw [← Array.toArray_toList (xs := es), he]
section
variable {w : World} {name qual : Str} {params : Arguments} {body : List Stmt} {scope : Scope} {dV kV doc pm cdv ct oc : Value} {an od : Option Addr} {osl : Array (Option Value)} {f : Addr} {vs : List Value} {binds : List (Str × Value)} {news : Led} {D : Nat}
/-- a call by its body that turns nothing, and makes -/
theorem Ct.add {P : Value → Led → Prop} {all : Led} (ho : (Mine.hk.heap_1 w.params).lookup f = some ⟨oc, od, .func (fnOf name qual params body scope dV kV doc pm an cdv ct), osl⟩) (hcd : codeIn (Mine.hk.heap_1 w.params) cdv qual = true)
    (hbind : ∀ s : Shared, (Mine.hk.heap_1 w.params).In s.heap → BindsTo s (fnOf name qual params body scope dV kV doc pm an cdv ct) ⟨vs, []⟩ binds) (hloc : ∀ y ∈ binds, scope.names.lookup y.1 = some .local)
    (hco : scope.isCoroutine = false) (hgen : scope.isGenerator = false) (hk : scope.kind = .function) (hcell : ∀ x ∈ scope.names, x.2 ≠ .cell)
    (hsub : ∀ p ∈ news, p ∈ all) (hb : Bd w qual scope f cdv body binds news D (fun r n => ∃ new, P r new ∧ (∀ p ∈ new ++ news, p ∈ n) ∧ ∀ p ∈ new, ∀ q ∈ news, p.1 ≠ q.1)) :
    Ct w f vs all (D + 1) (fun r n' => ∃ new, n' = new ++ all ∧ P r new ∧ ∀ p ∈ new, ∀ q ∈ all, p.1 ≠ q.1) := by
  intro mean mg mb dp un gd cn cs ad ccd cl outer A₀ base h₀ L m s Q E B F X N T hkk hd hu ret
  have C := Ct.rw (rest := all.filter fun p => !(news.any fun q => decide (q.1 = p.1))) ho hcd hbind hloc hco hgen hk hcell (fun p hp q hq e => by
    have h1 := (List.mem_filter.mp hp).2
    have h2 : (news.any fun q => decide (q.1 = p.1)) = true := List.any_eq_true.mpr ⟨q, hq, by simpa using e.symm⟩
    rw [h2] at h1
    cases h1) hb
  have same : ∀ p ∈ all, (news.any fun q => decide (q.1 = p.1)) = true → p ∈ news := fun p hp hq => by
    obtain ⟨q, hq1, hq2⟩ := addr_in.mp hq
    have e1 := (N p hp).1
    have e2 := (N q (hsub q hq1)).1
    rw [hq2, e1] at e2
    have e3 : p = q := Prod.ext hq2.symm (Option.some.inj e2)
    exact e3 ▸ hq1
  refine C mean mg mb dp un gd cn cs ad ccd cl outer A₀ base h₀ L m s Q E B F X (fun p hp => ?_) T hkk hd hu ?_
  · rcases List.mem_append.mp hp with hp | hp
    · exact N p (hsub p hp)
    · exact N p (List.mem_filter.mp hp).1
  · rintro r n' h' tk' F' N' ⟨n0, rfl, ⟨new, hP, hn, ha⟩, hsep⟩
    have old : ∀ p ∈ all, p ∈ news ∨ p ∈ all.filter fun p => !(news.any fun q => decide (q.1 = p.1)) := fun p hp => by
      cases hq : (news.any fun q => decide (q.1 = p.1)) with
      | false => exact .inr (List.mem_filter.mpr ⟨hp, by rw [hq]; rfl⟩)
      | true => exact .inl (same p hp hq)
    refine ret r (new ++ all) h' tk' F' (fun p hp => ?_) ⟨new, rfl, hP, fun p hp q hq => ?_⟩
    · rcases List.mem_append.mp hp with hp | hp
      · exact N' p (List.mem_append_left _ (hn p (List.mem_append_left _ hp)))
      · rcases old p hp with h | h
        · exact N' p (List.mem_append_left _ (hn p (List.mem_append_right _ h)))
        · exact N' p (List.mem_append_right _ h)
    · rcases old q hq with h | h
      · exact ha p hp q h
      · exact hsep p (hn p (List.mem_append_left _ hp)) q h
end
set_option maxHeartbeats 8000000 in
theorem rput_one {w : World} {rx x : Addr} {src tgt ident : Int} {pb : Array UInt8} {tk tn : Tok} {all : Led} (hH : HdrAt w all x ⟨src, tgt, ident, false, 0⟩) :
    Ct w 415 [.ref rx, .ref x, .bytes pb tk, .int 1 tn] all 12 (fun r n' => ∃ new, n' = new ++ all ∧ (∃ t, r = .ref t ∧ new = [(t, pairOf (.ref x) (.bytes pb tk) 0)]) ∧ ∀ p ∈ new, ∀ q ∈ all, p.1 ≠ q.1) := by
  obtain ⟨dx, kh, n, hx, hdx⟩ := hH
  refine' Ct.add ?ho ?hcd ?hbind ?hloc ?hco ?hgen ?hk ?hcell ?hsub ?hb
  case ho => k_is
  case hcd => k_is
  case hbind => (intro s hX; first | exact BindsTo.of_eq rfl | exact binds_K hX rfl (by k_is) rfl rfl rfl)
  case hloc => exact locs rfl
  case hco => exact rfl
  case hgen => exact rfl
  case hk => exact rfl
  case hcell => decide
  case hsub => exact sub2 hx hdx
  case hb =>
  unfold Bd
  intro mean mg mb dp un gd outer A₀ base g L s B F X N T hd hu
  refine hideQ ?_
  intro Qz bkz
  (try dsimp only)
  k_steps
  all_goals (rename News _ _ _ _ => hN; rename Fr _ _ _ _ => hF; first | exact bkz _ _ <| CtRet.intro hF hN ⟨[_], ⟨_, rfl, rfl⟩, fun p hp => hp, List.forall_mem_cons.mpr ⟨List.forall_mem_cons.mpr ⟨by k_ne, List.forall_mem_cons.mpr ⟨by k_ne, fun _ h => nomatch h⟩⟩, fun _ h => nomatch h⟩⟩ | exact absurd rfl (by assumption : (0 : Int) ≠ 0))
set_option maxHeartbeats 4000000 in
theorem mkRa_ct {w : World} {news : Led} {ta tb : Tok} :
    Ct w 451 [.int 50 ta, .int 999 tb] news 8 (fun r n' => ∃ rx wl nw new, r = .ref rx ∧ n' = (wl, dictOf [] nw) :: (new ++ news) ∧ RaAt w rx wl new ∧ (∀ p ∈ new ++ news, p.1 ≠ wl) ∧ ∀ p ∈ new, ∀ q ∈ news, p.1 ≠ q.1) := by
  unfold Ct
  k_fill
  intro mean mg mb dp un gd cn cs ad ccd cl outer A₀ base h₀ L m s Q E B F X N T hk hd hu hret
  k_steps
  obtain ⟨n9, e9⟩ := isDict_nil (by assumption)
  subst e9
  rename News _ _ _ _ => hN
  rename Fr _ _ _ _ => hF
  rename (∀ p ∈ news, p.1 < _) => hlt
  exact hret _ (_ :: ([_, _] ++ news)) _ _ hF hN ⟨_, _, _, [_, _], rfl, rfl, ⟨_, _, _, _, _, _, _, _, .head _, .tail _ (.head _), by assumption⟩, List.forall_mem_cons.mpr ⟨by k_ne, List.forall_mem_cons.mpr ⟨by k_ne, fun p hp => Nat.ne_of_lt (Nat.lt_trans (hlt p hp) (by omega))⟩⟩, List.forall_mem_cons.mpr ⟨fun q hq => Nat.ne_of_gt (Nat.lt_trans (hlt q hq) (by omega)), List.forall_mem_cons.mpr ⟨fun q hq => Nat.ne_of_gt (hlt q hq), fun _ h => nomatch h⟩⟩⟩
end
-- Pure
section
example : True := by
  w_top off
  trivial
abbrev Ivl := Int × Int
def mid (b e : Int) (r : Ivl) : List Ivl := (if r.1 < b then [(r.1, b)] else []) ++ (if e < r.2 then [(e, r.2)] else [])
def tot (l : List Ivl) : Int := (l.map fun r => r.2 - r.1).sum
theorem tot_append {a b : List Ivl} : tot (a ++ b) = tot a + tot b := by simp [tot]
theorem tot_cons {r : Ivl} {b : List Ivl} : tot (r :: b) = (r.2 - r.1) + tot b := by simp [tot]
theorem row_off {b e : Int} {r : Ivl} (h : r.2 ≤ b ∨ e ≤ r.1) : fillHit b e r = [] ∧ fillRow b e r = [r] := by
  have h1 : rowF b r ≥ rowL e r := by
    unfold rowF rowL
    split <;> split <;> omega
  exact ⟨if_pos h1, if_pos h1⟩
theorem row_in {b e : Int} {r : Ivl} (h1 : r.1 ≤ b) (h2 : e ≤ r.2) (h3 : b < e) : fillHit b e r = [(b, e)] ∧ fillRow b e r = mid b e r := by
  have f1 : rowF b r = b := by unfold rowF; split <;> omega
  have f2 : rowL e r = e := by unfold rowL; split <;> omega
  unfold fillHit fillRow
  rw [f1, f2, if_neg (by omega), if_neg (by omega)]
  exact ⟨rfl, rfl⟩
theorem rows_off {b e : Int} : ∀ {l : List Ivl}, (∀ r ∈ l, r.2 ≤ b ∨ e ≤ r.1) → fillHits b e l = [] ∧ fillRows b e l = l
  | [], _ => ⟨rfl, rfl⟩
  | r :: l, h => by
    have h1 := row_off (h r (.head _))
    have h2 := rows_off (b := b) (e := e) (l := l) fun q hq => h q (.tail _ hq)
    unfold fillHits fillRows at h2 ⊢
    rw [List.flatMap_cons, List.flatMap_cons, h1.1, h1.2, h2.1, h2.2]
    exact ⟨rfl, rfl⟩
def Srt (l : List Ivl) : Prop := l.Pairwise (fun a b => a.2 ≤ b.1) ∧ ∀ r ∈ l, r.1 < r.2
theorem fill_split {rows : List Ivl} {b e : Int} {r : Ivl} (hs : Srt rows) (hr : r ∈ rows) (h1 : r.1 ≤ b) (h2 : e ≤ r.2) (h3 : b < e) :
    fillHits b e rows = [(b, e)] ∧ ∃ A B, rows = A ++ r :: B ∧ fillRows b e rows = A ++ (mid b e r ++ B) := by
  obtain ⟨A, B, rfl⟩ := List.append_of_mem hr
  obtain ⟨hp, _⟩ := hs
  rw [List.pairwise_append, List.pairwise_cons] at hp
  obtain ⟨_, ⟨pB, _⟩, pA⟩ := hp
  have oA := rows_off (b := b) (e := e) (l := A) fun q hq => .inl (Int.le_trans (pA q hq r (.head _)) h1)
  have oB := rows_off (b := b) (e := e) (l := B) fun q hq => .inr (Int.le_trans h2 (pB q hq))
  have oR := row_in h1 h2 h3
  unfold fillHits fillRows at oA oB ⊢
  rw [List.flatMap_append, List.flatMap_append, List.flatMap_cons, List.flatMap_cons, oA.1, oA.2, oB.1, oB.2, oR.1, oR.2]
  exact ⟨rfl, A, B, rfl, rfl⟩
theorem mid_mem {b e : Int} {r q : Ivl} (h1 : r.1 ≤ b) (h2 : e ≤ r.2) (h3 : b < e) (hq : q ∈ mid b e r) : r.1 ≤ q.1 ∧ q.1 < q.2 ∧ q.2 ≤ r.2 := by
  unfold mid at hq
  rcases List.mem_append.mp hq with hq | hq
  · split at hq
    · rw [List.mem_singleton.mp hq]; dsimp only; omega
    · cases hq
  · split at hq
    · rw [List.mem_singleton.mp hq]; dsimp only; omega
    · cases hq
theorem mid_tot {b e : Int} {r : Ivl} (h1 : r.1 ≤ b) (h2 : e ≤ r.2) : tot (mid b e r) = (r.2 - r.1) - (e - b) := by
  unfold mid
  rw [tot_append]
  split <;> split <;> simp [tot] <;> omega
theorem mid_srt {b e : Int} {r : Ivl} (h3 : b < e) : (mid b e r).Pairwise (fun a b => a.2 ≤ b.1) := by
  unfold mid
  split <;> split <;> simp <;> omega
theorem mid_len {b e : Int} {r : Ivl} : (mid b e r).length ≤ 2 := by
  unfold mid
  split <;> split <;> simp
/-- the rows bear the pieces that are left, and no more -/
structure Cov (rows L : List Ivl) : Prop where
  srt : Srt rows
  top : ∀ r ∈ rows, r.2 ≤ 65535
  inn : ∀ l ∈ L, l.1 < l.2 ∧ ∃ r ∈ rows, r.1 ≤ l.1 ∧ l.2 ≤ r.2
  dis : L.Pairwise fun a b => a.2 ≤ b.1 ∨ b.2 ≤ a.1
  tot : tot rows = tot L
theorem Cov.step {rows L1 L2 : List Ivl} {l : Ivl} (h : Cov rows (L1 ++ l :: L2)) :
    fillHits l.1 l.2 rows = [(l.1, l.2)] ∧ Cov (fillRows l.1 l.2 rows) (L1 ++ L2) ∧ (fillRows l.1 l.2 rows).length ≤ rows.length + 1 := by
  obtain ⟨hlt, r, hr, h1, h2⟩ := h.inn l (List.mem_append_right _ (.head _))
  obtain ⟨hh, A, B, rfl, hf⟩ := fill_split h.srt hr h1 h2 hlt
  refine ⟨hh, ?_, ?_⟩
  · rw [hf]
    obtain ⟨⟨hp, hn⟩, htop, hin, hdis, htot⟩ := h
    rw [List.pairwise_append, List.pairwise_cons] at hp
    obtain ⟨pA, ⟨prB, pB⟩, pAB⟩ := hp
    rw [List.pairwise_append, List.pairwise_cons] at hdis
    obtain ⟨d1, ⟨d2, d3⟩, d4⟩ := hdis
    have hdl : ∀ q ∈ L1 ++ L2, q.2 ≤ l.1 ∨ l.2 ≤ q.1 := by
      intro q hq
      rcases List.mem_append.mp hq with hq | hq
      · exact d4 q hq l (.head _)
      · exact (d2 q hq).symm
    refine ⟨⟨?_, ?_⟩, ?_, ?_, ?_, ?_⟩
    · rw [List.pairwise_append, List.pairwise_append]
      refine ⟨pA, ⟨mid_srt hlt, pB, ?_⟩, ?_⟩
      · intro a ha b hb
        have := (mid_mem h1 h2 hlt ha).2.2
        have := prB b hb
        omega
      · intro a ha b hb
        rcases List.mem_append.mp hb with hb | hb
        · have := (mid_mem h1 h2 hlt hb).1
          have := pAB a ha r (.head _)
          omega
        · exact pAB a ha b (.tail _ hb)
    · intro q hq
      rcases List.mem_append.mp hq with hq | hq
      · exact hn q (List.mem_append_left _ hq)
      · rcases List.mem_append.mp hq with hq | hq
        · exact (mid_mem h1 h2 hlt hq).2.1
        · exact hn q (List.mem_append_right _ (.tail _ hq))
    · intro q hq
      rcases List.mem_append.mp hq with hq | hq
      · exact htop q (List.mem_append_left _ hq)
      · rcases List.mem_append.mp hq with hq | hq
        · have := (mid_mem h1 h2 hlt hq).2.2
          have := htop r (List.mem_append_right _ (.head _))
          omega
        · exact htop q (List.mem_append_right _ (.tail _ hq))
    · intro q hq
      have hq9 : q ∈ L1 ++ l :: L2 := by
        rcases List.mem_append.mp hq with hq | hq
        · exact List.mem_append_left _ hq
        · exact List.mem_append_right _ (.tail _ hq)
      obtain ⟨hq1, r2, hr2, i1, i2⟩ := hin q hq9
      refine ⟨hq1, ?_⟩
      rcases List.mem_append.mp hr2 with hr2 | hr2
      · exact ⟨r2, List.mem_append_left _ hr2, i1, i2⟩
      · rcases List.mem_cons.mp hr2 with rfl | hr2
        · rcases hdl q hq with hd | hd
          · refine ⟨(r2.1, l.1), List.mem_append_right _ (List.mem_append_left _ (List.mem_append_left _ ?_)), i1, hd⟩
            rw [if_pos (by omega)]
            exact .head _
          · refine ⟨(l.2, r2.2), List.mem_append_right _ (List.mem_append_left _ (List.mem_append_right _ ?_)), hd, i2⟩
            rw [if_pos (by omega)]
            exact .head _
        · exact ⟨r2, List.mem_append_right _ (List.mem_append_right _ hr2), i1, i2⟩
    · rw [List.pairwise_append]
      exact ⟨d1, d3, fun a ha b hb => d4 a ha b (.tail _ hb)⟩
    · rw [tot_append, tot_append, mid_tot h1 h2]
      rw [tot_append, tot_cons, tot_append, tot_cons] at htot
      rw [tot_append]
      omega
  · rw [hf]
    simp only [List.length_append, List.length_cons]
    have := mid_len (b := l.1) (e := l.2) (r := r)
    omega
theorem tot_pos : ∀ {l : List Ivl}, (∀ r ∈ l, r.1 < r.2) → 0 ≤ tot l ∧ (tot l = 0 → l = [])
  | [], _ => ⟨Int.le_refl _, fun _ => rfl⟩
  | r :: l, h => by
    have h1 := h r (.head _)
    have h2 := tot_pos (l := l) fun q hq => h q (.tail _ hq)
    rw [tot_cons]
    exact ⟨by omega, fun h => by omega⟩
theorem Cov.done {rows : List Ivl} (h : Cov rows []) : rows = [] := (tot_pos h.srt.2).2 (by rw [h.tot]; rfl)
theorem Cov.some {rows L : List Ivl} {l : Ivl} (h : Cov rows L) (hl : l ∈ L) : rows ≠ [] := by
  obtain ⟨_, r, hr, _⟩ := h.inn l hl
  intro e
  rw [e] at hr
  cases hr
/-- the row that bears the end is the last one -/
theorem Cov.last {rows L : List Ivl} {n : Int} (h : Cov rows L) (hl : (n, 65535) ∈ L) : ∃ rs lo, rows = rs ++ [(lo, 65535)] ∧ lo ≤ n := by
  obtain ⟨_, r, hr, h1, h2⟩ := h.inn _ hl
  obtain ⟨A, B, rfl⟩ := List.append_of_mem hr
  have htr := h.top r hr
  cases B with
  | nil => exact ⟨A, r.1, by rw [show r = (r.1, (65535 : Int)) from Prod.ext rfl (by dsimp only at h2 ⊢; omega)], h1⟩
  | cons c B =>
    exfalso
    have hc : c ∈ A ++ r :: c :: B := List.mem_append_right _ (.tail _ (.head _))
    have z1 := h.top c hc
    have z2 := h.srt.2 c hc
    have z3 := h.srt.1
    rw [List.pairwise_append, List.pairwise_cons] at z3
    have z4 := z3.2.1.1 c (.head _)
    dsimp only at h2
    omega
end
-- Inv
section
example : True := by
  w_top off
  trivial
def ivl (ps : List Pc) : List Ivl := ps.map fun p => (p.off, p.off + (p.b.size : Int))
def tl (N : Nat) (en : Option Int) : List Ivl := if en.isNone = true then [((N : Int), 65535)] else []
theorem ivl_append {a b : List Pc} : ivl (a ++ b) = ivl a ++ ivl b := by simp [ivl]
theorem ivl_cons {p : Pc} {b : List Pc} : ivl (p :: b) = (p.off, p.off + (p.b.size : Int)) :: ivl b := rfl
/-- what holds of a datagram while the pieces ps are left -/
structure PInv (N k : Nat) (S : DgSt) (ps : List Pc) : Prop where
  cov : Cov S.rows (ivl ps ++ tl N S.en)
  wf : ∀ p ∈ ps, 0 ≤ p.off ∧ p.off + (p.b.size : Int) ≤ N ∧ (p.more = true → p.off + (p.b.size : Int) < N ∧ p.b.size % 8 = 0) ∧ (p.more = false → p.off + (p.b.size : Int) = N)
  en : (S.en = none ∧ ∃ p ∈ ps, p.more = false) ∨ (S.en = some (N : Int) ∧ ∀ p ∈ ps, p.more = true)
  ah : S.ah < N
  fst : (S.fst = none ∧ ∃ p ∈ ps, p.off = 0) ∨ ((∃ x, S.fst = some x) ∧ ∀ p ∈ ps, p.off ≠ 0)
  cnt : S.parts.length + ps.length = k
  sum : (S.parts.map (·.2)).sum + (ps.map (·.b.size)).sum = N
  offs : (S.parts.map (·.1) ++ ps.map (·.off)).Nodup
  sz : S.sz = (((S.parts.map (·.2)).sum : Nat) : Int)
  few : S.rows.length ≤ 2 * S.parts.length + 1
theorem PInv.pos {N k : Nat} {S : DgSt} {ps : List Pc} (h : PInv N k S ps) {p : Pc} (hp : p ∈ ps) : 0 < p.b.size := by
  have := (h.cov.inn (p.off, p.off + (p.b.size : Int)) (List.mem_append_left _ (List.mem_map.mpr ⟨p, hp, rfl⟩))).1
  dsimp only at this
  omega
theorem PInv.split {N k : Nat} {S : DgSt} {l1 l2 : List Pc} {p : Pc} (h : PInv N k S (l1 ++ p :: l2)) : Cov S.rows (ivl l1 ++ (p.off, p.off + (p.b.size : Int)) :: (ivl l2 ++ tl N S.en)) := by
  have := h.cov
  rw [ivl_append, ivl_cons, List.append_assoc] at this
  exact this
theorem PInv.apart {N k : Nat} {S : DgSt} {l1 l2 : List Pc} {p q : Pc} (h : PInv N k S (l1 ++ p :: l2)) (hq : q ∈ l1 ++ l2) : q.off + (q.b.size : Int) ≤ p.off ∨ p.off + (p.b.size : Int) ≤ q.off := by
  have hd := h.split.dis
  rw [List.pairwise_append, List.pairwise_cons] at hd
  rcases List.mem_append.mp hq with hq | hq
  · exact hd.2.2 (q.off, q.off + (q.b.size : Int)) (List.mem_map.mpr ⟨q, hq, rfl⟩) _ (.head _)
  · exact (hd.2.1.1 (q.off, q.off + (q.b.size : Int)) (List.mem_append_left _ (List.mem_map.mpr ⟨q, hq, rfl⟩))).symm
theorem mem_other {l1 l2 : List Pc} {p q : Pc} (hq : q ∈ l1 ++ l2) : q ∈ l1 ++ p :: l2 := by
  rcases List.mem_append.mp hq with hq | hq
  · exact List.mem_append_left _ hq
  · exact List.mem_append_right _ (.tail _ hq)
theorem PInv.putOk {N k : Nat} {S : DgSt} {l1 l2 : List Pc} {p : Pc} (h : PInv N k S (l1 ++ p :: l2)) (hk : k ≤ 6) (hN : N ≤ 48) : PutOk S p.off p.b.size p.more := by
  have hp : p ∈ l1 ++ p :: l2 := List.mem_append_right _ (.head _)
  obtain ⟨w1, w2, w3, w4⟩ := h.wf p hp
  have hpos := h.pos hp
  have hc := h.cnt
  have hf := h.few
  rw [List.length_append, List.length_cons] at hc
  refine ⟨h.split.step.1, w1, by omega, by omega, by omega, ?_, ?_, ?_⟩
  · intro h0
    rcases h.fst with ⟨h1, _⟩ | ⟨_, h1⟩
    · exact h1
    · exact absurd h0 (h1 p hp)
  · intro hm E hE
    rcases h.en with ⟨h1, _⟩ | ⟨h1, _⟩
    · rw [h1] at hE; cases hE
    · rw [h1] at hE
      cases hE
      exact (w3 hm).1
  · intro hm
    rcases h.en with ⟨h1, _⟩ | ⟨_, h1⟩
    · have hah := h.ah
      have hend := w4 hm
      refine ⟨h1, by omega, hpos, ?_⟩
      have hin : ((N : Int), (65535 : Int)) ∈ ivl (l1 ++ p :: l2) ++ tl N S.en := by
        rw [h1]
        exact List.mem_append_right _ (.head _)
      obtain ⟨rs, lo, e1, e2⟩ := h.cov.last hin
      exact ⟨rs, lo, e1, by omega⟩
    · exact absurd (h1 p hp) (by rw [hm]; decide)
theorem PInv.step {N k : Nat} {S : DgSt} {l1 l2 : List Pc} {p : Pc} (h : PInv N k S (l1 ++ p :: l2)) (hN : N ≤ 48) (x : Addr) : PInv N k (dstep S p.off p.b.size p.more x) (l1 ++ l2) := by
  have hp : p ∈ l1 ++ p :: l2 := List.mem_append_right _ (.head _)
  obtain ⟨w1, w2, w3, w4⟩ := h.wf p hp
  have hpos := h.pos hp
  have hcnt := h.cnt
  have hsum := h.sum
  have hsz := h.sz
  have hfew := h.few
  have hah := h.ah
  obtain ⟨_, c1, c2⟩ := h.split.step
  dsimp only at c1 c2
  have hperm : (S.parts.map (·.1) ++ (l1 ++ p :: l2).map (·.off)).Perm ((S.parts ++ [(p.off, p.b.size)]).map (·.1) ++ (l1 ++ l2).map (·.off)) := by
    rw [List.map_append, List.map_append, List.map_append, List.map_cons, List.map_cons, List.map_nil, List.append_assoc]
    refine List.Perm.append_left _ ?_
    exact List.perm_middle
  have hcov : Cov (dstep S p.off p.b.size p.more x).rows (ivl (l1 ++ l2) ++ tl N (dstep S p.off p.b.size p.more x).en) ∧ (dstep S p.off p.b.size p.more x).rows.length ≤ S.rows.length + 2 := by
    cases hm : p.more with
    | true =>
      simp only [dstep, if_true]
      rw [ivl_append, List.append_assoc]
      exact ⟨c1, by omega⟩
    | false =>
      rcases h.en with ⟨h1, _⟩ | ⟨_, h1⟩
      · simp only [dstep, Bool.false_eq_true, if_false]
        have hend := w4 hm
        rw [h1] at c1
        have c3 : Cov (fillRows p.off (p.off + (p.b.size : Int)) S.rows) ((ivl l1 ++ ivl l2) ++ ((N : Int), (65535 : Int)) :: []) := by
          rw [List.append_assoc]
          exact c1
        obtain ⟨_, c4, c5⟩ := c3.step
        dsimp only at c4 c5
        rw [hend] at c4 c5 ⊢
        rw [hend] at c2
        refine ⟨?_, by omega⟩
        rw [ivl_append]
        exact c4
      · exact absurd (h1 p hp) (by rw [hm]; decide)
  refine ⟨hcov.1, ?_, ?_, ?_, ?_, ?_, ?_, ?_, ?_, ?_⟩
  · exact fun q hq => h.wf q (mem_other hq)
  · cases hm : p.more with
    | true =>
      rcases h.en with ⟨h1, q, hq, hqm⟩ | ⟨h1, h2⟩
      · refine .inl ⟨by simp only [dstep, if_true]; exact h1, q, ?_, hqm⟩
        rcases List.mem_append.mp hq with hq | hq
        · exact List.mem_append_left _ hq
        · rcases List.mem_cons.mp hq with rfl | hq
          · rw [hm] at hqm; cases hqm
          · exact List.mem_append_right _ hq
      · exact .inr ⟨by simp only [dstep, if_true]; exact h1, fun q hq => h2 q (mem_other hq)⟩
    | false =>
      have hend := w4 hm
      refine .inr ⟨by simp only [dstep, Bool.false_eq_true, if_false]; rw [hend], fun q hq => ?_⟩
      cases hqm : q.more with
      | true => rfl
      | false =>
        exfalso
        obtain ⟨_, _, _, v4⟩ := h.wf q (mem_other hq)
        have hqe := v4 hqm
        have hqp := h.pos (mem_other (p := p) hq)
        have := h.apart hq
        omega
  · cases hm : p.more with
    | true =>
      have := (w3 hm).1
      simp only [dstep, if_true]
      split <;> omega
    | false =>
      simp only [dstep, Bool.false_eq_true, if_false]
      exact hah
  · by_cases h0 : p.off = 0
    · refine .inr ⟨⟨x, by simp only [dstep]; rw [if_pos h0]⟩, fun q hq hq0 => ?_⟩
      have hqp := h.pos (mem_other (p := p) hq)
      have := h.apart hq
      omega
    · rcases h.fst with ⟨h1, q, hq, hq0⟩ | ⟨h1, h2⟩
      · refine .inl ⟨by simp only [dstep]; rw [if_neg h0]; exact h1, q, ?_, hq0⟩
        rcases List.mem_append.mp hq with hq | hq
        · exact List.mem_append_left _ hq
        · rcases List.mem_cons.mp hq with rfl | hq
          · exact absurd hq0 h0
          · exact List.mem_append_right _ hq
      · exact .inr ⟨by simp only [dstep]; rw [if_neg h0]; exact h1, fun q hq => h2 q (mem_other hq)⟩
  · simp only [dstep, List.length_append, List.length_cons, List.length_nil] at hcnt ⊢
    omega
  · simp only [dstep, List.map_append, List.map_cons, List.map_nil, List.sum_append, List.sum_cons, List.sum_nil] at hsum ⊢
    omega
  · exact hperm.nodup_iff.mp h.offs
  · simp only [dstep, List.map_append, List.map_cons, List.map_nil, List.sum_append, List.sum_cons, List.sum_nil]
    omega
  · have := hcov.2
    simp only [dstep, List.length_append, List.length_cons, List.length_nil] at this ⊢
    omega
theorem PInv.wh_nil {N k : Nat} {S : DgSt} (h : PInv N k S []) : isWh S = true ∧ S.en = some (N : Int) := by
  have e1 : S.en = some (N : Int) := by
    rcases h.en with ⟨_, q, hq, _⟩ | ⟨h1, _⟩
    · cases hq
    · exact h1
  have e2 : ∃ x, S.fst = some x := by
    rcases h.fst with ⟨_, q, hq, _⟩ | ⟨h1, _⟩
    · cases hq
    · exact h1
  obtain ⟨x, e2⟩ := e2
  have hc := h.cov
  rw [e1] at hc
  have e3 := hc.done
  unfold isWh
  rw [e1, e2, e3]
  exact ⟨rfl, rfl⟩
theorem PInv.wh_cons {N k : Nat} {S : DgSt} {ps : List Pc} (h : PInv N k S ps) (hne : ps ≠ []) : isWh S = false := by
  obtain ⟨p, l, rfl⟩ := List.exists_cons_of_ne_nil hne
  have h1 := h.cov.some (l := (p.off, p.off + (p.b.size : Int))) (.head _)
  unfold isWh
  cases hr : S.rows with
  | nil => exact absurd hr h1
  | cons r l => simp
theorem PInv.szs {N k : Nat} {S : DgSt} {ps : List Pc} (h : PInv N k S ps) (hN : N ≤ 48) : 0 ≤ S.sz ∧ S.sz ≤ 999 := by
  have h1 := h.sz
  have h2 := h.sum
  omega
end
-- Inv2
section
example : True := by
  w_top off
  trivial
theorem tot_ivl : ∀ (l : List Pc), tot (ivl l) = (((l.map (·.b.size)).sum : Nat) : Int)
  | [] => rfl
  | p :: l => by
    rw [ivl_cons, tot_cons, tot_ivl l, List.map_cons, List.sum_cons]
    dsimp only
    omega
theorem rep_sum : ∀ (n R : Nat), (List.replicate n R).sum = n * R
  | 0, R => by simp
  | n + 1, R => by rw [List.replicate_succ, List.sum_cons, rep_sum n R, Nat.succ_mul]; omega
theorem PInv.start {N : Nat} {m d : Int} {ps : List Pc} (h : CutOk N m d 0 false ps) (h2 : 2 ≤ ps.length) (hbig : ¬ (N : Int) + 20 ≤ m) (hN : N ≤ 48) : PInv N ps.length S0 ps ∧ ps.length ≤ 6 := by
  obtain ⟨R, h8, h3, _, hlt, h1, hp⟩ := h
  have hlt := (hlt hbig).2
  have sz : ∀ i (hi : i < ps.length), (ps[i]).off = ((i * R : Nat) : Int) ∧ (ps[i]).more = (if i + 1 = ps.length then false else true) ∧ (ps[i]).b.size = (if i + 1 = ps.length then N - i * R else R) := by
    intro i hi
    obtain ⟨a1, a2, a3⟩ := hp i ps[i] (List.getElem?_eq_getElem hi)
    refine ⟨by rw [a1]; omega, a2, ?_⟩
    rw [← KBw.ints_length, a3, List.length_replicate]
  have hle : ∀ i, i + 1 < ps.length → i * R + R ≤ (ps.length - 1) * R := fun i hi => by
    have := Nat.mul_le_mul_right R (show i + 1 ≤ ps.length - 1 by omega)
    rw [Nat.succ_mul] at this
    exact this
  have hle2 : ∀ i, i < ps.length → i * R ≤ (ps.length - 1) * R := fun i hi => Nat.mul_le_mul_right R (by omega)
  have len6 : ps.length ≤ 6 := by
    have := Nat.mul_le_mul_left (ps.length - 1) h8
    omega
  have hmap : ps.map (·.b.size) = List.replicate (ps.length - 1) R ++ [N - (ps.length - 1) * R] := by
    refine List.ext_getElem (by simp; omega) fun i a b => ?_
    rw [List.length_map] at a
    rw [List.getElem_map, (sz i a).2.2]
    by_cases hl : i + 1 = ps.length
    · rw [if_pos hl, List.getElem_append_right (by simp; omega)]
      have e : i = ps.length - 1 := by omega
      subst e
      simp
    · rw [if_neg hl, List.getElem_append_left (by simp; omega)]
      simp
  have hsum : (ps.map (·.b.size)).sum = N := by
    rw [hmap, List.sum_append, rep_sum]
    simp
    omega
  have every : ∀ p ∈ ps, ∃ i, ∃ hi : i < ps.length, ps[i] = p := fun p hp => List.mem_iff_getElem.mp hp
  have wf : ∀ p ∈ ps, 0 ≤ p.off ∧ p.off + (p.b.size : Int) ≤ N ∧ 0 < p.b.size ∧ (p.more = true → p.off + (p.b.size : Int) < N ∧ p.b.size % 8 = 0) ∧ (p.more = false → p.off + (p.b.size : Int) = N) := by
    intro p hp
    obtain ⟨i, hi, rfl⟩ := every p hp
    obtain ⟨a1, a2, a3⟩ := sz i hi
    rw [a1, a2, a3]
    have z2 := hle2 i hi
    by_cases hl : i + 1 = ps.length
    · rw [if_pos hl, if_pos hl]
      refine ⟨by omega, by omega, by omega, fun h => (nomatch h), fun _ => by omega⟩
    · rw [if_neg hl, if_neg hl]
      have z1 := hle i (by omega)
      refine ⟨by omega, by omega, by omega, fun _ => ⟨by omega, h3⟩, fun h => (nomatch h)⟩
  refine ⟨⟨⟨⟨by simp [S0], ?_⟩, ?_, ?_, ?_, ?_⟩, fun p hp => ⟨(wf p hp).1, (wf p hp).2.1, (wf p hp).2.2.2.1, (wf p hp).2.2.2.2⟩, .inl ⟨rfl, ?_⟩, by simp only [S0]; omega, .inl ⟨rfl, ?_⟩, by simp [S0], by simp only [S0, List.map_nil, List.sum_nil]; omega, ?_, rfl, by simp [S0]⟩, len6⟩
  · intro r hr
    rw [show r = ((0 : Int), (65535 : Int)) from List.mem_singleton.mp hr]
    decide
  · intro r hr
    rw [show r = ((0 : Int), (65535 : Int)) from List.mem_singleton.mp hr]
    decide
  · intro l hl
    rcases List.mem_append.mp hl with hl | hl
    · obtain ⟨p, hp, rfl⟩ := List.mem_map.mp hl
      obtain ⟨a1, a2, a3, _, _⟩ := wf p hp
      exact ⟨by dsimp only; omega, (0, 65535), .head _, a1, by dsimp only; omega⟩
    · rw [show l = ((N : Int), (65535 : Int)) from List.mem_singleton.mp hl]
      exact ⟨by dsimp only; omega, (0, 65535), .head _, by dsimp only; omega, Int.le_refl _⟩
  · rw [List.pairwise_append]
    refine ⟨?_, List.pairwise_singleton _ _, ?_⟩
    · unfold ivl
      rw [List.pairwise_map, List.pairwise_iff_getElem]
      intro i j hi hj hij
      obtain ⟨a1, a2, a3⟩ := sz i hi
      obtain ⟨b1, _, _⟩ := sz j hj
      refine .inl ?_
      dsimp only
      rw [a1, a3, b1, if_neg (by omega)]
      have := Nat.mul_le_mul_right R (show i + 1 ≤ j by omega)
      rw [Nat.succ_mul] at this
      omega
    · intro a ha b hb
      obtain ⟨p, hp, rfl⟩ := List.mem_map.mp ha
      rw [show b = ((N : Int), (65535 : Int)) from List.mem_singleton.mp hb]
      exact .inl (wf p hp).2.1
  · rw [tot_append, tot_ivl, hsum]
    simp [tot, S0, tl]
    omega
  · have hi : ps.length - 1 < ps.length := by omega
    exact ⟨ps[ps.length - 1], List.getElem_mem hi, by rw [(sz _ hi).2.1, if_pos (by omega)]⟩
  · have hi : 0 < ps.length := by omega
    exact ⟨ps[0], List.getElem_mem hi, by rw [(sz _ hi).1]; simp⟩
  · show (([] : List Int) ++ ps.map (·.off)).Nodup
    rw [List.nil_append]
    unfold List.Nodup
    rw [List.pairwise_map, List.pairwise_iff_getElem]
    intro i j hi hj hij
    rw [(sz i hi).1, (sz j hj).1]
    have := Nat.mul_le_mul_right R (show i + 1 ≤ j by omega)
    rw [Nat.succ_mul] at this
    omega
theorem nodup_pw {α β : Type} {f : α → β} {l : List α} (h : (l.map f).Nodup) : l.Pairwise fun p q => f p ≠ f q := by
  unfold List.Nodup at h
  rw [List.pairwise_map] at h
  exact h
theorem PInv.fin {w : World} {tp : Led} {N k : Nat} {src tgt ident : Int} {S : DgSt} (h : PInv N k S []) (hk2 : 2 ≤ k) (hk6 : k ≤ 6) (hN : N ≤ 48) (hh : ∀ x0, S.fst = some x0 → ∃ mo o0, HdrAt w tp x0 ⟨src, tgt, ident, mo, o0⟩) : FinOk w tp src tgt ident S := by
  have hc := h.cnt
  have hs := h.sum
  simp only [List.length_nil, List.map_nil, List.sum_nil, Nat.add_zero] at hc hs
  refine ⟨?_, ⟨N, h.wh_nil.2, by omega, by omega⟩, by omega, by omega, ?_, by omega⟩
  · rcases h.fst with ⟨_, q, hq, _⟩ | ⟨⟨x0, h1⟩, _⟩
    · cases hq
    · obtain ⟨mo, o0, h2⟩ := hh x0 h1
      exact ⟨x0, mo, o0, h1, h2⟩
  · have h1 := h.offs
    rw [List.map_nil, List.append_nil] at h1
    exact nodup_pw h1
end
-- RaSt
section
example : True := by
  w_top off
  trivial
/-- a piece with its octets -/
def PcOk (w : World) (nw : Led) (src tgt ident d : Int) (p : Pc) : Prop := PcAt w nw src tgt ident p ∧ KBw.bInts p.b = List.replicate p.b.size d
theorem PcOk.mono {w : World} {nw nw' : Led} {src tgt ident d : Int} {p : Pc} (h : PcOk w nw src tgt ident d p) (hs : ∀ q ∈ nw, q ∈ nw') : PcOk w nw' src tgt ident d p := ⟨h.1.mono hs, h.2⟩
/-- how the putting together stands while the pieces ps are left: the last answer, and the ledger of it -/
inductive RaSt (w : World) (rx wl : Addr) (src tgt ident d : Int) (N k : Nat) (base : Led) : List Pc → Value → Led → Prop
  | fresh {ps : List Pc} {nw : Nat} {tp : Led} {r : Value} : RaAt w rx wl tp → (∀ p ∈ base, p ∈ tp) → (∀ p ∈ tp, p.1 ≠ wl) → 2 ≤ k → (∀ q ∈ ps, q.off = 0 → q.more = true) → PInv N k S0 ps → RaSt w rx wl src tgt ident d N k base ps r ((wl, dictOf [] nw) :: tp)
  | one {p : Pc} {nw : Nat} {tp : Led} {r : Value} : RaAt w rx wl tp → (∀ p ∈ base, p ∈ tp) → p.off = 0 → p.more = false → KBw.bInts p.b = List.replicate N d → RaSt w rx wl src tgt ident d N k base [p] r ((wl, dictOf [] nw) :: tp)
  | run {ps : List Pc} {gx kt : Addr} {ok : Obj} {nw : Nat} {m1 m2 m3 : Addr × Obj} {tp : Led} {S : DgSt} : RaAt w rx wl tp → (∀ p ∈ base, p ∈ tp) → KeyObj src tgt 17 ident ok → (kt, ok) ∈ tp → DgAt w gx d S m1 m2 m3 tp →
      (∀ x0, S.fst = some x0 → ∃ mo o0, HdrAt w tp x0 ⟨src, tgt, ident, mo, o0⟩) → 2 ≤ k → (∀ q ∈ ps, q.off = 0 → q.more = true) → PInv N k S ps → ps ≠ [] → (∀ p ∈ m1 :: m2 :: m3 :: tp, p.1 ≠ wl) →
      RaSt w rx wl src tgt ident d N k base ps .none ((wl, dictOf (oneEs w src tgt 17 ident kt (.ref gx)) nw) :: m1 :: m2 :: m3 :: tp)
  | done {t hx : Addr} {b : Array UInt8} {tb : Tok} {n : Nat} {R : Led} : (t, pairOf (.ref hx) (.bytes b tb) n) ∈ R → HdrAt w R hx ⟨src, tgt, ident, false, 0⟩ → KBw.bInts b = List.replicate N d → (∀ p ∈ base, p ∈ R) →
      RaSt w rx wl src tgt ident d N k base [] (.ref t) R
theorem dstep_fst {w : World} {tp : Led} {src tgt ident : Int} {S : DgSt} {p : Pc} (h : ∀ x0, S.fst = some x0 → ∃ mo o0, HdrAt w tp x0 ⟨src, tgt, ident, mo, o0⟩) (hp : HdrAt w tp p.x ⟨src, tgt, ident, p.more, p.off⟩) :
    ∀ x0, (dstep S p.off p.b.size p.more p.x).fst = some x0 → ∃ mo o0, HdrAt w tp x0 ⟨src, tgt, ident, mo, o0⟩ := by
  intro x0 hx
  simp only [dstep] at hx
  split at hx
  · cases hx; exact ⟨_, _, hp⟩
  · exact h x0 hx
theorem other_len {l1 l2 : List Pc} {p : Pc} : (l1 ++ p :: l2).length = (l1 ++ l2).length + 1 := by simp; omega
set_option maxHeartbeats 4000000 in
theorem rput_any {w : World} {rx wl : Addr} {src tgt ident d : Int} {N k : Nat} {base R rest : Led} {l1 l2 : List Pc} {p : Pc} {r : Value} {tn : Tok}
    (h : RaSt w rx wl src tgt ident d N k base (l1 ++ p :: l2) r R) (hp : PcOk w base src tgt ident d p) (hk6 : k ≤ 6) (hN : N ≤ 48)
    (ha : ∀ p ∈ rest, ∀ q ∈ R, p.1 ≠ q.1) :
    Ct w 415 [.ref rx, .ref p.x, .bytes p.b p.tb, .int 1 tn] (R ++ rest) 70 (fun r' n' => ∃ R', n' = R' ++ rest ∧ RaSt w rx wl src tgt ident d N k base (l1 ++ l2) r' R' ∧ ((l1 ++ l2 = [] → ∃ t, r' = .ref t) ∧ (l1 ++ l2 ≠ [] → r' = .none)) ∧ ∀ p ∈ R', ∀ q ∈ rest, p.1 ≠ q.1) := by
  generalize hL : l1 ++ p :: l2 = L at h
  cases h with
  | fresh hR hb hw h2 hz hI =>
    rename_i nw tp
    subst hL
    have hpm : p ∈ l1 ++ p :: l2 := List.mem_append_right _ (.head _)
    have hH := hp.1.2.mono hb
    refine hideG ?_
    intro PZ bkZ
    obtain ⟨w1, w2, w3, w4⟩ := hI.wf p hpm
    refine bkZ ?_
    clear bkZ PZ
    have hpos := hI.pos hpm
    have hne : l1 ++ l2 ≠ [] := fun e => by
      have hc := hI.cnt
      rw [other_len, e] at hc
      simp [S0] at hc
      omega
    have hI2 := hI.step hN p.x
    have hno := hz p hpm
    refine Ct.mono (rput_new hR hH hp.2 (hI.putOk hk6 hN) hno rfl (hI2.szs hN).1 (hI2.szs hN).2 (hI2.wh_cons hne) (fun hm => ⟨hpos, (w3 hm).2⟩) hw ha) ?_
    rintro r' n' ⟨n0, rfl, ⟨rfl, gx, kt, ok, nw', m1', m2', m3', tp', hk, hkt, rfl, hD, hs, ho⟩, hsep⟩
    exact ⟨_, rfl, .run (hR.mono hs) (fun q hq => hs q (hb q hq)) hk hkt hD (dstep_fst (S := S0) (fun x0 hx => nomatch hx) (hH.mono hs)) h2 (fun q hq => hz q (mem_other hq)) hI2 hne ho, ⟨fun e => absurd e hne, fun _ => rfl⟩, hsep⟩
  | one hR hb h0 hm hb2 =>
    rename_i p0 nw tp
    cases l1 with
    | cons a l => 
      injection hL with _ e
      exact absurd e (by simp)
    | nil =>
    injection hL with e1 e2
    subst e1 e2
    have hH : HdrAt w (((wl, dictOf [] nw) :: tp) ++ rest) p.x ⟨src, tgt, ident, false, 0⟩ := by
      have z := hp.1.2.mono (news' := ((wl, dictOf [] nw) :: tp) ++ rest) fun q hq => List.mem_append_left _ (.tail _ (hb q hq))
      rw [hm, h0] at z
      exact z
    have C := rput_one (rx := rx) (pb := p.b) (tk := p.tb) (tn := tn) hH
    intro mean mg mb dp un gd cn cs ad ccd cl outer A₀ base0 h₀ L m s Q E B F X N9 T hkk hd hu ret
    refine C mean mg mb dp un gd cn cs ad ccd cl outer A₀ base0 h₀ L m s Q E B F X N9 T hkk (by omega) (by omega) ?_
    rintro r' n' h' tk' F' N' ⟨new, rfl, ⟨t, rfl, rfl⟩, hsep⟩
    refine ret _ _ h' tk' F' N' ⟨(t, pairOf (.ref p.x) (.bytes p.b p.tb) 0) :: ((wl, dictOf [] nw) :: tp), rfl, .done (.head _) ?_ hb2 fun q hq => .tail _ (.tail _ (hb q hq)), ⟨fun _ => ⟨_, rfl⟩, fun e => absurd rfl e⟩, ?_⟩
    · have z := hp.1.2.mono (news' := (t, pairOf (.ref p.x) (.bytes p.b p.tb) 0) :: ((wl, dictOf [] nw) :: tp)) fun q hq => .tail _ (.tail _ (hb q hq))
      rw [hm, h0] at z
      exact z
    · intro q hq y hy
      rcases List.mem_cons.mp hq with rfl | hq
      · exact hsep _ (.head _) y (List.mem_append_right _ hy)
      · exact (ha y hy q hq).symm
  | run hR hb hk hkt hD hf hk2' hz hI hne ho =>
    rename_i gx kt ok nw m1 m2 m3 tp S
    subst hL
    have hpm : p ∈ l1 ++ p :: l2 := List.mem_append_right _ (.head _)
    have hH := hp.1.2.mono hb
    refine hideG ?_
    intro PZ bkZ
    obtain ⟨w1, w2, w3, w4⟩ := hI.wf p hpm
    refine bkZ ?_
    clear bkZ PZ
    have hpos := hI.pos hpm
    have hI2 := hI.step hN p.x
    have hf2 := dstep_fst hf hH
    have hno := hz p hpm
    have hfin : isWh (dstep S p.off p.b.size p.more p.x) = true → FinOk w tp src tgt ident (dstep S p.off p.b.size p.more p.x) := by
      intro hw
      have he : l1 ++ l2 = [] := by
        by_cases he : l1 ++ l2 = []
        · exact he
        · rw [hI2.wh_cons he] at hw; cases hw
      rw [he] at hI2
      exact hI2.fin hk2' hk6 hN hf2
    refine Ct.mono (rput_old hR hD hk hkt hH hp.2 (hI.putOk hk6 hN) hno rfl (hI2.szs hN).1 (hI2.szs hN).2 hfin (fun hm => ⟨hpos, (w3 hm).2⟩) ho ha) ?_
    rintro r' n' ⟨n0, rfl, he, hsep⟩
    rcases he with ⟨hw, rfl, m1', m2', m3', tp', rfl, hD', hs, ho'⟩ | ⟨hw, t, hx, b, tb, n, rfl, ht, hh, hbb, hs⟩
    · have hne2 : l1 ++ l2 ≠ [] := fun e => by
        rw [e] at hI2
        rw [hI2.wh_nil.1] at hw; cases hw
      refine ⟨_, rfl, .run (hR.mono hs) (fun q hq => hs q (hb q hq)) hk (hs _ hkt) hD' (fun x0 hx => let ⟨mo, o0, h⟩ := hf2 x0 hx; ⟨mo, o0, h.mono hs⟩) hk2' (fun q hq => hz q (mem_other hq)) hI2 hne2 ho', ⟨fun e => absurd e hne2, fun _ => rfl⟩, hsep⟩
    · have he : l1 ++ l2 = [] := by
        by_cases he : l1 ++ l2 = []
        · exact he
        · rw [hI2.wh_cons he] at hw; cases hw
      rw [he] at hI2 ⊢
      have hsum := hI2.sum
      simp only [List.map_nil, List.sum_nil, Nat.add_zero] at hsum
      rw [hsum] at hbb
      exact ⟨n0, rfl, .done ht hh hbb fun q hq => hs q (hb q hq), ⟨fun _ => ⟨_, rfl⟩, fun e => absurd rfl e⟩, hsep⟩
  | done h1 h2 h3 h4 => exact absurd hL (by simp)
theorem RaSt.ra {w : World} {rx wl : Addr} {src tgt ident d : Int} {N k : Nat} {base R : Led} {ps : List Pc} {r : Value} (h : RaSt w rx wl src tgt ident d N k base ps r R) (hne : ps ≠ []) : RaAt w rx wl R := by
  cases h with
  | fresh hR => exact hR.mono fun q hq => .tail _ hq
  | one hR => exact hR.mono fun q hq => .tail _ hq
  | run hR => exact hR.mono fun q hq => .tail _ (.tail _ (.tail _ (.tail _ hq)))
  | done => exact absurd rfl hne
theorem RaSt.sub {w : World} {rx wl : Addr} {src tgt ident d : Int} {N k : Nat} {base R : Led} {ps : List Pc} {r : Value} (h : RaSt w rx wl src tgt ident d N k base ps r R) : ∀ p ∈ base, p ∈ R := by
  cases h with
  | fresh _ hb => exact fun q hq => .tail _ (hb q hq)
  | one _ hb => exact fun q hq => .tail _ (hb q hq)
  | run _ hb => exact fun q hq => .tail _ (.tail _ (.tail _ (.tail _ (hb q hq))))
  | done _ _ _ hb => exact hb
theorem RaSt.fin {w : World} {rx wl : Addr} {src tgt ident d : Int} {N k : Nat} {base R : Led} {r : Value} (h : RaSt w rx wl src tgt ident d N k base [] r R) :
    ∃ t hx b tb n, r = .ref t ∧ (t, pairOf (.ref hx) (.bytes b tb) n) ∈ R ∧ HdrAt w R hx ⟨src, tgt, ident, false, 0⟩ ∧ KBw.bInts b = List.replicate N d := by
  generalize hL : ([] : List Pc) = L at h
  cases h with
  | fresh _ _ _ hk _ hI =>
    subst hL
    have hc := hI.cnt
    simp [S0] at hc
    omega
  | one => cases hL
  | run _ _ _ _ _ _ _ _ _ hne => exact absurd hL.symm hne
  | done h1 h2 h3 h4 => exact ⟨_, _, _, _, _, rfl, h1, h2, h3⟩
section
open PySem.Calls PySem.SeqAt
variable {prog : Program} {w : World} {A : Around} {E : Value → Shared → Prop} {s : Shared} {h₀ : Heap} {L ll : Addr} {m : Str → Option Value} {rest : Led} {n : Nat} {l1 l2 : List Pc} {p : Pc}
theorem cut_at : ∀ (a c : List Value) (y : Value), kl_cut (a ++ y :: c) a.length = some (a, y, c)
  | [], c, y => rfl
  | x :: a, c, y => by
    show (match kl_cut (a ++ y :: c) a.length with | some (p, y, q) => some (x :: p, y, q) | none => none) = _
    rw [cut_at a c y]
theorem pop_pcs {i : Int} {u : Tok} {Q : Value → Shared → Prop} (F : Fr h₀ L s.heap m) (N : News h₀ L s.heap ((ll, listOf (pcs (l1 ++ p :: l2)).toArray n) :: rest)) (hr : ∀ q ∈ rest, q.1 ≠ ll) (hsz : (l1 ++ p :: l2).length ≤ 1000) (hi : i = (l1.length : Int))
    (h : ∀ h', Fr h₀ L h' m → News h₀ L h' ((ll, listOf (pcs (l1 ++ l2)).toArray (n + 1)) :: rest) → Q (.ref p.t) { s with heap := h' }) : wpAny (model prog w) A (call (.builtin "list.pop") [.ref ll, .int i u]) Q E s := by
  subst hi
  rw [List.length_append, List.length_cons] at hsz
  have e1 : (pcs l1).length = l1.length := List.length_map _
  have e2 : (pcs (l1 ++ p :: l2)).toArray.size = l1.length + (l2.length + 1) := by simp
  have e3 : pcs (l1 ++ l2) = pcs l1 ++ pcs l2 := List.map_append
  have e4 : pcs (l1 ++ p :: l2) = pcs l1 ++ .ref p.t :: pcs l2 := by simp [pcs]
  rw [e3] at h
  refine kl_popAt (k := l1.length) (p := pcs l1) (q := pcs l2) (y := .ref p.t) F N ?_ ?_ ?_ (Upd.head hr) (by rw [e4]; simp [sizeLine_eq]; omega) h
  · unfold Builtin.List.listFitsIndex
    simp
    omega
  · unfold seqIndex?
    rw [e2]
    have h1 : ¬ ((l1.length : Int) < 0) := by omega
    simp only [if_neg h1]
    rw [if_pos (by simp only [Bool.and_eq_true, decide_eq_true_eq]; omega)]
    simp
  · have z := cut_at (pcs l1) (pcs l2) (.ref p.t)
    rw [e1] at z
    rw [e4]
    exact z
theorem cmp_ne_zero {a b : Addr} {Q : Value → Shared → Prop} (ha : s.heap.IsList a #[]) (hb : s.heap.IsList b #[]) (hu : A.units < cLine)
    (h : Q (.bool false) s) : wpAny (model prog w) A (compareOp .NotEq (.ref a) (.ref b)) Q E s := cmp_ne_nil ha hb hu h
end
end
-- Take
section
local macro_rules | `(tactic| walk_at "pad") => `(tactic| skip)
example : True := by
  w_top off
  trivial
set_option maxHeartbeats 4000000 in
theorem take_ct {w : World} {src : Addr} {a b top : Int} {ta tb tt : Tok} {n : Nat} {rest : Led} (ha : 0 ≤ a) (hb : 0 ≤ b) (hb2 : b < 2147483647) (ht : 0 < top) (ht2 : top ≤ 2147483648) (hap : ∀ p ∈ rest, p.1 ≠ src) :
    Ct w 469 [.ref src, .int top tt] ((src, listOf #[.int a ta, .int b tb] n) :: rest) 3 (fun r news' => ∃ d t a' b' ta' tb', r = .int d t ∧ 0 ≤ d ∧ d < top ∧ 0 ≤ a' ∧ 0 ≤ b' ∧ b' < 2147483647 ∧ news' = (src, listOf #[.int a' ta', .int b' tb'] n) :: rest) := by
  unfold Ct
  k_fill
  intro mean mg mb dp un gd cn cs ad ccd cl outer A₀ base h₀ L m s Q E B F X N T hk hd hu hret
  refine wpAny_call ?_
  k_dflt ktr_enter
  k_steps
  · exact hret _ _ _ _ (by assumption) (by assumption) ⟨_, _, _, _, _, _, rfl, Int.fmod_nonneg_of_pos _ ht, Int.fmod_lt_of_pos _ ht, Int.fdiv_nonneg ha (by omega), hb, hb2, rfl⟩
  · exact hret _ _ _ _ (by assumption) (by assumption) ⟨_, _, _, _, _, _, rfl, Int.fmod_nonneg_of_pos _ ht, Int.fmod_lt_of_pos _ ht, ha, Int.fmod_nonneg_of_pos _ (by omega), Int.fmod_lt_of_pos _ (by omega), rfl⟩
end
-- RowEq
section
example : True := by
  w_top off
  trivial
section
open PySem.Calls PySem.SeqAt
variable {prog : Program} {w : World} {A : Around} {E : Value → Shared → Prop} {s : Shared}
theorem eqAt_int (a : Int) (t u : Tok) : EqAt A s (.int a t) (.int a u) true := by
  have h := EqAt.int_int (A := A) (s := s) a t a u
  rw [beq_self_eq_true] at h
  exact h
theorem eqAt_bool (a : Bool) : EqAt A s (.bool a) (.bool a) true := by
  have h := EqAt.bool_bool (A := A) (s := s) a a
  rw [beq_self_eq_true] at h
  exact h
theorem eqAt_bytes (b : Array UInt8) (t u : Tok) : EqAt A s (.bytes b t) (.bytes b u) true := fun prog w E Q h => by
  unfold eqBool
  refine wpAny_holding ?_
  refine wpAny_ite_split (fun _ => ?_) (fun _ => ?_)
  · exact wpAny_bind (wpAny_rule (wpAny_pure h))
  · refine wpAny_bind (show wpAny (model prog w) A (richCompare .Eq (.bytes b t) (.bytes b u)) _ E s from PySem.W.eq_bytes ?_)
    rw [beq_self_eq_true]
    exact wpAny_truthy_bool h
abbrev rowVals (H : Hdr) (t0 t1 t2 t3 t4 t5 t8 t9 : Tok) : Array Value := #[.int H.src t0, .int H.tgt t1, .int 17 t2, .int H.ident t3, .int 64 t4, .int 0 t5, .bool false, .bool H.more, .int H.off t8, .bytes #[] t9]
theorem row_eq {a b : Addr} {H : Hdr} {t0 t1 t2 t3 t4 t5 t8 t9 u0 u1 u2 u3 u4 u5 u8 u9 : Tok} {n m : Nat} {Q : Value → Shared → Prop} (ha : s.heap.get? a = some { cls := .type "tuple", data := .seq (rowVals H t0 t1 t2 t3 t4 t5 t8 t9) n }) (hb : s.heap.get? b = some { cls := .type "tuple", data := .seq (rowVals H u0 u1 u2 u3 u4 u5 u8 u9) m }) (hu : A.units < cLine)
    (h : Q (.bool true) s) : wpAny (model prog w) A (compareOp .Eq (.ref a) (.ref b)) Q E s := by
  refine cmp_ofEq ?_
  have R := RcAt.tuples (A := A) (s := s) (e := fun _ => true) ⟨_, ha, rfl, n, rfl⟩ ⟨_, hb, rfl, m, rfl⟩ hu (fun j h1 h2 => ?_)
  · exact R prog w E Q h
  · match j, h1, h2 with
    | 0, _, _ => exact eqAt_int _ _ _
    | 1, _, _ => exact eqAt_int _ _ _
    | 2, _, _ => exact eqAt_int _ _ _
    | 3, _, _ => exact eqAt_int _ _ _
    | 4, _, _ => exact eqAt_int _ _ _
    | 5, _, _ => exact eqAt_int _ _ _
    | 6, _, _ => exact eqAt_bool _
    | 7, _, _ => exact eqAt_bool _
    | 8, _, _ => exact eqAt_int _ _ _
    | 9, _, _ => exact eqAt_bytes _ _ _
    | k + 10, h, _ => exact absurd h (by simp [rowVals])
end
end
-- PutR
section
example : True := by
  w_top off
  trivial
theorem bints_inj {a b : Array UInt8} (h : KBw.bInts a = KBw.bInts b) : a = b := by
  unfold KBw.bInts at h
  have h2 : a.toList = b.toList := by
    refine List.map_inj_right (fun x y e => ?_) |>.mp h
    exact UInt8.toNat_inj.mp (by omega)
  exact Array.toList_inj.mp h2
structure PrSt where
  a : Int
  b : Int
  ta : Tok
  tb : Tok
  lefts : List Pc
  nl : Nat
  R : Led
  wv : Option Value
def optW : Option Value → List (Str × Value)
  | none => []
  | some v => [(Str.ofString "whole", v)]
theorem kst_opt {stored : List Str} (hx : stored.contains (Str.ofString "whole") = true) {u m₀ : Str → Option Value} (o : Option Value) :
    ∃ u2 : Str → Option Value, kstB (fun z => if stored.contains z then u z else m₀ z) (optW o) = fun z => if stored.contains z then u2 z else m₀ z := by
  cases o with
  | none => exact ⟨u, rfl⟩
  | some v =>
    refine ⟨fun z => if z = Str.ofString "whole" then some v else u z, ?_⟩
    funext z
    show (if z = Str.ofString "whole" then some v else if stored.contains z then u z else m₀ z) = _
    by_cases hz : z = Str.ofString "whole"
    · subst hz
      dsimp only
      rw [if_pos rfl, if_pos hx, if_pos rfl]
    · dsimp only
      rw [if_neg hz, if_neg hz]
theorem split_at {l : List Pc} {i : Int} (h0 : 0 ≤ i) (h1 : i < ((pcs l).toArray.size : Int)) : ∃ l1 p l2, l = l1 ++ p :: l2 ∧ i = (l1.length : Int) := by
  rw [List.size_toArray, List.length_map] at h1
  have hi : i.toNat < l.length := by omega
  refine ⟨l.take i.toNat, l[i.toNat], l.drop (i.toNat + 1), ?_, ?_⟩
  · rw [← List.drop_eq_getElem_cons hi, List.take_append_drop]
  · rw [List.length_take]; omega
section
local macro_rules | `(tactic| walk_at "call type:list") => `(tactic| (k_here; (with_reducible show wpAny _ _ (call (Value.type "list") [Value.ref _]) _ _ _); (k_dflt (refine Hold.on ?_))))
local macro_rules | `(tactic| walk_at "compareOp NotEq ref ref") => `(tactic| (k_here; (with_reducible show wpAny _ _ (compareOp CmpOp.NotEq (Value.ref _) (Value.ref _)) _ _ _); (k_dflt (refine Hold.on ?_))))
local macro_rules | `(tactic| walk_at "call builtin:list.pop") => `(tactic| walk_at "hold")
local macro_rules | `(tactic| walk_at "compareOp Eq ref ref") => `(tactic| walk_at "hold")
local macro_rules | `(tactic| walk_at "call builtin:len") => `(tactic| (k_here; (with_reducible show wpAny _ _ (call (Value.builtin "len") [Value.ref _]) _ _ _); k_dflt (refine PyProof.Rows.len_list (News.isList (by k_asm) (by k_mem)) (by assumption) ?_)))
local macro_rules | `(tactic| walk_at "WhPost") => `(tactic| (dsimp only [WhPost]))
local macro_rules | `(tactic| walk_at "exec While Compare cons nil") => `(tactic| walk_at "hold")
set_option maxHeartbeats 16000000 in
theorem putr_ct {w : World} {src pl0 x : Addr} {a b : Int} {ta tb : Tok} {ns np : Nat} {ps : List Pc} {ob : Array UInt8} {tob : Tok} {bs rest : Led} {s9 t9 i9 d : Int} {N k : Nat}
    (ha0 : 0 ≤ a) (hb0 : 0 ≤ b) (hb1 : b < 2147483647) (hpl : (pl0, listOf (pcs ps).toArray np) ∈ bs) (hH : HdrAt w bs x ⟨s9, t9, i9, false, 0⟩) (hps : ∀ p ∈ ps, PcOk w bs s9 t9 i9 d p) (hob : KBw.bInts ob = List.replicate N d)
    (osrc : ∀ p ∈ bs, p.1 ≠ src) (hN48 : N ≤ 48) (hk6 : k ≤ 6) (hlen : ps.length ≤ 1000) (hst : (2 ≤ k ∧ (∀ q ∈ ps, q.off = 0 → q.more = true) ∧ PInv N k S0 ps) ∨ (∃ p, ps = [p] ∧ p.off = 0 ∧ p.more = false ∧ KBw.bInts p.b = List.replicate N d))
    (ha : ∀ p ∈ rest, ∀ q ∈ (src, listOf #[.int a ta, .int b tb] ns) :: bs, p.1 ≠ q.1) :
    Ct w 490 [.ref src, .ref pl0, .ref x, .bytes ob tob] (((src, listOf #[.int a ta, .int b tb] ns) :: bs) ++ rest) 90 (fun r n' => ∃ n0, n' = n0 ++ rest ∧
      (r = .bool true ∧ ∃ a' b' ta' tb' new, n0 = (src, listOf #[.int a' ta', .int b' tb'] ns) :: new ∧ 0 ≤ a' ∧ 0 ≤ b' ∧ b' < 2147483647 ∧ (∀ p ∈ bs, p ∈ new) ∧ ∀ p ∈ new, p.1 ≠ src) ∧ ∀ p ∈ n0, ∀ q ∈ rest, p.1 ≠ q.1) := by
  refine' Ct.rw ?ho ?hcd ?hbind ?hloc ?hco ?hgen ?hk ?hcell ?hap ?hb
  case ho => k_is
  case hcd => k_is
  case hbind => (intro s hX; first | exact BindsTo.of_eq rfl | exact binds_K hX rfl (by k_is) rfl rfl rfl)
  case hloc => exact locs rfl
  case hco => exact rfl
  case hgen => exact rfl
  case hk => exact rfl
  case hcell => decide
  case hap => exact ha
  case hb =>
  unfold Bd
  intro mean mg mb dp un gd outer A₀ base g L s B F X N T hd hu
  refine hideQ ?_
  intro Qz bkz
  (try dsimp only)
  have hq9 : HoldAt [451, 469, 415] := .mk
  k_steps
  unfold Hold
  (k_here; k_dflt (refine' Ct.use' mkRa_ct ?k1 ?k2 ?k3 ?k4 ?k5 ?kK ?kd ?ku ?_; walk_at "ct1"; (case k4 => k_asm); k_whole; (intro h9 tk9 F9 P7 bk7 r9 nw9); (rintro ⟨rx, wl, nw, new, e8, e9, hR, hfr, hfs⟩); (try subst e8); (try subst e9); (refine bk7 _ _ ?_); (clear bk7 P7); (intro N9); (try k_lt l1); (try k_lt2 l2); (try dsimp only); (try k_sweep); (try k_fold)))
  have hup : ∀ p ∈ bs, p ∈ (wl, dictOf [] nw) :: (new ++ ((src, listOf #[.int a ta, .int b tb] ns) :: bs)) := fun p hp => .tail _ (List.mem_append_right _ (.tail _ hp))
  have hNB := cb_drop (news := (src, listOf #[.int a ta, .int b tb] ns) :: (pl0, listOf (pcs ps).toArray np) :: ((wl, dictOf [] nw) :: (new ++ bs))) N9 (List.forall_mem_cons.mpr ⟨.tail _ (List.mem_append_right _ (.head _)), List.forall_mem_cons.mpr ⟨hup _ hpl, List.forall_mem_cons.mpr ⟨.head _, fun p hp => (List.mem_append.mp hp).elim (fun h => .tail _ (List.mem_append_left _ h)) (hup p)⟩⟩⟩)
  clear N9
  k_steps
  unfold Hold
  rename News _ _ _ _ => hN
  rename Fr _ _ _ _ => hF
  refine list_copyK hF hN (News.isList hN (by k_mem)) ?_ (by rw [List.size_toArray, List.length_map, sizeLine_eq]; omega)
  intro ll c9 h7 F7 N7 hlt7
  clear hF hN
  k_steps
  unfold Hold
  rename News _ _ _ _ => hN
  rename Fr _ _ _ _ => hF
  rename (ll < _ ∧ _) => l1
  have hsl : src ≠ ll := Nat.ne_of_lt (hlt7 _ (.head _))
  have hRne : ∀ p ∈ (wl, dictOf [] nw) :: (new ++ bs), p.1 ≠ ll := fun p hp => Nat.ne_of_lt (hlt7 p (.tail _ (.tail _ hp)))
  have hws : wl ≠ src := (hfr _ (List.mem_append_right _ (.head _))).symm
  have hRns : ∀ p ∈ (wl, dictOf [] nw) :: (new ++ bs), p.1 ≠ src := List.forall_mem_cons.mpr ⟨hws, fun p hp => (List.mem_append.mp hp).elim (fun h => hfs p h _ (.head _)) (osrc p)⟩
  have hfrb : ∀ p ∈ new ++ bs, p.1 ≠ wl := fun p hp => hfr p ((List.mem_append.mp hp).elim (fun h => List.mem_append_left _ h) (fun h => List.mem_append_right _ (.tail _ h)))
  have hRb : RaAt w rx wl (new ++ bs) := hR.mono fun p hp => List.mem_append_left _ hp
  have hbb : ∀ p ∈ bs, p ∈ new ++ bs := fun p hp => List.mem_append_right _ hp
  have hst0 : RaSt w rx wl s9 t9 i9 d N k bs ps .none ((wl, dictOf [] nw) :: (new ++ bs)) := by
    rcases hst with ⟨h1, h2, h3⟩ | ⟨p, rfl, h1, h2, h3⟩
    · exact .fresh hRb hbb hfrb h1 h2 h3
    · exact .one hRb hbb h1 h2 h3
  have hpsne : ps ≠ [] := by
    rcases hst with ⟨h1, h2, h3⟩ | ⟨p, rfl, h1, h2, h3⟩
    · intro e
      have hc := h3.cnt
      rw [e] at hc
      simp [S0] at hc
      omega
    · simp
  with_unfolding_all refine' while_st (σ := PrSt) (fun c => (src, listOf #[.int c.a c.ta, .int c.b c.tb] ns) :: (ll, listOf (pcs c.lefts).toArray c.nl) :: c.R) (fun c => optW c.wv) [Str.ofString "head", Str.ofString "piece", Str.ofString "whole"] (fun n c => n = c.lefts.length ∧ 0 ≤ c.a ∧ 0 ≤ c.b ∧ c.b < 2147483647 ∧ (∃ r, RaSt w rx wl s9 t9 i9 d N k bs c.lefts r c.R ∧ (c.lefts = [] → c.wv = some r)) ∧ (∀ p ∈ c.R, p.1 ≠ src) ∧ (∀ p ∈ c.R, p.1 ≠ ll) ∧ (∀ p ∈ c.lefts, p ∈ ps) ∧ c.lefts.length ≤ 1000) ps.length ⟨a, b, ta, tb, ps, c9, (wl, dictOf [] nw) :: (new ++ bs), none⟩ hF hN ?hn ?hk ?hp ?turn ?hE
  case hE => exact PassesOwn.never
  case hn => exact List.forall_mem_cons.mpr ⟨by k_mem, List.forall_mem_cons.mpr ⟨by k_mem, fun p hp => .tail _ (.tail _ (.tail _ (.tail _ hp)))⟩⟩
  case hk => exact fun _ h => nomatch h
  case hp => exact ⟨rfl, ha0, hb0, hb1, ⟨_, hst0, fun e => absurd e hpsne⟩, hRns, hRne, fun _ h => h, hlen⟩
  clear hF hN l1 hst0 hRne hRns hfrb hRb hbb hst hfr hfs hR hup hlt7
  intro wn wc wu wh wtk wp wF wN
  refine hideG ?_
  intro PZ bkZ
  obtain ⟨ca, cb, cta, ctb, cl, cnl, cR, cwv⟩ := wc
  refine bkZ ?_
  clear bkZ PZ
  refine hideG ?_
  intro PZ bkZ
  obtain ⟨p1, p2, p3, p4, ⟨r0, p5, p6⟩, p7, p8, p9, p10⟩ := wp
  refine bkZ ?_
  clear bkZ PZ
  dsimp only at p1 p2 p3 p4 p5 p6 p7 p8 p9 p10 wF wN
  show wpAny _ _ _ _ _ _
  by_cases hz : cl = []
  · subst hz
    refine hideG ?_
    intro PZ bkZ
    obtain ⟨t8, hx8, b8, tb8, nn8, rfl, f1, f2, f3⟩ := p5.fin
    refine bkZ ?_
    clear bkZ PZ
    have hwv := p6 rfl
    subst hwv
    dsimp only [kstB, optW] at wF
    refine hideG ?_
    intro PZ bkZ
    obtain ⟨dx8, kh8, n8, y18, y28⟩ := f2
    refine bkZ ?_
    clear bkZ PZ
    refine hideG ?_
    intro PZ bkZ
    obtain ⟨dx7, kh7, n7, y17, y27⟩ := hH.mono p5.sub
    refine bkZ ?_
    clear bkZ PZ
    have hNB := cb_drop (news := (t8, pairOf (.ref hx8) (.bytes b8 tb8) nn8) :: (hx8, instObj 155 dx8) :: (dx8, dictOf (hdrEs w ⟨s9, t9, i9, false, 0⟩ kh8) n8) :: (x, instObj 155 dx7) :: (dx7, dictOf (hdrEs w ⟨s9, t9, i9, false, 0⟩ kh7) n7) :: (src, listOf #[.int ca cta, .int cb ctb] ns) :: (ll, listOf (pcs []).toArray cnl) :: cR) wN (List.forall_mem_cons.mpr ⟨.tail _ (.tail _ (f1)), List.forall_mem_cons.mpr ⟨.tail _ (.tail _ (y18)), List.forall_mem_cons.mpr ⟨.tail _ (.tail _ (y28)), List.forall_mem_cons.mpr ⟨.tail _ (.tail _ (y17)), List.forall_mem_cons.mpr ⟨.tail _ (.tail _ (y27)), fun p hp => hp⟩⟩⟩⟩⟩)
    clear wN
    k_steps
    unfold Hold
    rename News _ _ _ _ => hN
    refine cmp_ne_zero (News.isList hN (by k_mem)) (News.isList hN (by k_mem)) (by ktr_units) ?_
    have hb8 : b8 = ob := bints_inj (f3.trans hob.symm)
    subst hb8
    k_steps
    unfold Hold
    rename News _ _ _ _ => hN
    refine row_eq (H := ⟨s9, t9, i9, false, 0⟩) (hN (_, _) (by k_mem)).1 (hN (_, _) (by k_mem)).1 (by ktr_units) ?_
    k_steps
    all_goals
      rename News _ _ _ _ => hN
      rename Fr _ _ _ _ => hF
      exact bkz _ _ <| CtRet.intro hF (cb_drop (news := (src, listOf #[.int ca cta, .int cb ctb] ns) :: cR) hN (List.forall_mem_cons.mpr ⟨by k_mem, fun p hp => by (repeat refine List.mem_cons_of_mem _ ?_); exact hp⟩)) ⟨congrArg Value.bool (by first | exact beq_self_eq_true _ | rfl | simp), ca, cb, cta, ctb, cR, rfl, p2, p3, p4, p5.sub, p7⟩
  · obtain ⟨u2, hu2⟩ := kst_opt (stored := [Str.ofString "head", Str.ofString "piece", Str.ofString "whole"]) (by decide) (u := wu) (m₀ := _) cwv
    rw [hu2] at wF
    clear hu2
    have hfit : ((pcs cl).toArray.size : Int) < 2 ^ 63 := by
      have z := p10
      rw [List.size_toArray, List.length_map]; omega
    have hpos : 0 < (pcs cl).toArray.size := by
      rw [List.size_toArray, List.length_map]
      exact List.length_pos_iff.mpr hz
    k_steps
    unfold Hold
    rename News _ _ _ _ => hN
    refine cmp_ne_pos hpos (News.isList hN (by k_mem)) (News.isList hN (by k_mem)) (by ktr_units) ?_
    k_steps
    unfold Hold
    rename News _ _ _ _ => hN
    have hNT := cb_drop (news := (src, listOf #[.int ca cta, .int cb ctb] ns) :: (ll, listOf (pcs cl).toArray cnl) :: cR) hN (List.forall_mem_cons.mpr ⟨.tail _ (.head _), List.forall_mem_cons.mpr ⟨.tail _ (.tail _ (.head _)), fun p hp => .tail _ (.tail _ (.tail _ hp))⟩⟩)
    clear hN
    have htop : 0 < ((pcs cl).toArray.size : Int) := by omega
    have htop2 : ((pcs cl).toArray.size : Int) ≤ 2147483648 := by
      rw [List.size_toArray, List.length_map]; omega
    (k_here; k_dflt (refine' Ct.use' (take_ct p2 p3 p4 htop htop2 ?c1) ?k1 ?k2 ?k3 ?k4 ?k5 ?kK ?kd ?ku ?_; walk_at "ct1"; (case k4 => exact hNT); (case c1 => exact List.forall_mem_cons.mpr ⟨hsl.symm, p7⟩); k_whole; (intro h9 tk9 F9 P7 bk7 r9 nw9); (rintro ⟨d9, t9x, a9, b9, ta9, tb9, e8, q1, q2, q3, q4, q5, e9⟩); (try subst e8); (try subst e9); (refine bk7 _ _ ?_); (clear bk7 P7); (intro N9); (try k_lt l1); (try k_lt2 l2); (try dsimp only); (try k_sweep); (try k_fold)))
    refine hideG ?_
    intro PZ bkZ
    obtain ⟨l1, p, l2, hl, hd9⟩ := split_at q1 q2
    refine bkZ ?_
    clear bkZ PZ
    subst hl
    k_steps
    unfold Hold
    rename News _ _ _ _ => hN
    rename Fr _ _ _ _ => hF
    have hpR := (hps p (p9 p (List.mem_append_right _ (.head _)))).mono p5.sub
    refine hideG ?_
    intro PZ bkZ
    obtain ⟨rq, g0, g1, g2, g3, u0, u1, u2', r1, r2, hwl⟩ := p5.ra hz
    refine bkZ ?_
    clear bkZ PZ
    refine pop_pcs (rest := (src, listOf #[.int a9 ta9, .int b9 tb9] ns) :: cR) hF (cb_drop hN (List.forall_mem_cons.mpr ⟨.tail _ (.head _), List.forall_mem_cons.mpr ⟨.head _, fun p hp => .tail _ (.tail _ hp)⟩⟩)) (List.forall_mem_cons.mpr ⟨hsl, p8⟩) p10 hd9 ?_
    intro h6 F6 N6
    clear hF hN
    have hNP := cb_drop (news := (ll, listOf (pcs (l1 ++ l2)).toArray (cnl + 1)) :: (src, listOf #[.int a9 ta9, .int b9 tb9] ns) :: (p.t, pairOf (.ref p.x) (.bytes p.b p.tb) p.n) :: (rx, instObj 451 rq) :: (rq, dictOf (raEs w wl g0 g1 g2 g3 u0 u1 u2') 4) :: cR) N6 (List.forall_mem_cons.mpr ⟨.head _, List.forall_mem_cons.mpr ⟨.tail _ (.head _), List.forall_mem_cons.mpr ⟨.tail _ (.tail _ (hpR.1.1)), List.forall_mem_cons.mpr ⟨.tail _ (.tail _ (r1)), List.forall_mem_cons.mpr ⟨.tail _ (.tail _ (r2)), fun p hp => .tail _ (.tail _ hp)⟩⟩⟩⟩⟩)
    clear N6
    k_steps
    unfold Hold
    rename News _ _ _ _ => hN
    have hse : ∀ q ∈ [(src, listOf #[.int a9 ta9, .int b9 tb9] ns), (ll, listOf (pcs (l1 ++ l2)).toArray (cnl + 1))], q ∈ (ll, listOf (pcs (l1 ++ l2)).toArray (cnl + 1)) :: (src, listOf #[.int a9 ta9, .int b9 tb9] ns) :: (p.t, pairOf (.ref p.x) (.bytes p.b p.tb) p.n) :: (rx, instObj 451 rq) :: (rq, dictOf (raEs w wl g0 g1 g2 g3 u0 u1 u2') 4) :: cR := List.forall_mem_cons.mpr ⟨.tail _ (.head _), List.forall_mem_cons.mpr ⟨.head _, fun _ h => nomatch h⟩⟩
    have hNQ := cb_drop (news := cR ++ [(src, listOf #[.int a9 ta9, .int b9 tb9] ns), (ll, listOf (pcs (l1 ++ l2)).toArray (cnl + 1))]) hN (fun p hp => (List.mem_append.mp hp).elim (fun h => List.mem_cons_of_mem _ (List.mem_cons_of_mem _ (List.mem_cons_of_mem _ (List.mem_cons_of_mem _ (List.mem_cons_of_mem _ (h)))))) (hse p))
    clear hN
    have hap : ∀ p ∈ [(src, listOf #[.int a9 ta9, .int b9 tb9] ns), (ll, listOf (pcs (l1 ++ l2)).toArray (cnl + 1))], ∀ q ∈ cR, p.1 ≠ q.1 := List.forall_mem_cons.mpr ⟨fun q hq => (p7 q hq).symm, List.forall_mem_cons.mpr ⟨fun q hq => (p8 q hq).symm, fun _ h => nomatch h⟩⟩
    (k_here; k_dflt (refine' Ct.use' (rput_any (rest := [(src, listOf #[.int a9 ta9, .int b9 tb9] ns), (ll, listOf (pcs (l1 ++ l2)).toArray (cnl + 1))]) p5 ?c2 hk6 hN48 hap) ?k1 ?k2 ?k3 ?k4 ?k5 ?kK ?kd ?ku ?_; walk_at "ct1"; (case k4 => exact hNQ); (case c2 => exact hps p (p9 p (List.mem_append_right _ (.head _)))); k_whole; (intro h9 tk9 F9 P7 bk7 r9 nw9); (rintro ⟨R', e9, hS', ⟨hr1, hr2⟩, hsep⟩); (try subst e8); (try subst e9); (refine bk7 _ _ ?_); (clear bk7 P7); (intro N9); (try k_lt l1); (try k_lt2 l2); (try dsimp only); (try k_sweep); (try k_fold)))
    have hns : ∀ p ∈ R', p.1 ≠ src := fun p hp => hsep p hp _ (.head _)
    have hnl : ∀ p ∈ R', p.1 ≠ ll := fun p hp => hsep p hp _ (.tail _ (.head _))
    have hse2 : ∀ p ∈ [(src, listOf #[.int a9 ta9, .int b9 tb9] ns), (ll, listOf (pcs (l1 ++ l2)).toArray (cnl + 1))], p ∈ R' ++ [(src, listOf #[.int a9 ta9, .int b9 tb9] ns), (ll, listOf (pcs (l1 ++ l2)).toArray (cnl + 1))] := fun p hp => List.mem_append_right _ hp
    have hNR := cb_drop (news := (src, listOf #[.int a9 ta9, .int b9 tb9] ns) :: (ll, listOf (pcs (l1 ++ l2)).toArray (cnl + 1)) :: R') N9 (List.forall_mem_cons.mpr ⟨hse2 _ (.head _), List.forall_mem_cons.mpr ⟨hse2 _ (.tail _ (.head _)), fun p hp => List.mem_append_left _ hp⟩⟩)
    clear N9
    try clear hNQ
    have hsub3 : ∀ q ∈ l1 ++ l2, q ∈ ps := fun q hq => p9 q (mem_other hq)
    have hlen3 : (l1 ++ l2).length + 1 = wn := by rw [p1, other_len]
    have hlen4 : (l1 ++ l2).length ≤ 1000 := by rw [other_len] at p10; omega
    generalize l1 ++ l2 = l3 at hNR hS' hr1 hr2 hsub3 hlen3 hlen4
    by_cases hz3 : l3 = []
    · subst hz3
      obtain ⟨t5, ht5⟩ := hr1 rfl
      subst ht5
      k_steps
      unfold Hold
      rename News _ _ _ _ => hN
      refine cmp_ne_zero (News.isList hN (by k_mem)) (News.isList hN (by k_mem)) (by ktr_units) ?_
      k_steps
      rename News _ _ _ _ => hN
      refine WhEnd.intro ⟨a9, b9, ta9, tb9, [], cnl + 1, R', some (.ref t5)⟩ 0 (by assumption) hN (List.forall_mem_cons.mpr ⟨.tail _ (.head _), List.forall_mem_cons.mpr ⟨.tail _ (.tail _ (.head _)), fun p hp => .tail _ (.tail _ (.tail _ hp))⟩⟩) (by dsimp only [optW]; kst_all) (by dsimp only [optW]; ksw_same) ⟨rfl, q3, q4, q5, ⟨_, hS', fun _ => rfl⟩, hns, hnl, (fun _ h => nomatch h), Nat.zero_le _⟩ (by simp only [List.length_nil] at hlen3; omega)
    · have hr9 := hr2 hz3
      subst hr9
      have hpos3 : 0 < (pcs l3).toArray.size := by
        rw [List.size_toArray, List.length_map]
        exact List.length_pos_iff.mpr hz3
      k_steps
      unfold Hold
      rename News _ _ _ _ => hN
      refine cmp_ne_pos hpos3 (News.isList hN (by k_mem)) (News.isList hN (by k_mem)) (by ktr_units) ?_
      k_steps
      rename News _ _ _ _ => hN
      refine WhEnd.intro ⟨a9, b9, ta9, tb9, l3, cnl + 1, R', none⟩ l3.length (by assumption) hN (List.forall_mem_cons.mpr ⟨.tail _ (.head _), List.forall_mem_cons.mpr ⟨.tail _ (.tail _ (.head _)), fun p hp => .tail _ (.tail _ (.tail _ hp))⟩⟩) (by dsimp only [optW]; kst_all) (by dsimp only [optW]; ksw_same) ⟨rfl, q3, q4, q5, ⟨_, hS', fun e => absurd e hz3⟩, hns, hnl, hsub3, hlen4⟩ (by omega)
end
end
-- CutR
section
example : True := by
  w_top off
  trivial
section
open PySem.Calls
variable {prog : Program} {w : World} {A : Around} {E : Value → Shared → Prop} {s : Shared} {Q : Value → Shared → Prop}
theorem gt_bool {a b : Int} {t u : Tok} {c : Bool} (h : decide (b < a) = c) (hq : Q (.bool c) s) : wpAny (model prog w) A (compareOp .Gt (.int a t) (.int b u)) Q E s := by
  subst h
  exact PyProof.Rows.gt_int hq
theorem ne_bools {a b c : Bool} (h : (a != b) = c) (hq : Q (.bool c) s) : wpAny (model prog w) A (compareOp .NotEq (.bool a) (.bool b)) Q E s := by
  subst h
  exact PyProof.Rows.ne_bool hq
end
theorem CutOk.octs {N : Nat} {m d off : Int} {more : Bool} {ps : List Pc} (h : CutOk N m d off more ps) {p : Pc} (hp : p ∈ ps) : KBw.bInts p.b = List.replicate p.b.size d := by
  refine hideG ?_
  intro PZ bkZ
  obtain ⟨R, _, _, _, _, _, hall⟩ := h
  refine bkZ ?_
  clear bkZ PZ
  refine hideG ?_
  intro PZ bkZ
  obtain ⟨i, hi, rfl⟩ := List.mem_iff_getElem.mp hp
  refine bkZ ?_
  clear bkZ PZ
  refine hideG ?_
  intro PZ bkZ
  obtain ⟨_, _, e⟩ := hall i ps[i] (List.getElem?_eq_getElem hi)
  refine bkZ ?_
  clear bkZ PZ
  have z := KBw.ints_length ps[i].b
  rw [e, List.length_replicate] at z
  rw [e, z]
theorem CutOk.begin {N : Nat} {m d : Int} {ps : List Pc} (h : CutOk N m d 0 false ps) (hN : N ≤ 48) :
    ∃ k, k ≤ 6 ∧ ((2 ≤ k ∧ (∀ q ∈ ps, q.off = 0 → q.more = true) ∧ PInv N k S0 ps) ∨ (∃ p, ps = [p] ∧ p.off = 0 ∧ p.more = false ∧ KBw.bInts p.b = List.replicate N d)) := by
  by_cases hm : (N : Int) + 20 ≤ m
  · obtain ⟨R, _, _, hs, _, _, hall⟩ := h
    obtain ⟨p, rfl⟩ := List.length_eq_one_iff.mp (hs hm)
    refine hideG ?_
    intro PZ bkZ
    obtain ⟨e1, e2, e3⟩ := hall 0 p rfl
    refine bkZ ?_
    clear bkZ PZ
    refine ⟨2, by omega, .inr ⟨p, rfl, ?_, ?_, ?_⟩⟩
    · simpa using e1
    · simpa using e2
    · simpa using e3
  · have h0 := h
    refine hideG ?_
    intro PZ bkZ
    obtain ⟨R, q1, _, _, hb, _, hall⟩ := h
    refine bkZ ?_
    clear bkZ PZ
    have h2 := (hb hm).1
    obtain ⟨hI, h6⟩ := PInv.start h0 h2 hm hN
    refine ⟨ps.length, h6, .inl ⟨h2, fun q hq hq0 => ?_, hI⟩⟩
    refine hideG ?_
    intro PZ bkZ
    obtain ⟨i, hi, rfl⟩ := List.mem_iff_getElem.mp hq
    refine bkZ ?_
    clear bkZ PZ
    refine hideG ?_
    intro PZ bkZ
    obtain ⟨e1, e2, _⟩ := hall i ps[i] (List.getElem?_eq_getElem hi)
    refine bkZ ?_
    clear bkZ PZ
    have hi0 : i = 0 := by
      rcases Nat.eq_zero_or_pos i with h | h
      · exact h
      · exfalso
        have := Nat.mul_le_mul h q1
        omega
    subst hi0
    rw [e2, if_neg (by omega)]
theorem first_a {po ho : Int} {i : Nat} (h : (po == 0) = (decide (ho = 0) && decide (i = 0))) (h0 : ho = 0) : ((po == 0) != ((0 : Int) + (i : Int) * 1 == 0)) = false := by
  have e : ((0 : Int) + (i : Int) * 1 == 0) = decide (i = 0) := by
    rw [Bool.eq_iff_iff]; simp
  rw [h, e, decide_eq_true h0]
  simp
theorem first_b {po ho : Int} {i : Nat} (h : (po == 0) = (decide (ho = 0) && decide (i = 0))) (h0 : ho ≠ 0) : ((po == 0) != (ho == 0)) = false := by
  have e : (ho == 0) = false := by simpa using h0
  rw [h, e, decide_eq_false h0]
  simp
section
local macro_rules | `(tactic| walk_at "call builtin:len") => `(tactic| (k_here; (with_reducible show wpAny _ _ (call (Value.builtin "len") [Value.ref _]) _ _ _); k_dflt (refine PyProof.Rows.len_list (News.isList (by k_asm) (by k_mem)) (by assumption) ?_)))
local macro_rules | `(tactic| walk_at "compareOp Gt int int") => `(tactic| walk_at "hold")
local macro_rules | `(tactic| walk_at "compareOp NotEq bool bool") => `(tactic| walk_at "hold")
local macro_rules | `(tactic| walk_at "subscriptTail Name Name ref int") => `(tactic| walk_at "hold")
local macro_rules | `(tactic| walk_at "pyIter ref") => `(tactic| walk_at "hold")
set_option maxHeartbeats 16000000 in
theorem cutr_ct {w : World} {src x dx : Addr} {H : Hdr} {a b m : Int} {ta tb tm : Tok} {ns N : Nat} {ob : Array UInt8} {ks : List Int} {tob : Tok} {rest : Led} {d : Int} {kh : HTok} {n : Nat}
    (ha0 : 0 ≤ a) (hb0 : 0 ≤ b) (hb1 : b < 2147483647) (hob : KBw.bInts ob = ks) (hlen : ks.length = N) (hks : ks = List.replicate N d) (hN48 : N ≤ 48) (hm1 : 28 ≤ m) (hm2 : m ≤ 48)
    (z1 : 0 ≤ H.src) (z2 : H.src < 4294967296) (z3 : 0 ≤ H.tgt) (z4 : H.tgt < 4294967296) (z5 : 0 ≤ H.ident) (z6 : H.ident < 65536) (z7 : 0 ≤ H.off) (z8 : H.off ≤ 1000) (z9 : H.off % 8 = 0)
    (hsx : src ≠ x) (hsd : src ≠ dx) (hxd : x ≠ dx)
    (ha : ∀ p ∈ rest, ∀ q ∈ [(src, listOf #[.int a ta, .int b tb] ns), (x, instObj 155 dx), (dx, dictOf (hdrEs w H kh) n)], p.1 ≠ q.1) :
    Ct w 497 [.ref src, .ref x, .bytes ob tob, .int m tm] ([(src, listOf #[.int a ta, .int b tb] ns), (x, instObj 155 dx), (dx, dictOf (hdrEs w H kh) n)] ++ rest) 110 (fun r n' => ∃ n0, n' = n0 ++ rest ∧
      (r = .bool true ∧ ∃ a' b' ta' tb' new, n0 = (src, listOf #[.int a' ta', .int b' tb'] ns) :: new ∧ 0 ≤ a' ∧ 0 ≤ b' ∧ b' < 2147483647) ∧ ∀ p ∈ n0, ∀ q ∈ rest, p.1 ≠ q.1) := by
  refine' Ct.rw ?ho ?hcd ?hbind ?hloc ?hco ?hgen ?hk ?hcell ?hap ?hb
  case ho => k_is
  case hcd => k_is
  case hbind => (intro s hX; first | exact BindsTo.of_eq rfl | exact binds_K hX rfl (by k_is) rfl rfl rfl)
  case hloc => exact locs rfl
  case hco => exact rfl
  case hgen => exact rfl
  case hk => exact rfl
  case hcell => decide
  case hap => exact ha
  case hb =>
  unfold Bd
  intro mean mg mb dp un gd outer A₀ base g L s B F X N T hd hu
  refine hideQ ?_
  intro Qz bkz
  (try dsimp only)
  have hq9 : HoldAt [138, 131, 269, 490, 483] := .mk
  (k_steps; (repeat' (unfold Hold; (first | (k_here; k_dflt (refine' Ct.use' (isfirst_ct ?c1) ?k1 ?k2 ?k3 ?k4 ?k5 ?kK ?kd ?ku ?_; walk_at "ct1"; (case k4 => k_asm); (case c1 => assumption); k_whole; (intro zh9 ztk9 zF9 zP7 zbk7 zr9 znw9); (rintro ⟨ze9, ze8⟩); (try subst ze8); (try subst ze9); (refine zbk7 _ _ ?_); (clear zbk7 zP7); (intro zN9); (try k_lt zl1); (try k_lt2 zl2); (try dsimp only); (try k_sweep); (try k_fold))) | (k_here; k_dflt (refine' Ct.use' (isfrag_ct ?c1) ?k1 ?k2 ?k3 ?k4 ?k5 ?kK ?kd ?ku ?_; walk_at "ct1"; (case k4 => k_asm); (case c1 => assumption); k_whole; (intro zh9 ztk9 zF9 zP7 zbk7 zr9 znw9); (rintro ⟨ze9, ze8⟩); (try subst ze8); (try subst ze9); (refine zbk7 _ _ ?_); (clear zbk7 zP7); (intro zN9); (try k_lt zl1); (try k_lt2 zl2); (try dsimp only); (try k_sweep); (try k_fold)))); k_steps)))
  unfold Hold
  have hNA := cb_drop (news := [(x, instObj 155 dx), (dx, dictOf (hdrEs w H kh) n)] ++ [(src, listOf #[.int a ta, .int b tb] ns)]) N (List.forall_mem_cons.mpr ⟨.tail _ (.head _), List.forall_mem_cons.mpr ⟨.tail _ (.tail _ (.head _)), List.forall_mem_cons.mpr ⟨.head _, fun _ h => nomatch h⟩⟩⟩)
  have hap : ∀ p ∈ [(src, listOf #[.int a ta, .int b tb] ns)], ∀ q ∈ [(x, instObj 155 dx), (dx, dictOf (hdrEs w H kh) n)], p.1 ≠ q.1 := List.forall_mem_cons.mpr ⟨List.forall_mem_cons.mpr ⟨hsx, List.forall_mem_cons.mpr ⟨hsd, fun _ h => nomatch h⟩⟩, fun _ h => nomatch h⟩
  (k_here; k_dflt (refine' Ct.use' (cut_ct hm1 hm2 hN48 hob hlen hks hap hxd) ?k1 ?k2 ?k3 ?k4 ?k5 ?kK ?kd ?ku ?_; walk_at "ct1"; (case k4 => exact hNA); k_whole; (intro h9 tk9 F9 P7 bk7 r9 nw9); (rintro ⟨n0, e9, ⟨pl0, np, ps, e8, g1, g2, g3, g4⟩, hsep⟩); (try subst e8); (try subst e9); (refine bk7 _ _ ?_); (clear bk7 P7); (intro N9); (try k_lt l1); (try k_lt2 l2); (try dsimp only); (try k_sweep); (try k_fold)))
  have hsrc : ∀ p ∈ n0, p.1 ≠ src := fun p hp => hsep p hp _ (.head _)
  have hHx : HdrAt w n0 x H := ⟨dx, kh, n, g4 _ (.head _), g4 _ (.tail _ (.head _))⟩
  have hNB := cb_drop (news := (src, listOf #[.int a ta, .int b tb] ns) :: (pl0, listOf (pcs ps).toArray np) :: (x, instObj 155 dx) :: (dx, dictOf (hdrEs w H kh) n) :: n0) N9 (List.forall_mem_cons.mpr ⟨List.mem_append_right _ (.head _), List.forall_mem_cons.mpr ⟨List.mem_append_left _ g1, List.forall_mem_cons.mpr ⟨List.mem_append_left _ (g4 _ (.head _)), List.forall_mem_cons.mpr ⟨List.mem_append_left _ (g4 _ (.tail _ (.head _))), fun p hp => List.mem_append_left _ hp⟩⟩⟩⟩)
  clear N9
  try clear hNA
  (k_steps; (repeat' (unfold Hold; (first | (k_here; k_dflt (refine' Ct.use' (isfirst_ct ?c1) ?k1 ?k2 ?k3 ?k4 ?k5 ?kK ?kd ?ku ?_; walk_at "ct1"; (case k4 => k_asm); (case c1 => assumption); k_whole; (intro zh9 ztk9 zF9 zP7 zbk7 zr9 znw9); (rintro ⟨ze9, ze8⟩); (try subst ze8); (try subst ze9); (refine zbk7 _ _ ?_); (clear zbk7 zP7); (intro zN9); (try k_lt zl1); (try k_lt2 zl2); (try dsimp only); (try k_sweep); (try k_fold))) | (k_here; k_dflt (refine' Ct.use' (isfrag_ct ?c1) ?k1 ?k2 ?k3 ?k4 ?k5 ?kK ?kd ?ku ?_; walk_at "ct1"; (case k4 => k_asm); (case c1 => assumption); k_whole; (intro zh9 ztk9 zF9 zP7 zbk7 zr9 znw9); (rintro ⟨ze9, ze8⟩); (try subst ze8); (try subst ze9); (refine zbk7 _ _ ?_); (clear zbk7 zP7); (intro zN9); (try k_lt zl1); (try k_lt2 zl2); (try dsimp only); (try k_sweep); (try k_fold)))); k_steps)))
  unfold Hold
  obtain ⟨cB, hcB⟩ : ∃ c, decide (m < (ks.length : Int) + 20) = c := ⟨_, rfl⟩
  have hple : ps.length ≤ 50 := by
    refine hideG ?_
    intro PZ bkZ
    obtain ⟨R, q1, q2, q3, q4, q5, _⟩ := g3
    refine bkZ ?_
    clear bkZ PZ
    by_cases hc : (N : Int) + 20 ≤ m
    · have := q3 hc; omega
    · have z := (q4 hc).2
      have := Nat.mul_le_mul_left (ps.length - 1) q1
      omega
  have hfit : ((pcs ps).toArray.size : Int) < 2 ^ 63 := by
    rw [List.size_toArray, List.length_map]; omega
  have hlB : decide (1 < ((pcs ps).toArray.size : Int)) = cB := by
    refine hideG ?_
    intro PZ bkZ
    obtain ⟨R, q1, q2, q3, q4, q5, _⟩ := g3
    refine bkZ ?_
    clear bkZ PZ
    rw [← hcB, hlen, List.size_toArray, List.length_map, decide_eq_decide]
    by_cases hc : (N : Int) + 20 ≤ m
    · have := q3 hc; omega
    · have z := (q4 hc).1
      omega
  refine gt_bool hcB ?_
  (k_steps; (repeat' (unfold Hold; (first | (k_here; k_dflt (refine' Ct.use' (isfirst_ct ?c1) ?k1 ?k2 ?k3 ?k4 ?k5 ?kK ?kd ?ku ?_; walk_at "ct1"; (case k4 => k_asm); (case c1 => assumption); k_whole; (intro zh9 ztk9 zF9 zP7 zbk7 zr9 znw9); (rintro ⟨ze9, ze8⟩); (try subst ze8); (try subst ze9); (refine zbk7 _ _ ?_); (clear zbk7 zP7); (intro zN9); (try k_lt zl1); (try k_lt2 zl2); (try dsimp only); (try k_sweep); (try k_fold))) | (k_here; k_dflt (refine' Ct.use' (isfrag_ct ?c1) ?k1 ?k2 ?k3 ?k4 ?k5 ?kK ?kd ?ku ?_; walk_at "ct1"; (case k4 => k_asm); (case c1 => assumption); k_whole; (intro zh9 ztk9 zF9 zP7 zbk7 zr9 znw9); (rintro ⟨ze9, ze8⟩); (try subst ze8); (try subst ze9); (refine zbk7 _ _ ?_); (clear zbk7 zP7); (intro zN9); (try k_lt zl1); (try k_lt2 zl2); (try dsimp only); (try k_sweep); (try k_fold)))); k_steps)))
  unfold Hold
  refine gt_bool hlB ?_
  (k_steps; (repeat' (unfold Hold; (first | (k_here; k_dflt (refine' Ct.use' (isfirst_ct ?c1) ?k1 ?k2 ?k3 ?k4 ?k5 ?kK ?kd ?ku ?_; walk_at "ct1"; (case k4 => k_asm); (case c1 => assumption); k_whole; (intro zh9 ztk9 zF9 zP7 zbk7 zr9 znw9); (rintro ⟨ze9, ze8⟩); (try subst ze8); (try subst ze9); (refine zbk7 _ _ ?_); (clear zbk7 zP7); (intro zN9); (try k_lt zl1); (try k_lt2 zl2); (try dsimp only); (try k_sweep); (try k_fold))) | (k_here; k_dflt (refine' Ct.use' (isfrag_ct ?c1) ?k1 ?k2 ?k3 ?k4 ?k5 ?kK ?kd ?ku ?_; walk_at "ct1"; (case k4 => k_asm); (case c1 => assumption); k_whole; (intro zh9 ztk9 zF9 zP7 zbk7 zr9 znw9); (rintro ⟨ze9, ze8⟩); (try subst ze8); (try subst ze9); (refine zbk7 _ _ ?_); (clear zbk7 zP7); (intro zN9); (try k_lt zl1); (try k_lt2 zl2); (try dsimp only); (try k_sweep); (try k_fold)))); k_steps)))
  unfold Hold
  refine ne_bools (c := false) (by simp) ?_
  (k_steps; (repeat' (unfold Hold; (first | (k_here; k_dflt (refine' Ct.use' (isfirst_ct ?c1) ?k1 ?k2 ?k3 ?k4 ?k5 ?kK ?kd ?ku ?_; walk_at "ct1"; (case k4 => k_asm); (case c1 => assumption); k_whole; (intro zh9 ztk9 zF9 zP7 zbk7 zr9 znw9); (rintro ⟨ze9, ze8⟩); (try subst ze8); (try subst ze9); (refine zbk7 _ _ ?_); (clear zbk7 zP7); (intro zN9); (try k_lt zl1); (try k_lt2 zl2); (try dsimp only); (try k_sweep); (try k_fold))) | (k_here; k_dflt (refine' Ct.use' (isfrag_ct ?c1) ?k1 ?k2 ?k3 ?k4 ?k5 ?kK ?kd ?ku ?_; walk_at "ct1"; (case k4 => k_asm); (case c1 => assumption); k_whole; (intro zh9 ztk9 zF9 zP7 zbk7 zr9 znw9); (rintro ⟨ze9, ze8⟩); (try subst ze8); (try subst ze9); (refine zbk7 _ _ ?_); (clear zbk7 zP7); (intro zN9); (try k_lt zl1); (try k_lt2 zl2); (try dsimp only); (try k_sweep); (try k_fold)))); k_steps)))
  unfold Hold
  rename IsRange _ _ _ _ _ _ _ _ => hRg
  rename Fr _ _ _ _ => hF
  rename News _ _ _ _ => hN
  have hsz9 : (pcs ps).toArray.size = ps.length := by rw [List.size_toArray, List.length_map]
  with_unfolding_all refine' for_range (σ := Unit) (n := ps.length) (fun _ => (src, listOf #[.int a ta, .int b tb] ns) :: (pl0, listOf (pcs ps).toArray np) :: (x, instObj 155 dx) :: (dx, dictOf (hdrEs w H kh) n) :: n0) (fun _ => []) [Str.ofString "head"] (fun _ _ => True) () rfl hRg ?z1 ?z2 hF hN (fun _ h => h) ?z3 trivial ?turn ?done
  case z3 => exact fun _ h => nomatch h
  case z1 => rw [hsz9]; exact small_one (by omega) (by omega) (by omega) (by omega)
  case z2 => rw [hsz9]; unfold Builtin.Range.rangeSize; rw [if_pos (by decide)]; split <;> omega
  case turn =>
    intro i c t9 u h tk own hi _ hoff wF wN
    dsimp only [kstB] at wF wN
    have hp : ps[i]? = some ps[i] := List.getElem?_eq_getElem hi
    refine hideG ?_
    intro PZ bkZ
    obtain ⟨f1, f2, f3, f4, f5⟩ := g3.turn hN48 z7 z8 z9 hp
    refine bkZ ?_
    clear bkZ PZ
    have hpc := g2 ps[i] (List.getElem_mem hi)
    generalize ps[i] = p at hp f1 f2 f3 f4 f5 hpc
    refine hideG ?_
    intro PZ bkZ
    obtain ⟨dxp, y0, np9, yy1, yy2⟩ := hpc.2
    refine bkZ ?_
    clear bkZ PZ
    have hNT := cb_drop (news := (pl0, listOf (pcs ps).toArray np) :: (p.t, pairOf (.ref p.x) (.bytes p.b p.tb) p.n) :: (p.x, instObj 155 dxp) :: (dxp, dictOf (hdrEs w ⟨H.src, H.tgt, H.ident, p.more, p.off⟩ y0) np9) :: (x, instObj 155 dx) :: (dx, dictOf (hdrEs w H kh) n) :: (((src, listOf #[.int a ta, .int b tb] ns) :: (pl0, listOf (pcs ps).toArray np) :: (x, instObj 155 dx) :: (dx, dictOf (hdrEs w H kh) n) :: n0) ++ own)) wN (List.forall_mem_cons.mpr ⟨.tail _ (.head _), List.forall_mem_cons.mpr ⟨List.mem_append_left own (.tail _ (.tail _ (.tail _ (.tail _ hpc.1)))), List.forall_mem_cons.mpr ⟨List.mem_append_left own (.tail _ (.tail _ (.tail _ (.tail _ yy1)))), List.forall_mem_cons.mpr ⟨List.mem_append_left own (.tail _ (.tail _ (.tail _ (.tail _ yy2)))), List.forall_mem_cons.mpr ⟨.tail _ (.tail _ (.head _)), List.forall_mem_cons.mpr ⟨.tail _ (.tail _ (.tail _ (.head _))), fun p hp => hp⟩⟩⟩⟩⟩⟩)
    clear wN
    have hA : HdrAt w _ p.x ⟨H.src, H.tgt, H.ident, p.more, p.off⟩ := hpc.2.mono (news' := (pl0, listOf (pcs ps).toArray np) :: (p.t, pairOf (.ref p.x) (.bytes p.b p.tb) p.n) :: (p.x, instObj 155 dxp) :: (dxp, dictOf (hdrEs w ⟨H.src, H.tgt, H.ident, p.more, p.off⟩ y0) np9) :: (x, instObj 155 dx) :: (dx, dictOf (hdrEs w H kh) n) :: (((src, listOf #[.int a ta, .int b tb] ns) :: (pl0, listOf (pcs ps).toArray np) :: (x, instObj 155 dx) :: (dx, dictOf (hdrEs w H kh) n) :: n0) ++ own)) fun q hq => .tail _ (.tail _ (.tail _ (.tail _ (.tail _ (.tail _ (List.mem_append_left own (.tail _ (.tail _ (.tail _ (.tail _ hq))))))))))
    have hB : HdrAt w _ x H := hHx.mono (news' := (pl0, listOf (pcs ps).toArray np) :: (p.t, pairOf (.ref p.x) (.bytes p.b p.tb) p.n) :: (p.x, instObj 155 dxp) :: (dxp, dictOf (hdrEs w ⟨H.src, H.tgt, H.ident, p.more, p.off⟩ y0) np9) :: (x, instObj 155 dx) :: (dx, dictOf (hdrEs w H kh) n) :: (((src, listOf #[.int a ta, .int b tb] ns) :: (pl0, listOf (pcs ps).toArray np) :: (x, instObj 155 dx) :: (dx, dictOf (hdrEs w H kh) n) :: n0) ++ own)) fun q hq => .tail _ (.tail _ (.tail _ (.tail _ (.tail _ (.tail _ (List.mem_append_left own (.tail _ (.tail _ (.tail _ (.tail _ hq))))))))))
    show wpAny _ _ _ _ _ _
    k_fold
    (k_steps; (repeat' (unfold Hold; (first | (k_here; k_dflt (refine' Ct.use' (isfirst_ct ?c1) ?k1 ?k2 ?k3 ?k4 ?k5 ?kK ?kd ?ku ?_; walk_at "ct1"; (case k4 => k_asm); (case c1 => assumption); k_whole; (intro zh9 ztk9 zF9 zP7 zbk7 zr9 znw9); (rintro ⟨ze9, ze8⟩); (try subst ze8); (try subst ze9); (refine zbk7 _ _ ?_); (clear zbk7 zP7); (intro zN9); (try k_lt zl1); (try k_lt2 zl2); (try dsimp only); (try k_sweep); (try k_fold))) | (k_here; k_dflt (refine' Ct.use' (isfrag_ct ?c1) ?k1 ?k2 ?k3 ?k4 ?k5 ?kK ?kd ?ku ?_; walk_at "ct1"; (case k4 => k_asm); (case c1 => assumption); k_whole; (intro zh9 ztk9 zF9 zP7 zbk7 zr9 znw9); (rintro ⟨ze9, ze8⟩); (try subst ze8); (try subst ze9); (refine zbk7 _ _ ?_); (clear zbk7 zP7); (intro zN9); (try k_lt zl1); (try k_lt2 zl2); (try dsimp only); (try k_sweep); (try k_fold)))); k_steps)))
    unfold Hold
    rename News _ _ _ _ => hN
    have ei : (0 + (i : Int) * 1).toNat = i := by omega
    refine PyProof.Rows.item_list (x := .ref p.t) (News.isList hN (by k_mem)) (by omega) (by omega) ?_ ?_
    · rw [ei]
      simp [pcs, hp]
    (k_steps; (repeat' (unfold Hold; (first | (k_here; k_dflt (refine' Ct.use' (isfirst_ct ?c1) ?k1 ?k2 ?k3 ?k4 ?k5 ?kK ?kd ?ku ?_; walk_at "ct1"; (case k4 => k_asm); (case c1 => assumption); k_whole; (intro zh9 ztk9 zF9 zP7 zbk7 zr9 znw9); (rintro ⟨ze9, ze8⟩); (try subst ze8); (try subst ze9); (refine zbk7 _ _ ?_); (clear zbk7 zP7); (intro zN9); (try k_lt zl1); (try k_lt2 zl2); (try dsimp only); (try k_sweep); (try k_fold))) | (k_here; k_dflt (refine' Ct.use' (isfrag_ct ?c1) ?k1 ?k2 ?k3 ?k4 ?k5 ?kK ?kd ?ku ?_; walk_at "ct1"; (case k4 => k_asm); (case c1 => assumption); k_whole; (intro zh9 ztk9 zF9 zP7 zbk7 zr9 znw9); (rintro ⟨ze9, ze8⟩); (try subst ze8); (try subst ze9); (refine zbk7 _ _ ?_); (clear zbk7 zP7); (intro zN9); (try k_lt zl1); (try k_lt2 zl2); (try dsimp only); (try k_sweep); (try k_fold)))); k_steps)))
    unfold Hold
    (k_here; k_dflt (refine' Ct.use' (headr_ct hA ?c1 ?c2 ?c3 ?c4 ?c5 ?c6 ?c7 ?c8 ?c9) ?k1 ?k2 ?k3 ?k4 ?k5 ?kK ?kd ?ku ?_; walk_at "ct1"; (case k4 => k_asm); (case c1 => exact z1); (case c2 => exact z2); (case c3 => exact z3); (case c4 => exact z4); (case c5 => exact z5); (case c6 => exact z6); (case c7 => exact f1); (case c8 => exact f2); (case c9 => exact f3); k_whole; (intro h9 tk9 F9 P7 bk7 r9 nw9); (rintro ⟨e9, e8⟩); (try subst e8); (try subst e9); (refine bk7 _ _ ?_); (clear bk7 P7); (intro N9); (try k_lt l1); (try k_lt2 l2); (try dsimp only); (try k_sweep); (try k_fold)))
    have f4' : (p.more || decide (0 < p.off)) = (cB || (H.more || decide (0 < H.off))) := by rw [f4, ← hcB, hlen]
    (k_steps; (repeat' (unfold Hold; (first | (k_here; k_dflt (refine' Ct.use' (isfirst_ct ?c1) ?k1 ?k2 ?k3 ?k4 ?k5 ?kK ?kd ?ku ?_; walk_at "ct1"; (case k4 => k_asm); (case c1 => assumption); k_whole; (intro zh9 ztk9 zF9 zP7 zbk7 zr9 znw9); (rintro ⟨ze9, ze8⟩); (try subst ze8); (try subst ze9); (refine zbk7 _ _ ?_); (clear zbk7 zP7); (intro zN9); (try k_lt zl1); (try k_lt2 zl2); (try dsimp only); (try k_sweep); (try k_fold))) | (k_here; k_dflt (refine' Ct.use' (isfrag_ct ?c1) ?k1 ?k2 ?k3 ?k4 ?k5 ?kK ?kd ?ku ?_; walk_at "ct1"; (case k4 => k_asm); (case c1 => assumption); k_whole; (intro zh9 ztk9 zF9 zP7 zbk7 zr9 znw9); (rintro ⟨ze9, ze8⟩); (try subst ze8); (try subst ze9); (refine zbk7 _ _ ?_); (clear zbk7 zP7); (intro zN9); (try k_lt zl1); (try k_lt2 zl2); (try dsimp only); (try k_sweep); (try k_fold)))); k_steps)))
    all_goals
      unfold Hold
      refine ne_bools (c := false) (by rw [f4']; first | (rename (cB = true) => hc; rw [hc]; simp) | (rename (cB = false) => hc; rw [hc]; simp)) ?_
      (k_steps; (repeat' (unfold Hold; (first | (k_here; k_dflt (refine' Ct.use' (isfirst_ct ?c1) ?k1 ?k2 ?k3 ?k4 ?k5 ?kK ?kd ?ku ?_; walk_at "ct1"; (case k4 => k_asm); (case c1 => assumption); k_whole; (intro zh9 ztk9 zF9 zP7 zbk7 zr9 znw9); (rintro ⟨ze9, ze8⟩); (try subst ze8); (try subst ze9); (refine zbk7 _ _ ?_); (clear zbk7 zP7); (intro zN9); (try k_lt zl1); (try k_lt2 zl2); (try dsimp only); (try k_sweep); (try k_fold))) | (k_here; k_dflt (refine' Ct.use' (isfrag_ct ?c1) ?k1 ?k2 ?k3 ?k4 ?k5 ?kK ?kd ?ku ?_; walk_at "ct1"; (case k4 => k_asm); (case c1 => assumption); k_whole; (intro zh9 ztk9 zF9 zP7 zbk7 zr9 znw9); (rintro ⟨ze9, ze8⟩); (try subst ze8); (try subst ze9); (refine zbk7 _ _ ?_); (clear zbk7 zP7); (intro zN9); (try k_lt zl1); (try k_lt2 zl2); (try dsimp only); (try k_sweep); (try k_fold)))); k_steps)))
    all_goals
      unfold Hold
      refine ne_bools (c := false) (by first | exact first_a f5 (by assumption) | exact first_b f5 (by assumption)) ?_
      (k_steps; (repeat' (unfold Hold; (first | (k_here; k_dflt (refine' Ct.use' (isfirst_ct ?c1) ?k1 ?k2 ?k3 ?k4 ?k5 ?kK ?kd ?ku ?_; walk_at "ct1"; (case k4 => k_asm); (case c1 => assumption); k_whole; (intro zh9 ztk9 zF9 zP7 zbk7 zr9 znw9); (rintro ⟨ze9, ze8⟩); (try subst ze8); (try subst ze9); (refine zbk7 _ _ ?_); (clear zbk7 zP7); (intro zN9); (try k_lt zl1); (try k_lt2 zl2); (try dsimp only); (try k_sweep); (try k_fold))) | (k_here; k_dflt (refine' Ct.use' (isfrag_ct ?c1) ?k1 ?k2 ?k3 ?k4 ?k5 ?kK ?kd ?ku ?_; walk_at "ct1"; (case k4 => k_asm); (case c1 => assumption); k_whole; (intro zh9 ztk9 zF9 zP7 zbk7 zr9 znw9); (rintro ⟨ze9, ze8⟩); (try subst ze8); (try subst ze9); (refine zbk7 _ _ ?_); (clear zbk7 zP7); (intro zN9); (try k_lt zl1); (try k_lt2 zl2); (try dsimp only); (try k_sweep); (try k_fold)))); k_steps)))
    all_goals
      rename News _ _ _ _ => hN
      rename Fr _ _ _ _ => hF
      exact StJ.close () hF hN (fun q hq => List.mem_cons_of_mem _ (List.mem_cons_of_mem _ (List.mem_cons_of_mem _ (List.mem_cons_of_mem _ (List.mem_cons_of_mem _ (List.mem_cons_of_mem _ (List.mem_append_left own hq))))))) (fun q hq => List.mem_cons_of_mem _ (List.mem_cons_of_mem _ (List.mem_cons_of_mem _ (List.mem_cons_of_mem _ (List.mem_cons_of_mem _ (List.mem_cons_of_mem _ (List.mem_append_right _ hq))))))) hoff (by kst_all) (by kst_same) trivial
  case done =>
    intro c u h tk _ wF wN
    dsimp only [kstB] at wF wN
    have hB : HdrAt w _ x H := hHx.mono (news' := (src, listOf #[.int a ta, .int b tb] ns) :: (pl0, listOf (pcs ps).toArray np) :: (x, instObj 155 dx) :: (dx, dictOf (hdrEs w H kh) n) :: n0) fun q hq => .tail _ (.tail _ (.tail _ (.tail _ hq)))
    try k_fold
    (k_steps; (repeat' (unfold Hold; (first | (k_here; k_dflt (refine' Ct.use' (isfirst_ct ?c1) ?k1 ?k2 ?k3 ?k4 ?k5 ?kK ?kd ?ku ?_; walk_at "ct1"; (case k4 => k_asm); (case c1 => assumption); k_whole; (intro zh9 ztk9 zF9 zP7 zbk7 zr9 znw9); (rintro ⟨ze9, ze8⟩); (try subst ze8); (try subst ze9); (refine zbk7 _ _ ?_); (clear zbk7 zP7); (intro zN9); (try k_lt zl1); (try k_lt2 zl2); (try dsimp only); (try k_sweep); (try k_fold))) | (k_here; k_dflt (refine' Ct.use' (isfrag_ct ?c1) ?k1 ?k2 ?k3 ?k4 ?k5 ?kK ?kd ?ku ?_; walk_at "ct1"; (case k4 => k_asm); (case c1 => assumption); k_whole; (intro zh9 ztk9 zF9 zP7 zbk7 zr9 znw9); (rintro ⟨ze9, ze8⟩); (try subst ze8); (try subst ze9); (refine zbk7 _ _ ?_); (clear zbk7 zP7); (intro zN9); (try k_lt zl1); (try k_lt2 zl2); (try dsimp only); (try k_sweep); (try k_fold)))); k_steps)))
    · rename News _ _ _ _ => hN
      rename Fr _ _ _ _ => hF
      exact bkz _ _ <| CtRet.intro hF hN ⟨congrArg Value.bool (by assumption), a, b, ta, tb, _, rfl, ha0, hb0, hb1⟩
    · unfold Hold
      rename News _ _ _ _ => hN
      rename ((H.more || decide (0 < H.off)) = false) => hnf
      rw [Bool.or_eq_false_iff, decide_eq_false_iff_not] at hnf
      obtain ⟨hm0, ho0⟩ := hnf
      have ho1 : H.off = 0 := by omega
      have hHe : H = ⟨H.src, H.tgt, H.ident, false, 0⟩ := by
        cases H
        simp only at hm0 ho1
        subst hm0 ho1
        rfl
      have hB2 : HdrAt w ((pl0, listOf (pcs ps).toArray np) :: (x, instObj 155 dx) :: (dx, dictOf (hdrEs w H kh) n) :: n0) x ⟨H.src, H.tgt, H.ident, false, 0⟩ := hHe ▸ hHx.mono fun q hq => .tail _ (.tail _ (.tail _ hq))
      have hpk : ∀ p ∈ ps, PcOk w ((pl0, listOf (pcs ps).toArray np) :: (x, instObj 155 dx) :: (dx, dictOf (hdrEs w H kh) n) :: n0) H.src H.tgt H.ident d p := fun p hp => ⟨(g2 p hp).mono fun q hq => .tail _ (.tail _ (.tail _ hq)), g3.octs hp⟩
      have g30 : CutOk N m d 0 false ps := by
        rw [ho1, hm0] at g3
        exact g3
      obtain ⟨k, hk6, hst⟩ : ∃ k, k ≤ 6 ∧ ((2 ≤ k ∧ (∀ q ∈ ps, q.off = 0 → q.more = true) ∧ PInv N k S0 ps) ∨ (∃ p, ps = [p] ∧ p.off = 0 ∧ p.more = false ∧ KBw.bInts p.b = List.replicate N d)) := g30.begin hN48
      have hNZ := cb_drop (news := (((src, listOf #[.int a ta, .int b tb] ns) :: (pl0, listOf (pcs ps).toArray np) :: (x, instObj 155 dx) :: (dx, dictOf (hdrEs w H kh) n) :: n0) ++ [])) hN (fun p hp => by rw [List.append_nil] at hp; exact hp)
      (k_here; k_dflt (refine' Ct.use' (putr_ct (rest := []) ha0 hb0 hb1 (.head _) hB2 hpk (hob.trans hks) ?c1 hN48 hk6 ?c2 hst ?c3) ?k1 ?k2 ?k3 ?k4 ?k5 ?kK ?kd ?ku ?_; walk_at "ct1"; (case k4 => exact hNZ); (case c1 => exact List.forall_mem_cons.mpr ⟨hsrc _ g1, List.forall_mem_cons.mpr ⟨hsx.symm, List.forall_mem_cons.mpr ⟨hsd.symm, hsrc⟩⟩⟩); (case c2 => omega); (case c3 => exact fun _ h => nomatch h); k_whole; (intro h9 tk9 F9 P7 bk7 r9 nw9); (rintro ⟨n9, e9, ⟨e8, a', b', ta', tb', new, rfl, q1, q2, q3, q4, q5⟩, hsep9⟩); (try subst e8); (try subst e9); (refine bk7 _ _ ?_); (clear bk7 P7); (intro N9); (try k_lt l1); (try k_lt2 l2); (try dsimp only); (try k_sweep); (try k_fold)))
      (k_steps; (repeat' (unfold Hold; (first | (k_here; k_dflt (refine' Ct.use' (isfirst_ct ?c1) ?k1 ?k2 ?k3 ?k4 ?k5 ?kK ?kd ?ku ?_; walk_at "ct1"; (case k4 => k_asm); (case c1 => assumption); k_whole; (intro zh9 ztk9 zF9 zP7 zbk7 zr9 znw9); (rintro ⟨ze9, ze8⟩); (try subst ze8); (try subst ze9); (refine zbk7 _ _ ?_); (clear zbk7 zP7); (intro zN9); (try k_lt zl1); (try k_lt2 zl2); (try dsimp only); (try k_sweep); (try k_fold))) | (k_here; k_dflt (refine' Ct.use' (isfrag_ct ?c1) ?k1 ?k2 ?k3 ?k4 ?k5 ?kK ?kd ?ku ?_; walk_at "ct1"; (case k4 => k_asm); (case c1 => assumption); k_whole; (intro zh9 ztk9 zF9 zP7 zbk7 zr9 znw9); (rintro ⟨ze9, ze8⟩); (try subst ze8); (try subst ze9); (refine zbk7 _ _ ?_); (clear zbk7 zP7); (intro zN9); (try k_lt zl1); (try k_lt2 zl2); (try dsimp only); (try k_sweep); (try k_fold)))); k_steps)))
      rename News _ _ _ _ => hN
      rename Fr _ _ _ _ => hF
      exact bkz _ _ <| CtRet.intro hF hN ⟨rfl, a', b', ta', tb', _, rfl, q1, q2, q3⟩
end
end
-- Pool
section
example : True := by
  w_top off
  trivial
section
local macro_rules | `(tactic| walk_at "compareOp NotEq ref ref") => `(tactic| walk_at "hold")
theorem pool_a {z : Int} : 0 ≤ (if -1 - z > z then -1 - z else z) := by split <;> omega
theorem bit_nn {c : Prop} [Decidable c] : (0 : Int) ≤ if c then 1 else 0 := by split <;> decide
theorem intsAre_cases {vs : List Value} {zs : List Int} (h : IntsAre vs zs) : (vs = [] ∧ zs = []) ∨ ∃ z0 t0 vs0 zs0, vs = Value.int z0 t0 :: vs0 ∧ zs = z0 :: zs0 := by
  cases h with
  | nil => exact .inl ⟨rfl, rfl⟩
  | cons k t r => exact .inr ⟨_, _, _, _, rfl, rfl⟩
set_option maxHeartbeats 8000000 in
theorem pool_ct {w : World} {l : Addr} {vs : List Value} {zs : List Int} {news : Led} {mean : ExcName → Option Value} {mg mb : Str → Option Value} {dp un : Nat} {gd : Option (List Code)} {cn : Str} {cs : Scope} {ad : Addr} {ccd : Value} {cl : List (Str × Addr)} {outer : List Env}
    {A₀ : Around} {base h₀ : Heap} {L : Addr} {m : Str → Option Value} {s : Shared} {Q E : Value → Shared → Prop} (hl : h₀.IsList l vs.toArray) (hI : IntsAre vs zs) (hz63 : ¬ (63 : Int) < (zs.length : Int))
    (B : Below A₀ base outer h₀) (F : Fr h₀ L s.heap m) (X : (Mine.hk.heap_1 w.params).In h₀) (N : News h₀ L s.heap news)
    (T : Top Mine.hk.view_1 (looseW Mine.hk.view_1 [Str.ofString "ones_sum", Str.ofString "checksum", Str.ofString "IpHeader"]) mean mg mb h₀)
    (hk : cs.kind = .function) (hd : dp + 3 < recursionLimit) (hu : un + 8 * 3 < cLine)
    (ret : ∀ src a b ta tb n h' tk', Fr h₀ L h' m → News h₀ L h' ((src, listOf #[.int a ta, .int b tb] n) :: news) → (∀ p ∈ news, p.1 < src) → 0 ≤ a → 0 ≤ b → b < 2147483647 → Q (.ref src) { s with heap := h', toks := tk' }) :
    wpAny (model PySem.Challenge.rw_xw0337_01.row.prog w) (ktrTop dp un gd cn cs L ad ccd cl outer) (call (.ref 462) [.ref l]) Q E s := by
  refine wpAny_call ?_
  k_dflt k_enter
  rename Fr h₀ L _ m => hFG
  have hl2 := hl.at fun o e => hFG.keep _ _ e
  k_steps
  unfold Hold
  rename News _ _ _ _ => hN
  rename Fr _ _ _ _ => hF
  have hl3 := hl2.at fun o e => hF.keep _ _ e
  refine cmp_ne_nil hl3 (News.isList hN (by k_mem)) (by ktr_units) ?_
  rcases intsAre_cases hI with ⟨rfl, rfl⟩ | ⟨z0, t0, vs0, zs0, rfl, rfl⟩
  · dsimp only
    k_steps
    rename News _ _ _ _ => hN9
    rename Fr _ _ _ _ => hF9
    rename (∀ p ∈ news, p.1 < _) => hlt
    exact ret _ _ _ _ _ 0 _ _ hF9 (cb_drop hN9 (List.forall_mem_cons.mpr ⟨.head _, fun p hp => .tail _ (.tail _ hp)⟩)) (fun p hp => Nat.lt_trans (hlt p hp) (by omega)) (Int.mul_nonneg pool_a bit_nn) (Int.fmod_nonneg_of_pos _ (by decide)) (Int.fmod_lt_of_pos _ (by decide))
  · rw [show ((Value.int z0 t0 :: vs0).toArray.size != 0) = true by simp]
    k_steps
    rename News _ _ _ _ => hN9
    rename Fr _ _ _ _ => hF9
    rename (∀ p ∈ news, p.1 < _) => hlt
    exact ret _ _ _ _ _ 0 _ _ hF9 (cb_drop hN9 (List.forall_mem_cons.mpr ⟨.head _, fun p hp => .tail _ (.tail _ hp)⟩)) (fun p hp => Nat.lt_trans (hlt p hp) (by omega)) (Int.mul_nonneg pool_a bit_nn) (Int.fmod_nonneg_of_pos _ (by decide)) (Int.fmod_lt_of_pos _ (by decide))
end
end
-- LawA
section
example : True := by
  w_top off
  trivial
theorem take_u {w : World} {src : Addr} {a b top : Int} {ta tb tt : Tok} {n : Nat} {news : Led} {g : Obj → Led} (U : UpdF src (listOf #[.int a ta, .int b tb] n) news g) (ha : 0 ≤ a) (hb : 0 ≤ b) (hb2 : b < 2147483647) (ht : 0 < top) (ht2 : top ≤ 2147483648) :
    Ct w 469 [.ref src, .int top tt] news 3 (fun r news' => ∃ d t a' b' ta' tb', r = .int d t ∧ 0 ≤ d ∧ d < top ∧ 0 ≤ a' ∧ 0 ≤ b' ∧ b' < 2147483647 ∧ news' = g (listOf #[.int a' ta', .int b' tb'] n)) := by
  obtain ⟨pre, post, rfl, hg, h1, h2⟩ := U.split
  intro mean mg mb dp un gd cn cs ad ccd cl outer A₀ base h₀ L m s Q E B F X N T hk hd hu ret
  have hne : ∀ p ∈ pre ++ post, p.1 ≠ src := fun p hp => (List.mem_append.mp hp).elim (h1 p) (h2 p)
  have N2 := cb_drop (news := (src, listOf #[.int a ta, .int b tb] n) :: (pre ++ post)) N (List.forall_mem_cons.mpr ⟨List.mem_append_right _ (.head _), fun p hp => (List.mem_append.mp hp).elim (fun h => List.mem_append_left _ h) (fun h => List.mem_append_right _ (.tail _ h))⟩)
  refine Ct.use (take_ct ha hb hb2 ht ht2 hne) B F X N2 T hk hd hu ?_
  rintro r n' h' tk' F' N' ⟨d, t, a', b', ta', tb', rfl, q1, q2, q3, q4, q5, rfl⟩
  refine ret _ _ h' tk' F' ?_ ⟨d, t, a', b', ta', tb', rfl, q1, q2, q3, q4, q5, rfl⟩
  rw [hg]
  exact cb_drop N' (fun p hp => (List.mem_append.mp hp).elim (fun h => .tail _ (List.mem_append_left _ h)) (fun h => (List.mem_cons.mp h).elim (fun e => e ▸ .head _) (fun h => .tail _ (List.mem_append_right _ h))))
section
open PySem.Calls
variable {prog : Program} {w : World} {A : Around} {E : Value → Shared → Prop} {s : Shared} {h₀ : Heap} {L : Addr}
theorem menu4 {value slice : PySem.Expr} {news : Led} {l t1 t2 t3 t4 : Addr} {n n1 n2 n3 n4 i : Nat} {o1 o2 o3 o4 k : Int} {u1 u2 u3 u4 u : Tok} {b1 b2 b3 b4 : Bool} {Q : Value → Shared → Prop} (N : News h₀ L s.heap news) (hk : k = ((0 : Int) + (i : Int) * 1).fmod 4)
    (hl : (l, listOf #[.ref t1, .ref t2, .ref t3, .ref t4] n) ∈ news) (m1 : (t1, pairOf (.int o1 u1) (.bool b1) n1) ∈ news) (m2 : (t2, pairOf (.int o2 u2) (.bool b2) n2) ∈ news) (m3 : (t3, pairOf (.int o3 u3) (.bool b3) n3) ∈ news) (m4 : (t4, pairOf (.int o4 u4) (.bool b4) n4) ∈ news)
    (g1 : 0 ≤ o1 ∧ o1 ≤ 1000 ∧ o1 % 8 = 0) (g2 : 0 ≤ o2 ∧ o2 ≤ 1000 ∧ o2 % 8 = 0) (g3 : 0 ≤ o3 ∧ o3 ≤ 1000 ∧ o3 % 8 = 0) (g4 : 0 ≤ o4 ∧ o4 ≤ 1000 ∧ o4 % 8 = 0)
    (h : ∀ tj off uj more nj, (tj, pairOf (.int off uj) (.bool more) nj) ∈ news → (0 ≤ off ∧ off ≤ 1000 ∧ off % 8 = 0) → Q (.ref tj) s)
    (hs : subscripted slice false (.ref l) (.int k u) = operate [.ref l, .int k u] (getItem (.ref l) (.int k u)) := by with_unfolding_all rfl) :
    wpAny (model prog w) A (subscriptTail value slice (.ref l) (.int k u)) Q E s := by
  rw [Int.fmod_eq_emod_of_nonneg _ (by decide)] at hk
  have hl2 := News.isList N hl
  have go : ∀ (x : Value), (#[Value.ref t1, .ref t2, .ref t3, .ref t4] : Array Value)[k.toNat]? = some x → Q x s → wpAny (model prog w) A (subscriptTail value slice (.ref l) (.int k u)) Q E s := fun x hx hq =>
    tail_any hl2.typeIs slot_list_getitem.lookup (wpAny_getItem_list hl2 (by omega) (by omega) hx hq) hs
  have hk4 : k.toNat = 0 ∨ k.toNat = 1 ∨ k.toNat = 2 ∨ k.toNat = 3 := by omega
  rcases hk4 with e | e | e | e
  · exact go (.ref t1) (by rw [e]; rfl) (h _ _ _ _ _ m1 g1)
  · exact go (.ref t2) (by rw [e]; rfl) (h _ _ _ _ _ m2 g2)
  · exact go (.ref t3) (by rw [e]; rfl) (h _ _ _ _ _ m3 g3)
  · exact go (.ref t4) (by rw [e]; rfl) (h _ _ _ _ _ m4 g4)
end
end
-- Law
section
example : True := by
  w_top off
  trivial
theorem pick2 {h₀ h : Heap} {L a a2 : Addr} {o o2 : Obj} {rest : Led} {G : Prop} (_N : News h₀ L h ((a, o) :: (a2, o2) :: rest)) (k : ∀ b b2 : Addr, b = a → b2 = a2 → G) : G := k a a2 rfl rfl
section
local macro_rules | `(tactic| walk_at "pyIter ref") => `(tactic| walk_at "hold")
local macro_rules | `(tactic| walk_at "call type:bytes") => `(tactic| walk_at "hold")
local macro_rules | `(tactic| walk_at "subscriptTail") => `(tactic| (k_here; (with_reducible show wpAny _ _ (subscriptTail _ _ (Value.ref _) (Value.int _ _)) _ _ _); (k_dflt (refine Hold.on ?_))))
local macro_rules | `(tactic| k_qdec) => `(tactic| decide +kernel)
set_option maxHeartbeats 8000000 in
theorem law_all : PySem.Challenge.rw_xw0337_01.Holds := Mine.hd (by rfl) (by rfl) (by rfl) (by
  k_go0
  have hq9 : HoldAt [155, 131, 462, 469, 483, 497] := .mk
  refine hideQ ?_
  intro Qz bkz
  all_goals (try k_fold)
  (k_steps; (repeat' (unfold Hold; (first | (k_here; k_dflt (refine' Ct.use' mkHdrF_ct ?k1 ?k2 ?k3 ?k4 ?k5 ?kK ?kd ?ku ?_; walk_at "ct1"; (case k4 => k_asm); k_whole; (intro zh9 ztk9 zF9 zP7 zbk7 zr9 znw9); (rintro ⟨zx9, zdx9, zkh9, zn9, ze8, ze9, zl1, zl2⟩); (try subst ze8); (try subst ze9); (refine zbk7 _ _ ?_); (clear zbk7 zP7); (intro zN9); (try k_lt zl1); (try k_lt2 zl2); (try dsimp only); (try k_sweep); (try k_fold))) | (k_here; k_dflt (refine' Ct.use' (isfrag_ct ?c1) ?k1 ?k2 ?k3 ?k4 ?k5 ?kK ?kd ?ku ?_; walk_at "ct1"; (case k4 => k_asm); (case c1 => (refine' ⟨_, _, _, ?hm1, ?hm2⟩; (case hm1 => k_mem); (case hm2 => k_mem))); k_whole; (intro zh9 ztk9 zF9 zP7 zbk7 zr9 znw9); (rintro ⟨ze9, ze8⟩); (try subst ze8); (try subst ze9); (refine zbk7 _ _ ?_); (clear zbk7 zP7); (intro zN9); (try k_lt zl1); (try k_lt2 zl2); (try dsimp only); (try k_sweep); (try k_fold)))); k_steps)))
  unfold Hold
  k_dflt (refine pool_ct (by k_asm) (by assumption) (by assumption) (by k_asm) (by k_asm) (by k_asm) (by k_asm) (by k_asm) (by first | exact rfl | assumption) (by ktr_room) (by ktr_units) ?_)
  intro src a b ta tb ns h9 tk9 F9 N9 hlt9 ha0 hb0 hb1
  (k_steps; (repeat' (unfold Hold; (first | (k_here; k_dflt (refine' Ct.use' mkHdrF_ct ?k1 ?k2 ?k3 ?k4 ?k5 ?kK ?kd ?ku ?_; walk_at "ct1"; (case k4 => k_asm); k_whole; (intro zh9 ztk9 zF9 zP7 zbk7 zr9 znw9); (rintro ⟨zx9, zdx9, zkh9, zn9, ze8, ze9, zl1, zl2⟩); (try subst ze8); (try subst ze9); (refine zbk7 _ _ ?_); (clear zbk7 zP7); (intro zN9); (try k_lt zl1); (try k_lt2 zl2); (try dsimp only); (try k_sweep); (try k_fold))) | (k_here; k_dflt (refine' Ct.use' (isfrag_ct ?c1) ?k1 ?k2 ?k3 ?k4 ?k5 ?kK ?kd ?ku ?_; walk_at "ct1"; (case k4 => k_asm); (case c1 => (refine' ⟨_, _, _, ?hm1, ?hm2⟩; (case hm1 => k_mem); (case hm2 => k_mem))); k_whole; (intro zh9 ztk9 zF9 zP7 zbk7 zr9 znw9); (rintro ⟨ze9, ze8⟩); (try subst ze8); (try subst ze9); (refine zbk7 _ _ ?_); (clear zbk7 zP7); (intro zN9); (try k_lt zl1); (try k_lt2 zl2); (try dsimp only); (try k_sweep); (try k_fold)))); k_steps)))
  unfold Hold
  rename IsRange _ _ _ _ _ _ _ _ => hRg
  rename Fr _ _ _ _ => hF
  rename News _ _ _ _ => hN
  with_unfolding_all refine' for_range (σ := Int × Int × Tok × Tok) (n := 6) (fun c => [(src, listOf #[.int c.1 c.2.2.1, .int c.2.1 c.2.2.2] ns)]) (fun _ => []) [Str.ofString "source_of", Str.ofString "target", Str.ofString "offset", Str.ofString "more", Str.ofString "header", Str.ofString "octets"] (fun _ c => 0 ≤ c.1 ∧ 0 ≤ c.2.1 ∧ c.2.1 < 2147483647) (a, b, ta, tb) rfl hRg ?h1 ?h2 hF hN ?hn ?h3 ⟨ha0, hb0, hb1⟩ ?turn ?done
  case h3 => exact fun _ h => nomatch h
  case h1 => decide
  case h2 => rfl
  case hn => exact List.forall_mem_cons.mpr ⟨.head _, fun _ h => nomatch h⟩
  case turn =>
    clear hN hF hRg
    intro i c t9 u h tk own hi hP hoff wF wN
    refine hideG ?_
    intro PZ bkZ
    obtain ⟨ca, cb, cta, ctb⟩ := c
    refine bkZ ?_
    clear bkZ PZ
    dsimp only [kstB] at wF wN hP
    refine hideG ?_
    intro PZ bkZ
    obtain ⟨p1, p2, p3⟩ := hP
    refine bkZ ?_
    clear bkZ PZ
    have hown : ∀ p ∈ own, p.1 ≠ src := fun p hp => hoff p hp src (List.mem_cons_self ..)
    simp only [List.cons_append, List.nil_append] at wN
    show wpAny _ _ _ _ _ _
    k_fold
    (k_steps; (repeat' (unfold Hold; (first | (k_here; k_dflt (refine' Ct.use' mkHdrF_ct ?k1 ?k2 ?k3 ?k4 ?k5 ?kK ?kd ?ku ?_; walk_at "ct1"; (case k4 => k_asm); k_whole; (intro zh9 ztk9 zF9 zP7 zbk7 zr9 znw9); (rintro ⟨zx9, zdx9, zkh9, zn9, ze8, ze9, zl1, zl2⟩); (try subst ze8); (try subst ze9); (refine zbk7 _ _ ?_); (clear zbk7 zP7); (intro zN9); (try k_lt zl1); (try k_lt2 zl2); (try dsimp only); (try k_sweep); (try k_fold))) | (k_here; k_dflt (refine' Ct.use' (isfrag_ct ?c1) ?k1 ?k2 ?k3 ?k4 ?k5 ?kK ?kd ?ku ?_; walk_at "ct1"; (case k4 => k_asm); (case c1 => (refine' ⟨_, _, _, ?hm1, ?hm2⟩; (case hm1 => k_mem); (case hm2 => k_mem))); k_whole; (intro zh9 ztk9 zF9 zP7 zbk7 zr9 znw9); (rintro ⟨ze9, ze8⟩); (try subst ze8); (try subst ze9); (refine zbk7 _ _ ?_); (clear zbk7 zP7); (intro zN9); (try k_lt zl1); (try k_lt2 zl2); (try dsimp only); (try k_sweep); (try k_fold)))); k_steps)))
    unfold Hold
    (k_here; k_dflt (refine' Ct.use' (take_u ?U p1 p2 p3 ?c4 ?c5) ?k1 ?k2 ?k3 ?k4 ?k5 ?kK ?kd ?ku ?_; walk_at "ct1"; (case k4 => k_asm); (case U => k_updF); (case c4 => decide); (case c5 => decide); k_whole; (intro h9 tk9 F9 P7 bk7 r9 nw9); (rintro ⟨d1, t1, a1, b1, ta1, tb1, e8, q1, q2, q3, q4, q5, e9⟩); (try subst e8); (try subst e9); (refine bk7 _ _ ?_); (clear bk7 P7); (intro N9); (try k_lt l1); (try k_lt2 l2); (try dsimp only); (try k_sweep); (try k_fold)))
    (k_steps; (repeat' (unfold Hold; (first | (k_here; k_dflt (refine' Ct.use' mkHdrF_ct ?k1 ?k2 ?k3 ?k4 ?k5 ?kK ?kd ?ku ?_; walk_at "ct1"; (case k4 => k_asm); k_whole; (intro zh9 ztk9 zF9 zP7 zbk7 zr9 znw9); (rintro ⟨zx9, zdx9, zkh9, zn9, ze8, ze9, zl1, zl2⟩); (try subst ze8); (try subst ze9); (refine zbk7 _ _ ?_); (clear zbk7 zP7); (intro zN9); (try k_lt zl1); (try k_lt2 zl2); (try dsimp only); (try k_sweep); (try k_fold))) | (k_here; k_dflt (refine' Ct.use' (isfrag_ct ?c1) ?k1 ?k2 ?k3 ?k4 ?k5 ?kK ?kd ?ku ?_; walk_at "ct1"; (case k4 => k_asm); (case c1 => (refine' ⟨_, _, _, ?hm1, ?hm2⟩; (case hm1 => k_mem); (case hm2 => k_mem))); k_whole; (intro zh9 ztk9 zF9 zP7 zbk7 zr9 znw9); (rintro ⟨ze9, ze8⟩); (try subst ze8); (try subst ze9); (refine zbk7 _ _ ?_); (clear zbk7 zP7); (intro zN9); (try k_lt zl1); (try k_lt2 zl2); (try dsimp only); (try k_sweep); (try k_fold)))); k_steps)))
    unfold Hold
    (k_here; k_dflt (refine' Ct.use' (take_u ?U q3 q4 q5 ?c4 ?c5) ?k1 ?k2 ?k3 ?k4 ?k5 ?kK ?kd ?ku ?_; walk_at "ct1"; (case k4 => k_asm); (case U => k_updF); (case c4 => decide); (case c5 => decide); k_whole; (intro h9 tk9 F9 P7 bk7 r9 nw9); (rintro ⟨d2, t2, a2, b2, ta2, tb2, e8, r1, r2, r3, r4, r5, e9⟩); (try subst e8); (try subst e9); (refine bk7 _ _ ?_); (clear bk7 P7); (intro N9); (try k_lt l1); (try k_lt2 l2); (try dsimp only); (try k_sweep); (try k_fold)))
    (k_steps; (repeat' (unfold Hold; (first | (k_here; k_dflt (refine' Ct.use' mkHdrF_ct ?k1 ?k2 ?k3 ?k4 ?k5 ?kK ?kd ?ku ?_; walk_at "ct1"; (case k4 => k_asm); k_whole; (intro zh9 ztk9 zF9 zP7 zbk7 zr9 znw9); (rintro ⟨zx9, zdx9, zkh9, zn9, ze8, ze9, zl1, zl2⟩); (try subst ze8); (try subst ze9); (refine zbk7 _ _ ?_); (clear zbk7 zP7); (intro zN9); (try k_lt zl1); (try k_lt2 zl2); (try dsimp only); (try k_sweep); (try k_fold))) | (k_here; k_dflt (refine' Ct.use' (isfrag_ct ?c1) ?k1 ?k2 ?k3 ?k4 ?k5 ?kK ?kd ?ku ?_; walk_at "ct1"; (case k4 => k_asm); (case c1 => (refine' ⟨_, _, _, ?hm1, ?hm2⟩; (case hm1 => k_mem); (case hm2 => k_mem))); k_whole; (intro zh9 ztk9 zF9 zP7 zbk7 zr9 znw9); (rintro ⟨ze9, ze8⟩); (try subst ze8); (try subst ze9); (refine zbk7 _ _ ?_); (clear zbk7 zP7); (intro zN9); (try k_lt zl1); (try k_lt2 zl2); (try dsimp only); (try k_sweep); (try k_fold)))); k_steps)))
    unfold Hold
    (k_here; k_dflt (refine' Ct.use' (take_u ?U r3 r4 r5 ?c4 ?c5) ?k1 ?k2 ?k3 ?k4 ?k5 ?kK ?kd ?ku ?_; walk_at "ct1"; (case k4 => k_asm); (case U => k_updF); (case c4 => decide); (case c5 => decide); k_whole; (intro h9 tk9 F9 P7 bk7 r9 nw9); (rintro ⟨d3, t3, a3, b3, ta3, tb3, e8, s1, s2, s3, s4, s5, e9⟩); (try subst e8); (try subst e9); (refine bk7 _ _ ?_); (clear bk7 P7); (intro N9); (try k_lt l1); (try k_lt2 l2); (try dsimp only); (try k_sweep); (try k_fold)))
    (k_steps; (repeat' (unfold Hold; (first | (k_here; k_dflt (refine' Ct.use' mkHdrF_ct ?k1 ?k2 ?k3 ?k4 ?k5 ?kK ?kd ?ku ?_; walk_at "ct1"; (case k4 => k_asm); k_whole; (intro zh9 ztk9 zF9 zP7 zbk7 zr9 znw9); (rintro ⟨zx9, zdx9, zkh9, zn9, ze8, ze9, zl1, zl2⟩); (try subst ze8); (try subst ze9); (refine zbk7 _ _ ?_); (clear zbk7 zP7); (intro zN9); (try k_lt zl1); (try k_lt2 zl2); (try dsimp only); (try k_sweep); (try k_fold))) | (k_here; k_dflt (refine' Ct.use' (isfrag_ct ?c1) ?k1 ?k2 ?k3 ?k4 ?k5 ?kK ?kd ?ku ?_; walk_at "ct1"; (case k4 => k_asm); (case c1 => (refine' ⟨_, _, _, ?hm1, ?hm2⟩; (case hm1 => k_mem); (case hm2 => k_mem))); k_whole; (intro zh9 ztk9 zF9 zP7 zbk7 zr9 znw9); (rintro ⟨ze9, ze8⟩); (try subst ze8); (try subst ze9); (refine zbk7 _ _ ?_); (clear zbk7 zP7); (intro zN9); (try k_lt zl1); (try k_lt2 zl2); (try dsimp only); (try k_sweep); (try k_fold)))); k_steps)))
    unfold Hold
    rename News _ _ _ _ => hN
    refine menu4 (i := i) hN rfl (by k_mem) (by k_mem) (by k_mem) (by k_mem) (by k_mem) (by omega) (by omega) (by omega) (by omega) ?_
    intro tj off uj more nj hmem hoffs
    have hNJ := cb_drop (news := (tj, pairOf (.int off uj) (.bool more) nj) :: (src, listOf #[.int a3 ta3, .int b3 tb3] ns) :: own) hN (List.forall_mem_cons.mpr ⟨hmem, List.forall_mem_cons.mpr ⟨by k_mem, fun p hp => by (repeat refine List.mem_cons_of_mem _ ?_); exact hp⟩⟩)
    have htj : tj ≠ src := news_ne hNJ (.head _) (.tail _ (.head _)) (ty_ne (by decide))
    clear hmem hN
    (k_steps; (repeat' (unfold Hold; (first | (k_here; k_dflt (refine' Ct.use' mkHdrF_ct ?k1 ?k2 ?k3 ?k4 ?k5 ?kK ?kd ?ku ?_; walk_at "ct1"; (case k4 => k_asm); k_whole; (intro zh9 ztk9 zF9 zP7 zbk7 zr9 znw9); (rintro ⟨zx9, zdx9, zkh9, zn9, ze8, ze9, zl1, zl2⟩); (try subst ze8); (try subst ze9); (refine zbk7 _ _ ?_); (clear zbk7 zP7); (intro zN9); (try k_lt zl1); (try k_lt2 zl2); (try dsimp only); (try k_sweep); (try k_fold))) | (k_here; k_dflt (refine' Ct.use' (isfrag_ct ?c1) ?k1 ?k2 ?k3 ?k4 ?k5 ?kK ?kd ?ku ?_; walk_at "ct1"; (case k4 => k_asm); (case c1 => (refine' ⟨_, _, _, ?hm1, ?hm2⟩; (case hm1 => k_mem); (case hm2 => k_mem))); k_whole; (intro zh9 ztk9 zF9 zP7 zbk7 zr9 znw9); (rintro ⟨ze9, ze8⟩); (try subst ze8); (try subst ze9); (refine zbk7 _ _ ?_); (clear zbk7 zP7); (intro zN9); (try k_lt zl1); (try k_lt2 zl2); (try dsimp only); (try k_sweep); (try k_fold)))); k_steps)))
    unfold Hold
    (k_here; k_dflt (refine' Ct.use' (take_u ?U s3 s4 s5 ?c4 ?c5) ?k1 ?k2 ?k3 ?k4 ?k5 ?kK ?kd ?ku ?_; walk_at "ct1"; (case k4 => k_asm); (case U => k_updF); (case c4 => decide); (case c5 => decide); k_whole; (intro h9 tk9 F9 P7 bk7 r9 nw9); (rintro ⟨d4, t4, a4, b4, ta4, tb4, e8, u1, u2, u3, u4, u5, e9⟩); (try subst e8); (try subst e9); (refine bk7 _ _ ?_); (clear bk7 P7); (intro N9); (try k_lt l1); (try k_lt2 l2); (try dsimp only); (try k_sweep); (try k_fold)))
    (k_steps; (repeat' (unfold Hold; (first | (k_here; k_dflt (refine' Ct.use' mkHdrF_ct ?k1 ?k2 ?k3 ?k4 ?k5 ?kK ?kd ?ku ?_; walk_at "ct1"; (case k4 => k_asm); k_whole; (intro zh9 ztk9 zF9 zP7 zbk7 zr9 znw9); (rintro ⟨zx9, zdx9, zkh9, zn9, ze8, ze9, zl1, zl2⟩); (try subst ze8); (try subst ze9); (refine zbk7 _ _ ?_); (clear zbk7 zP7); (intro zN9); (try k_lt zl1); (try k_lt2 zl2); (try dsimp only); (try k_sweep); (try k_fold))) | (k_here; k_dflt (refine' Ct.use' (isfrag_ct ?c1) ?k1 ?k2 ?k3 ?k4 ?k5 ?kK ?kd ?ku ?_; walk_at "ct1"; (case k4 => k_asm); (case c1 => (refine' ⟨_, _, _, ?hm1, ?hm2⟩; (case hm1 => k_mem); (case hm2 => k_mem))); k_whole; (intro zh9 ztk9 zF9 zP7 zbk7 zr9 znw9); (rintro ⟨ze9, ze8⟩); (try subst ze8); (try subst ze9); (refine zbk7 _ _ ?_); (clear zbk7 zP7); (intro zN9); (try k_lt zl1); (try k_lt2 zl2); (try dsimp only); (try k_sweep); (try k_fold)))); k_steps)))
    unfold Hold
    rename News _ _ _ _ => hN
    refine pick2 hN ?_
    intro x dx ex edx
    subst ex edx
    rename (tj < dx ∧ _) => hl1
    rename (dx < x) => hl2
    have e31 : (2 : Int) ^ Int.toNat 31 = 2147483648 := by decide
    have q2' : d1 < 2147483648 := by rw [← e31]; exact q2
    have r2' : d2 < 2147483648 := by rw [← e31]; exact r2
    (k_here; k_dflt (refine' Ct.use' (headr_ct (H := ⟨1 + d1, 1 + d2, d4, more, off⟩) ?c1 ?c2 ?c3 ?c4 ?c5 ?c6 ?c7 ?c8 ?c9 ?c10) ?k1 ?k2 ?k3 ?k4 ?k5 ?kK ?kd ?ku ?_; walk_at "ct1"; (case k4 => k_asm); (case c1 => (refine' ⟨_, _, _, ?hm1, ?hm2⟩; (case hm1 => k_mem); (case hm2 => k_mem))); (case c2 => (dsimp only; omega)); (case c3 => (dsimp only; omega)); (case c4 => (dsimp only; omega)); (case c5 => (dsimp only; omega)); (case c6 => (dsimp only; omega)); (case c7 => (dsimp only; omega)); (case c8 => (dsimp only; omega)); (case c9 => (dsimp only; omega)); (case c10 => (dsimp only; omega)); k_whole; (intro h9 tk9 F9 P7 bk7 r9 nw9); (rintro ⟨e9, e8⟩); (try subst e8); (try subst e9); (refine bk7 _ _ ?_); (clear bk7 P7); (intro N9); (try k_lt l1); (try k_lt2 l2); (try dsimp only); (try k_sweep); (try k_fold)))
    (k_steps; (repeat' (unfold Hold; (first | (k_here; k_dflt (refine' Ct.use' mkHdrF_ct ?k1 ?k2 ?k3 ?k4 ?k5 ?kK ?kd ?ku ?_; walk_at "ct1"; (case k4 => k_asm); k_whole; (intro zh9 ztk9 zF9 zP7 zbk7 zr9 znw9); (rintro ⟨zx9, zdx9, zkh9, zn9, ze8, ze9, zl1, zl2⟩); (try subst ze8); (try subst ze9); (refine zbk7 _ _ ?_); (clear zbk7 zP7); (intro zN9); (try k_lt zl1); (try k_lt2 zl2); (try dsimp only); (try k_sweep); (try k_fold))) | (k_here; k_dflt (refine' Ct.use' (isfrag_ct ?c1) ?k1 ?k2 ?k3 ?k4 ?k5 ?kK ?kd ?ku ?_; walk_at "ct1"; (case k4 => k_asm); (case c1 => (refine' ⟨_, _, _, ?hm1, ?hm2⟩; (case hm1 => k_mem); (case hm2 => k_mem))); k_whole; (intro zh9 ztk9 zF9 zP7 zbk7 zr9 znw9); (rintro ⟨ze9, ze8⟩); (try subst ze8); (try subst ze9); (refine zbk7 _ _ ?_); (clear zbk7 zP7); (intro zN9); (try k_lt zl1); (try k_lt2 zl2); (try dsimp only); (try k_sweep); (try k_fold)))); k_steps)))
    unfold Hold
    (k_here; k_dflt (refine' Ct.use' (take_u ?U u3 u4 u5 ?c4 ?c5) ?k1 ?k2 ?k3 ?k4 ?k5 ?kK ?kd ?ku ?_; walk_at "ct1"; (case k4 => k_asm); (case U => k_updF); (case c4 => decide); (case c5 => decide); k_whole; (intro h9 tk9 F9 P7 bk7 r9 nw9); (rintro ⟨d5, t5, a5, b5, ta5, tb5, e8, w1, w2, w3, w4, w5, e9⟩); (try subst e8); (try subst e9); (refine bk7 _ _ ?_); (clear bk7 P7); (intro N9); (try k_lt l1); (try k_lt2 l2); (try dsimp only); (try k_sweep); (try k_fold)))
    (k_steps; (repeat' (unfold Hold; (first | (k_here; k_dflt (refine' Ct.use' mkHdrF_ct ?k1 ?k2 ?k3 ?k4 ?k5 ?kK ?kd ?ku ?_; walk_at "ct1"; (case k4 => k_asm); k_whole; (intro zh9 ztk9 zF9 zP7 zbk7 zr9 znw9); (rintro ⟨zx9, zdx9, zkh9, zn9, ze8, ze9, zl1, zl2⟩); (try subst ze8); (try subst ze9); (refine zbk7 _ _ ?_); (clear zbk7 zP7); (intro zN9); (try k_lt zl1); (try k_lt2 zl2); (try dsimp only); (try k_sweep); (try k_fold))) | (k_here; k_dflt (refine' Ct.use' (isfrag_ct ?c1) ?k1 ?k2 ?k3 ?k4 ?k5 ?kK ?kd ?ku ?_; walk_at "ct1"; (case k4 => k_asm); (case c1 => (refine' ⟨_, _, _, ?hm1, ?hm2⟩; (case hm1 => k_mem); (case hm2 => k_mem))); k_whole; (intro zh9 ztk9 zF9 zP7 zbk7 zr9 znw9); (rintro ⟨ze9, ze8⟩); (try subst ze8); (try subst ze9); (refine zbk7 _ _ ?_); (clear zbk7 zP7); (intro zN9); (try k_lt zl1); (try k_lt2 zl2); (try dsimp only); (try k_sweep); (try k_fold)))); k_steps)))
    unfold Hold
    (k_here; k_dflt (refine' Ct.use' (take_u ?U w3 w4 w5 ?c4 ?c5) ?k1 ?k2 ?k3 ?k4 ?k5 ?kK ?kd ?ku ?_; walk_at "ct1"; (case k4 => k_asm); (case U => k_updF); (case c4 => decide); (case c5 => decide); k_whole; (intro h9 tk9 F9 P7 bk7 r9 nw9); (rintro ⟨d6, t6, a6, b6, ta6, tb6, e8, x1, x2, x3, x4, x5, e9⟩); (try subst e8); (try subst e9); (refine bk7 _ _ ?_); (clear bk7 P7); (intro N9); (try k_lt l1); (try k_lt2 l2); (try dsimp only); (try k_sweep); (try k_fold)))
    (k_steps; (repeat' (unfold Hold; (first | (k_here; k_dflt (refine' Ct.use' mkHdrF_ct ?k1 ?k2 ?k3 ?k4 ?k5 ?kK ?kd ?ku ?_; walk_at "ct1"; (case k4 => k_asm); k_whole; (intro zh9 ztk9 zF9 zP7 zbk7 zr9 znw9); (rintro ⟨zx9, zdx9, zkh9, zn9, ze8, ze9, zl1, zl2⟩); (try subst ze8); (try subst ze9); (refine zbk7 _ _ ?_); (clear zbk7 zP7); (intro zN9); (try k_lt zl1); (try k_lt2 zl2); (try dsimp only); (try k_sweep); (try k_fold))) | (k_here; k_dflt (refine' Ct.use' (isfrag_ct ?c1) ?k1 ?k2 ?k3 ?k4 ?k5 ?kK ?kd ?ku ?_; walk_at "ct1"; (case k4 => k_asm); (case c1 => (refine' ⟨_, _, _, ?hm1, ?hm2⟩; (case hm1 => k_mem); (case hm2 => k_mem))); k_whole; (intro zh9 ztk9 zF9 zP7 zbk7 zr9 znw9); (rintro ⟨ze9, ze8⟩); (try subst ze8); (try subst ze9); (refine zbk7 _ _ ?_); (clear zbk7 zP7); (intro zN9); (try k_lt zl1); (try k_lt2 zl2); (try dsimp only); (try k_sweep); (try k_fold)))); k_steps)))
    unfold Hold
    rename News _ _ _ _ => hN
    rename Fr _ _ _ _ => hF
    rename IntsAre _ _ => hia
    have ens : (List.replicate d6.toNat [d5]).flatten = List.replicate d6.toNat d5 := List.flatten_replicate_singleton
    rw [ens] at hia
    refine KBa.make_K hF hN rfl (News.isList hN (by k_mem)) hia ?_ ?_ ?_
    · intro k hk
      have := List.eq_of_mem_replicate hk
      omega
    · rw [List.length_replicate]; omega
    intro h7 t7 k7 F7 N7 hin
    have hob : KBw.bInts (byteArr (List.replicate d6.toNat d5)) = List.replicate d6.toNat d5 := KBa.ints_make hin
    generalize byteArr (List.replicate d6.toNat d5) = ob at hob ⊢
    clear hF hN hia
    (k_steps; (repeat' (unfold Hold; (first | (k_here; k_dflt (refine' Ct.use' mkHdrF_ct ?k1 ?k2 ?k3 ?k4 ?k5 ?kK ?kd ?ku ?_; walk_at "ct1"; (case k4 => k_asm); k_whole; (intro zh9 ztk9 zF9 zP7 zbk7 zr9 znw9); (rintro ⟨zx9, zdx9, zkh9, zn9, ze8, ze9, zl1, zl2⟩); (try subst ze8); (try subst ze9); (refine zbk7 _ _ ?_); (clear zbk7 zP7); (intro zN9); (try k_lt zl1); (try k_lt2 zl2); (try dsimp only); (try k_sweep); (try k_fold))) | (k_here; k_dflt (refine' Ct.use' (isfrag_ct ?c1) ?k1 ?k2 ?k3 ?k4 ?k5 ?kK ?kd ?ku ?_; walk_at "ct1"; (case k4 => k_asm); (case c1 => (refine' ⟨_, _, _, ?hm1, ?hm2⟩; (case hm1 => k_mem); (case hm2 => k_mem))); k_whole; (intro zh9 ztk9 zF9 zP7 zbk7 zr9 znw9); (rintro ⟨ze9, ze8⟩); (try subst ze8); (try subst ze9); (refine zbk7 _ _ ?_); (clear zbk7 zP7); (intro zN9); (try k_lt zl1); (try k_lt2 zl2); (try dsimp only); (try k_sweep); (try k_fold)))); k_steps)))
    unfold Hold
    (k_here; k_dflt (refine' Ct.use' (take_u ?U x3 x4 x5 ?c4 ?c5) ?k1 ?k2 ?k3 ?k4 ?k5 ?kK ?kd ?ku ?_; walk_at "ct1"; (case k4 => k_asm); (case U => k_updF); (case c4 => decide); (case c5 => decide); k_whole; (intro h9 tk9 F9 P7 bk7 r9 nw9); (rintro ⟨d7, t7b, a7, b7, ta7, tb7, e8, y1, y2, y3, y4, y5, e9⟩); (try subst e8); (try subst e9); (refine bk7 _ _ ?_); (clear bk7 P7); (intro N9); (try k_lt l1); (try k_lt2 l2); (try dsimp only); (try k_sweep); (try k_fold)))
    (k_steps; (repeat' (unfold Hold; (first | (k_here; k_dflt (refine' Ct.use' mkHdrF_ct ?k1 ?k2 ?k3 ?k4 ?k5 ?kK ?kd ?ku ?_; walk_at "ct1"; (case k4 => k_asm); k_whole; (intro zh9 ztk9 zF9 zP7 zbk7 zr9 znw9); (rintro ⟨zx9, zdx9, zkh9, zn9, ze8, ze9, zl1, zl2⟩); (try subst ze8); (try subst ze9); (refine zbk7 _ _ ?_); (clear zbk7 zP7); (intro zN9); (try k_lt zl1); (try k_lt2 zl2); (try dsimp only); (try k_sweep); (try k_fold))) | (k_here; k_dflt (refine' Ct.use' (isfrag_ct ?c1) ?k1 ?k2 ?k3 ?k4 ?k5 ?kK ?kd ?ku ?_; walk_at "ct1"; (case k4 => k_asm); (case c1 => (refine' ⟨_, _, _, ?hm1, ?hm2⟩; (case hm1 => k_mem); (case hm2 => k_mem))); k_whole; (intro zh9 ztk9 zF9 zP7 zbk7 zr9 znw9); (rintro ⟨ze9, ze8⟩); (try subst ze8); (try subst ze9); (refine zbk7 _ _ ?_); (clear zbk7 zP7); (intro zN9); (try k_lt zl1); (try k_lt2 zl2); (try dsimp only); (try k_sweep); (try k_fold)))); k_steps)))
    unfold Hold
    rename News _ _ _ _ => hN
    have hNZ := cb_drop (news := [(src, listOf #[.int a7 ta7, .int b7 tb7] ns), (x, instObj 155 dx), (dx, _)] ++ own) hN (fun p hp => (List.mem_append.mp hp).elim (List.forall_mem_cons.mpr ⟨by k_mem, List.forall_mem_cons.mpr ⟨by k_mem, List.forall_mem_cons.mpr ⟨by k_mem, fun _ h => nomatch h⟩⟩⟩ p) (fun h => by (repeat refine List.mem_cons_of_mem _ ?_); exact h))
    have hrl : (List.replicate d6.toNat d5).length = d6.toNat := List.length_replicate
    (k_here; k_dflt (refine' Ct.use' (cutr_ct (H := ⟨1 + d1, 1 + d2, d4, more, off⟩) (N := d6.toNat) (d := d5) (rest := own) y3 y4 y5 hob hrl rfl ?c0 ?m1 ?m2 ?z1 ?z2 ?z3 ?z4 ?z5 ?z6 ?z7 ?z8 ?z9 ?sx ?sd ?xd ?ho) ?k1 ?k2 ?k3 ?k4 ?k5 ?kK ?kd ?ku ?_; walk_at "ct1"; (case k4 => exact hNZ); (case c0 => omega); (case m1 => omega); (case m2 => omega); (case z1 => (dsimp only; omega)); (case z2 => (dsimp only; omega)); (case z3 => (dsimp only; omega)); (case z4 => (dsimp only; omega)); (case z5 => (dsimp only; omega)); (case z6 => (dsimp only; omega)); (case z7 => (dsimp only; omega)); (case z8 => (dsimp only; omega)); (case z9 => (dsimp only; omega)); (case sx => exact Nat.ne_of_lt (Nat.lt_trans hl1.2.1 hl2)); (case sd => exact Nat.ne_of_lt hl1.2.1); (case xd => exact Nat.ne_of_gt hl2); (case ho => exact fun p hp => List.forall_mem_cons.mpr ⟨hown p hp, List.forall_mem_cons.mpr ⟨Nat.ne_of_lt (Nat.lt_trans (allLt_mem hl1.2.2 p hp) hl2), List.forall_mem_cons.mpr ⟨Nat.ne_of_lt (allLt_mem hl1.2.2 p hp), fun _ h => nomatch h⟩⟩⟩); k_whole; (intro h9 tk9 F9 P7 bk7 r9 nw9); (rintro ⟨n0, e9, ⟨e8, a', b', ta', tb', new, rfl, q1', q2', q3'⟩, hsep9⟩); (try subst e8); (try subst e9); (refine bk7 _ _ ?_); (clear bk7 P7); (intro N9); (try k_lt l1); (try k_lt2 l2); (try dsimp only); (try k_sweep); (try k_fold)))
    try clear hNZ
    simp only [List.cons_append] at N9
    (k_steps; (repeat' (unfold Hold; (first | (k_here; k_dflt (refine' Ct.use' mkHdrF_ct ?k1 ?k2 ?k3 ?k4 ?k5 ?kK ?kd ?ku ?_; walk_at "ct1"; (case k4 => k_asm); k_whole; (intro zh9 ztk9 zF9 zP7 zbk7 zr9 znw9); (rintro ⟨zx9, zdx9, zkh9, zn9, ze8, ze9, zl1, zl2⟩); (try subst ze8); (try subst ze9); (refine zbk7 _ _ ?_); (clear zbk7 zP7); (intro zN9); (try k_lt zl1); (try k_lt2 zl2); (try dsimp only); (try k_sweep); (try k_fold))) | (k_here; k_dflt (refine' Ct.use' (isfrag_ct ?c1) ?k1 ?k2 ?k3 ?k4 ?k5 ?kK ?kd ?ku ?_; walk_at "ct1"; (case k4 => k_asm); (case c1 => (refine' ⟨_, _, _, ?hm1, ?hm2⟩; (case hm1 => k_mem); (case hm2 => k_mem))); k_whole; (intro zh9 ztk9 zF9 zP7 zbk7 zr9 znw9); (rintro ⟨ze9, ze8⟩); (try subst ze8); (try subst ze9); (refine zbk7 _ _ ?_); (clear zbk7 zP7); (intro zN9); (try k_lt zl1); (try k_lt2 zl2); (try dsimp only); (try k_sweep); (try k_fold)))); k_steps)))
    rename News _ _ _ _ => hN8
    rename Fr _ _ _ _ => hF8
    exact StJ.close (a', b', ta', tb') hF8 hN8 (List.forall_mem_cons.mpr ⟨.head _, fun _ h => nomatch h⟩) (fun p hp => .tail _ (List.mem_append_right _ hp)) hoff (by kst_all) (by kst_same) ⟨q1', q2', q3'⟩
  case done =>
    clear hN hF hRg
    intro c u h tk hP wF wN
    refine hideG ?_
    intro PZ bkZ
    obtain ⟨ca, cb, cta, ctb⟩ := c
    refine bkZ ?_
    clear bkZ PZ
    dsimp only [kstB] at wF wN hP
    try k_fold
    (k_steps; (repeat' (unfold Hold; (first | (k_here; k_dflt (refine' Ct.use' mkHdrF_ct ?k1 ?k2 ?k3 ?k4 ?k5 ?kK ?kd ?ku ?_; walk_at "ct1"; (case k4 => k_asm); k_whole; (intro zh9 ztk9 zF9 zP7 zbk7 zr9 znw9); (rintro ⟨zx9, zdx9, zkh9, zn9, ze8, ze9, zl1, zl2⟩); (try subst ze8); (try subst ze9); (refine zbk7 _ _ ?_); (clear zbk7 zP7); (intro zN9); (try k_lt zl1); (try k_lt2 zl2); (try dsimp only); (try k_sweep); (try k_fold))) | (k_here; k_dflt (refine' Ct.use' (isfrag_ct ?c1) ?k1 ?k2 ?k3 ?k4 ?k5 ?kK ?kd ?ku ?_; walk_at "ct1"; (case k4 => k_asm); (case c1 => (refine' ⟨_, _, _, ?hm1, ?hm2⟩; (case hm1 => k_mem); (case hm2 => k_mem))); k_whole; (intro zh9 ztk9 zF9 zP7 zbk7 zr9 znw9); (rintro ⟨ze9, ze8⟩); (try subst ze8); (try subst ze9); (refine zbk7 _ _ ?_); (clear zbk7 zP7); (intro zN9); (try k_lt zl1); (try k_lt2 zl2); (try dsimp only); (try k_sweep); (try k_fold)))); k_steps)))
    all_goals (refine bkz _ _ ?_; (k_steps; (repeat' (unfold Hold; (first | (k_here; k_dflt (refine' Ct.use' mkHdrF_ct ?k1 ?k2 ?k3 ?k4 ?k5 ?kK ?kd ?ku ?_; walk_at "ct1"; (case k4 => k_asm); k_whole; (intro zh9 ztk9 zF9 zP7 zbk7 zr9 znw9); (rintro ⟨zx9, zdx9, zkh9, zn9, ze8, ze9, zl1, zl2⟩); (try subst ze8); (try subst ze9); (refine zbk7 _ _ ?_); (clear zbk7 zP7); (intro zN9); (try k_lt zl1); (try k_lt2 zl2); (try dsimp only); (try k_sweep); (try k_fold))) | (k_here; k_dflt (refine' Ct.use' (isfrag_ct ?c1) ?k1 ?k2 ?k3 ?k4 ?k5 ?kK ?kd ?ku ?_; walk_at "ct1"; (case k4 => k_asm); (case c1 => (refine' ⟨_, _, _, ?hm1, ?hm2⟩; (case hm1 => k_mem); (case hm2 => k_mem))); k_whole; (intro zh9 ztk9 zF9 zP7 zbk7 zr9 znw9); (rintro ⟨ze9, ze8⟩); (try subst ze8); (try subst ze9); (refine zbk7 _ _ ?_); (clear zbk7 zP7); (intro zN9); (try k_lt zl1); (try k_lt2 zl2); (try dsimp only); (try k_sweep); (try k_fold)))); k_steps)))))
end
end
end Mine
set_option maxHeartbeats 8000000 in
theorem PySem.Challenge.cw_xw0337_01_holds : PySem.Challenge.rw_xw0337_01.Holds := by
  exact Mine.law_all
