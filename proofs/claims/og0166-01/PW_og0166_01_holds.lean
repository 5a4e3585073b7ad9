import PyProof.Rows.All
import Wide.All
import OpenK.AllK
import Wide.FinOn
import PySem.Challenge.RW_og0166_01
set_option Elab.async false
set_option maxRecDepth 100000

/-! OHead -/
section
open PySem PySem.W PyProof.Rows
set_option maxRecDepth 100000
set_option maxHeartbeats 8000000
namespace Mine
/-! the head: the text's top in one run of the kernel, over a heap that is a tree -/
abbrev P0 : Program := PySem.Challenge.rw_og0166_01.row.toRowW.prog
/-- the statements of the text but `__name__ = ..` -/
def vw : Program := PySem.W.view P0 [0, 2, 4, 5, 7, 8, 9, 10, 11, 12, 13, 14, 15, 16, 17, 19, 20, 21, 22, 24, 25, 26]
abbrev loose0 : List Str := [Str.ofString "PaperError", Str.ofString "told_objects"]
theorem boot0 : ∀ w : World, Option.map (fun s => (s.heap, s.gens, s.drawn, s.toks)) (fencedOpening treeTable P0 w 6344) = some (boot_heap w.params, #[], boot_drawn, boot_toks) :=
  boot_open (by kernel_rfl) (by kernel_rfl) (by intro s; kernel_rfl)
noncomputable def topRunQ (tb : String → Option Builtin) (p : Program) (w : World) (n₀ : Nat) (ann : Option Value) : Nat → SharedT → Thread → Option SharedT
  | 0, _, _ => none
  | n + 1, s, t => match through t with
    | true => some s
    | false => match PySem.W.Fast.tw6613529449190102663 n₀ ann t with
      | false => none
      | true => match PySem.W.Fast.tw10156331382660048174 (PySem.W.Fast.tw11892475500146522536 tb) p w s t with
        | some (s', t') => topRunQ tb p w n₀ ann n s' t'
        | none => none
theorem topRun_ofQ {tb : String → Option Builtin} {p : Program} {w : World} {n₀ : Nat} {ann : Option Value} : ∀ {n : Nat} {s s' : SharedT} {t : Thread}, topRunQ tb p w n₀ ann n s t = some s' → topRun tb p w n₀ ann n s.abs t = some s'.abs
  | 0, _, _, _, h => by cases h
  | n + 1, s, s', t, h => by
    unfold topRunQ at h
    rw [← PySem.W.Fast.te6613529449190102663, ← PySem.W.Fast.te10156331382660048174, ← PySem.W.Fast.te11892475500146522536] at h
    unfold topRun
    cases he : through t with
    | true => rw [he] at h; cases h; rfl
    | false =>
      rw [he] at h
      cases hk : stepOk n₀ ann t with
      | false => rw [hk] at h; cases h
      | true =>
        rw [hk] at h
        cases hs : stepT (denote tb) p w s t with
        | none => rw [hs] at h; cases h
        | some r => obtain ⟨s₂, t₂⟩ := r; rw [hs] at h; rw [stepT_spec hs]; exact topRun_ofQ h
noncomputable def tree0 (P : Params) : BT := ((((((((((BT.nil.ins 0 (boot_o_0 P)).ins 1 (boot_o_1 P)).ins 2 (boot_o_2 P)).ins 3 (boot_o_3 P)).ins 4 (boot_o_4 P)).ins 5 (boot_o_5 P)).ins 6 (boot_o_6 P)).ins 7 (boot_o_7 P)).ins 8 (boot_o_8 P)).ins 9 (boot_o_9 P)).ins 10 (boot_o_10 P)
theorem tree0_abs (P : Params) : absHeap (tree0 P) 11 (boot_heap P).life = boot_heap P := by kernel_rfl
/-- the top's run -/
noncomputable def run0 (w : World) (os : OsState) : Option SharedT := topRunQ PySem.W.Fast.tw14364793385576792824 P0 w 11 (some (.ref 6)) 6344 ⟨tree0 w.params, 11, (boot_heap w.params).life, #[], boot_drawn, boot_toks, os⟩ (topStub P0)
noncomputable def good0 (w : World) (s : Shared) : Bool := staticsOk (importedModules P0.main.body) (boot_heap w.params) s.heap && namesBound P0 s.heap && gensDone s && laidKept (boot_heap w.params) s.heap
theorem look_good : ∀ (w : World) (os : OsState), (run0 w os).map (fun s => good0 w s.abs) = some true := by
  intro w os; kernel_rfl
theorem look_seen : ∀ (w : World) (os : OsState), (run0 w os).map (fun s => PySem.W.Fast.tw4187177175401517315 vw loose0 (importedModules P0.main.body) (fun s => xlAt vw [] s && recOk PySem.Challenge.rw_og0166_01.row.toRowW.records s) true s.abs) = some (openGood vw loose0) := by
  intro w os; kernel_rfl
theorem boot_is : ∀ w : World, ((boot_heap w.params).isNs mainGlobals && (#[] : Array GenState).size == 0) = true ∧ (boot_heap w.params).objs.size = 11 ∧ (boot_heap w.params).nsMap mainGlobals "__annotations__" = some (.ref 6) := fun w => ⟨by kernel_rfl, by kernel_rfl, by kernel_rfl⟩
theorem abs_mk {t : BT} {n : Nat} {life : Life} {gens : Array GenState} {drawn : Drawn} {toks : Nat} {os : OsState} : SharedT.abs ⟨t, n, life, gens, drawn, toks, os⟩ = ⟨absHeap t n life, gens, drawn, toks, os⟩ := rfl
theorem run_spec {w : World} {os : OsState} {r : SharedT} (h : run0 w os = some r) : topRun treeTable P0 w 11 (some (.ref 6)) 6344 ⟨boot_heap w.params, #[], boot_drawn, boot_toks, os⟩ (topStub P0) = some r.abs := by
  unfold run0 at h
  have := topRun_ofQ h
  rw [abs_mk, tree0_abs, ← PySem.W.Fast.te14364793385576792824] at this
  exact this
theorem topFrom_of {tb : String → Option Builtin} {p : Program} {w : World} {N n : Nat} {a : Option Value} {s₀ s₁ : Shared} (h1 : (s₀.heap.isNs mainGlobals && s₀.gens.size == 0) = true) (h2 : s₀.heap.objs.size = n) (h3 : s₀.heap.nsMap mainGlobals "__annotations__" = a)
    (h4 : topRun tb p w n a N s₀ (topStub p) = some s₁) (h5 : (staticsOk (importedModules p.main.body) s₀.heap s₁.heap && namesBound p s₁.heap && gensDone s₁ && laidKept s₀.heap s₁.heap) = true) : topFrom tb p w N s₀ = some s₁ := by
  unfold topFrom
  rw [h1, h2, h3, h4]
  show (match _ with | true => some s₁ | false => none) = _
  rw [h5]
theorem openEnds_of {tb : String → Option Builtin} {p : Program} {w : World} {N : Nat} {s₀ s₁ : Shared} (h1 : fencedOpening tb p w N = some s₀) (h2 : topFrom tb p w N s₀ = some s₁) : openEnds tb p w N = some s₁ := by
  unfold openEnds
  rw [h1]
  exact h2
theorem left_all {α : Type} {Yf : Shared → α} {Ya : World → α} (h : ∀ (w : World) (os : OsState), (run0 w os).map (fun s => Yf s.abs) = some (Ya w)) :
    LeftO P0 vw loose0 (fun s => xlAt vw [] s && recOk PySem.Challenge.rw_og0166_01.row.toRowW.records s) Yf Ya 6344 := by
  intro w
  obtain ⟨s, hs, e⟩ := Option.map_eq_some_iff.mp (boot0 w)
  obtain ⟨hp, g, d, t, os⟩ := s
  simp only [Prod.mk.injEq] at e
  obtain ⟨rfl, rfl, rfl, rfl⟩ := e
  obtain ⟨r, hr, h1⟩ := Option.map_eq_some_iff.mp (look_good w os)
  obtain ⟨r2, hr2, h2⟩ := Option.map_eq_some_iff.mp (look_seen w os)
  obtain ⟨r3, hr3, h3⟩ := Option.map_eq_some_iff.mp (h w os)
  rw [hr] at hr2 hr3
  cases hr2
  cases hr3
  obtain ⟨b1, b2, b3⟩ := boot_is w
  rw [← PySem.W.Fast.te4187177175401517315] at h2
  exact Option.map_eq_some_iff.mpr ⟨r.abs, openEnds_of hs (topFrom_of b1 b2 b3 (run_spec hr) h1), Prod.ext h2 h3⟩
/-- an object of the tree -/
noncomputable def tget (s : SharedT) (a : Addr) : Option Obj := match Nat.blt a s.n with
  | true => (match s.tree.get a with
    | some o => alive o
    | none => none)
  | false => none
theorem tget_abs {s : SharedT} {a : Addr} {o : Obj} (h : tget s a = some o) : s.abs.heap.get? a = some o := by
  unfold tget at h
  cases e : Nat.blt a s.n with
  | false => rw [e] at h; cases h
  | true =>
    rw [e] at h
    cases g : s.tree.get a with
    | none => rw [g] at h; cases h
    | some o' =>
      rw [g] at h
      exact (abs_get (Nat.le_of_ble_eq_true e) g).trans h
theorem tgets_abs {s : SharedT} : ∀ {as : List Addr} {bs : List (Addr × Obj)}, as.map (tget s) = bs.map (fun p => some p.2) → as.map s.abs.heap.get? = bs.map (fun p => some p.2)
  | [], [], _ => rfl
  | [], _ :: _, h => by cases h
  | _ :: _, [], h => by cases h
  | a :: as, b :: bs, h => by
    rw [List.map_cons, List.map_cons] at h ⊢
    injection h with h1 h2
    rw [tget_abs h1, tgets_abs h2]
theorem left_hook {K : Params → Frag} {as : List Addr} {e : ∀ P, as = (K P).map (·.1)} (h : ∀ (w : World) (os : OsState), (run0 w os).map (fun s => as.map (tget s)) = some ((K w.params).map fun p => some p.2)) :
    LeftO P0 vw loose0 (fun s => xlAt vw [] s && recOk PySem.Challenge.rw_og0166_01.row.toRowW.records s) (Hook.obs (kHook K as e)) (Hook.val (kHook K as e)) 6344 := left_all fun w os => by
  obtain ⟨r, hr, h1⟩ := Option.map_eq_some_iff.mp (h w os)
  exact Option.map_eq_some_iff.mpr ⟨r, hr, tgets_abs h1⟩
theorem said0 : PySem.Challenge.rw_og0166_01.wellSaid = true := by kernel_rfl
local macro_rules | `(tactic| o_law) => `(tactic| refine holds_law said0 fun said => ?_)
local macro_rules | `(tactic| o_head $H) => `(tactic| (refine holds_open (q := vw) (loose := loose0) (Xt := fun s => xlAt vw [] s && recOk PySem.Challenge.rw_og0166_01.row.toRowW.records s) (XP := XL vw []) (Yf := Hook.obs $H) (Ya := Hook.val $H) (YP := Hook.says $H) (N := 6344) ?hl (Hook.of $H) (Hook.keeps $H) (fun s e => xl_of s (Bool.and_eq_true_iff.mp e).1) XL.keeps (by rfl) (by rfl) (by rfl) (fun s e => recFacts_of (Bool.and_eq_true_iff.mp e).2) (by rfl) (by first | assumption | decide +kernel) (by decide +kernel) ⟨rfl, rfl, rfl, rfl, rfl, by decide +kernel⟩ ?hw ?hc; (case hl => exact left_hook fun w os => by kernel_rfl)))
open_top hd for PySem.Challenge.rw_og0166_01
end Mine
end

/-! Draw -/
section
open PySem PySem.W PyProof.Rows
set_option maxRecDepth 100000
set_option maxHeartbeats 8000000
namespace Mine
local macro_rules | `(tactic| k_all) => `(tactic| with_reducible assumption)
local macro_rules | `(tactic| k_ne) => `(tactic| with_reducible assumption)
theorem fill_frag : PySem.Challenge.rw_og0166_01 = PySem.Challenge.rw_og0166_01 ∧ hd.heap_1 = hd.heap_1 := by
  w_top off
  k_fill
  exact ⟨rfl, rfl⟩
abbrev PG : Program := Challenge.rw_og0166_01.row.prog
theorem draw_spec {w : World} {loose : List Str} {mean : ExcName → Option Value} {mg mb : Str → Option Value}
    {dp un : Nat} {gd : Option (List Code)} {cn : Str} {cs : Scope} {a : Addr} {ccd : Value} {cl : List (Str × Addr)} {outer : List Env} {A₀ : Around} {base h₀ : Heap} {L : Addr} {m : Str → Option Value} {s : Shared} {Q E : Value → Shared → Prop}
    {p c : Addr} {spot b many : Int} {t1 t2 t3 : Tok} {n n' : Nat} {vs : List Value} {ns : List Int} {rest : List (Addr × Obj)}
    (B : Below A₀ base outer h₀) (F : Fr h₀ L s.heap m) (X : (hd.heap_1 w.params).In h₀)
    (N : News h₀ L s.heap ((p, listOf [.ref c, .int spot t1, .int b t2].toArray n) :: (c, listOf vs.toArray n') :: rest))
    (T : Top vw loose mean mg mb h₀) (hk : cs.kind = .function)
    (hne : ∀ q ∈ rest, q.1 ≠ p) (hcp : c ≠ p) (hi : IntsAre vs ns) (hlen : ns.length ≤ 60) (hs0 : 0 ≤ spot) (hs1 : spot ≤ 100) (hb0 : 0 ≤ b) (hb1 : b ≤ 997) (hm0 : 0 < many) (hm1 : many ≤ 8)
    (hdp : dp + 1 < recursionLimit) (hun : un + 8 < cLine)
    (ret : ∀ r t t' n'' h' tk', 0 ≤ r → r < many → Fr h₀ L h' m → News h₀ L h' ((p, listOf [.ref c, .int (spot + 1) t', .int b t2].toArray n'') :: (c, listOf vs.toArray n') :: rest) → Q (.int r t) { s with heap := h', toks := tk' }) :
    wpAny (model PG w) (ktrTop dp un gd cn cs L a ccd cl outer) (call (.ref 409) [.ref p, .int many t3]) Q E s := by
  refine wpAny_call ?_
  k_dflt cell_enter
  k_steps
  all_goals (refine ret _ _ _ _ _ _ ?_ ?_ (by assumption) (by assumption))
  all_goals first | exact Int.fmod_nonneg_of_pos _ hm0 | exact Int.fmod_lt_of_pos _ hm0

theorem updF_mem {d : Addr} {o : Obj} {l : List (Addr × Obj)} {g : Obj → List (Addr × Obj)} (U : UpdF d o l g) : ∃ rest : List (Addr × Obj), (∀ q, q ∈ l ↔ q = (d, o) ∨ q ∈ rest) ∧ (∀ o' q, q ∈ g o' ↔ q = (d, o') ∨ q ∈ rest) ∧ ∀ q : Addr × Obj, q ∈ rest → q.1 ≠ d := by
  obtain ⟨pre, post, rfl, hg, h1, h2⟩ := U.split
  refine ⟨pre ++ post, fun q => ?_, fun o' q => ?_, fun q hq => (List.mem_append.mp hq).elim (h1 q) (h2 q)⟩
  · simp only [List.mem_append, List.mem_cons]
    constructor
    · rintro (h | h | h)
      · exact .inr (.inl h)
      · exact .inl h
      · exact .inr (.inr h)
    · rintro (h | h | h)
      · exact .inr (.inl h)
      · exact .inl h
      · exact .inr (.inr h)
  · rw [hg]
    simp only [List.mem_append, List.mem_cons]
    constructor
    · rintro (h | h | h)
      · exact .inr (.inl h)
      · exact .inl h
      · exact .inr (.inr h)
    · rintro (h | h | h)
      · exact .inr (.inl h)
      · exact .inl h
      · exact .inr (.inr h)

theorem draw_use {w : World} {loose : List Str} {mean : ExcName → Option Value} {mg mb : Str → Option Value}
    {dp un : Nat} {gd : Option (List Code)} {cn : Str} {cs : Scope} {a : Addr} {ccd : Value} {cl : List (Str × Addr)} {outer : List Env} {A₀ : Around} {base h₀ : Heap} {L : Addr} {m : Str → Option Value} {s : Shared} {Q E : Value → Shared → Prop}
    {p c : Addr} {spot b many : Int} {t1 t2 t3 : Tok} {n n' : Nat} {vs : List Value} {ns : List Int} {news : List (Addr × Obj)} {g : Obj → List (Addr × Obj)}
    (B : Below A₀ base outer h₀) (F : Fr h₀ L s.heap m) (X : (hd.heap_1 w.params).In h₀)
    (N : News h₀ L s.heap news) (T : Top vw loose mean mg mb h₀) (hk : cs.kind = .function)
    (U : UpdF p (listOf [.ref c, .int spot t1, .int b t2].toArray n) news g) (hc : (c, listOf vs.toArray n') ∈ news)
    (hi : IntsAre vs ns) (hlen : ns.length ≤ 60) (hs0 : 0 ≤ spot) (hs1 : spot ≤ 100) (hb0 : 0 ≤ b) (hb1 : b ≤ 997) (hm0 : 0 < many) (hm1 : many ≤ 8)
    (hcp : c ≠ p)
    (hdp : dp + 1 < recursionLimit) (hun : un + 8 < cLine)
    (ret : ∀ r t t' n'' h' tk', 0 ≤ r → r < many → Fr h₀ L h' m → News h₀ L h' (g (listOf [.ref c, .int (spot + 1) t', .int b t2].toArray n'')) → Q (.int r t) { s with heap := h', toks := tk' }) :
    wpAny (model PG w) (ktrTop dp un gd cn cs L a ccd cl outer) (call (.ref 409) [.ref p, .int many t3]) Q E s := by
  obtain ⟨rest, e1, e2, e3⟩ := updF_mem U
  have N0 : News h₀ L s.heap ((p, listOf [.ref c, .int spot t1, .int b t2].toArray n) :: (c, listOf vs.toArray n') :: rest) := by
    intro q hq
    rcases List.mem_cons.mp hq with h | hq
    · exact N q ((e1 q).mpr (.inl h))
    · rcases List.mem_cons.mp hq with rfl | hq
      · exact N _ hc
      · exact N q ((e1 q).mpr (.inr hq))
  refine draw_spec B F X N0 T hk e3 hcp hi hlen hs0 hs1 hb0 hb1 hm0 hm1 hdp hun fun r t t' n'' h' tk' h0 h1 F' N' => ret r t t' n'' h' tk' h0 h1 F' fun q hq => ?_
  rcases (e2 _ q).mp hq with h | h
  · exact N' q (by rw [h]; exact .head _)
  · exact N' q (.tail _ (.tail _ h))
end Mine
end

/-! Defs -/
section
open PySem PySem.W PyProof.Rows
set_option maxRecDepth 100000
set_option maxHeartbeats 8000000
namespace Mine
abbrev Led := List (Addr × Obj)

inductive VK where
  | cat (k : Int)
  | ref9
  | int3
  | pages
  | strm
  | empty
  | nam
  deriving DecidableEq

def KOk : VK → Prop
  | .cat k => 0 ≤ k ∧ k < 5
  | _ => True

/-- a Name of the text x lies at a -/
structure NmIn (w : World) (l : Led) (a : Addr) (x : Str) : Prop where
  ex : ∃ (d : Addr) (t t' : Tok), (a, instObj 171 d) ∈ l ∧ (d, dictOf [⟨PyData.keyHash w.params (Str.ofString "text"), .str (Str.ofString "text") t, .str x t'⟩] 1) ∈ l
structure RefIn (w : World) (l : Led) (a : Addr) (i g : Int) : Prop where
  ex : ∃ (d : Addr) (t t' t'' t3 : Tok), (a, instObj 242 d) ∈ l ∧ (d, dictOf [⟨PyData.keyHash w.params (Str.ofString "number"), .str (Str.ofString "number") t, .int i t'⟩, ⟨PyData.keyHash w.params (Str.ofString "generation"), .str (Str.ofString "generation") t'', .int g t3⟩] 2) ∈ l
structure DcIn (w : World) (l : Led) (a : Addr) (kvs : List (Str × Value)) : Prop where
  ex : ∃ o : Obj, (a, o) ∈ l ∧ Obj.IsDictOf (PySem.strKind PG w) o kvs ∧ (a == sysModules) = false
structure StIn (w : World) (l : Led) (a hd : Addr) : Prop where
  ex : ∃ (d : Addr) (t t' t'' : Tok), (a, instObj 214 d) ∈ l ∧ (d, dictOf [⟨PyData.keyHash w.params (Str.ofString "head"), .str (Str.ofString "head") t, .ref hd⟩, ⟨PyData.keyHash w.params (Str.ofString "octets"), .str (Str.ofString "octets") t', .bytes #[] t''⟩] 2) ∈ l

inductive VIn (w : World) (l : Led) : Value → VK → Prop
  | cat {d x : Addr} {k : Int} {t : Tok} : DcIn w l d [(Str.ofString "Type", .ref x), (Str.ofString "K", .int k t)] → NmIn w l x (Str.ofString "Catalog") → VIn w l (.ref d) (.cat k)
  | ref9 {d x : Addr} : DcIn w l d [(Str.ofString "Type", .ref x)] → RefIn w l x 9 0 → VIn w l (.ref d) .ref9
  | int3 {t : Tok} : VIn w l (.int 3 t) .int3
  | pages {d x : Addr} : DcIn w l d [(Str.ofString "Type", .ref x)] → NmIn w l x (Str.ofString "Pages") → VIn w l (.ref d) .pages
  | strm {a d x : Addr} : StIn w l a d → DcIn w l d [(Str.ofString "Type", .ref x)] → NmIn w l x (Str.ofString "Catalog") → VIn w l (.ref a) .strm
  | empty {d : Addr} : DcIn w l d [] → VIn w l (.ref d) .empty
  | nam {x : Addr} : NmIn w l x (Str.ofString "Catalog") → VIn w l (.ref x) .nam

section
variable {w : World} {l l' : Led} (hs : ∀ q ∈ l, q ∈ l')
include hs
theorem NmIn.mono {a : Addr} {x : Str} (h : NmIn w l a x) : NmIn w l' a x := let ⟨d, t, t', h1, h2⟩ := h.ex; ⟨⟨d, t, t', hs _ h1, hs _ h2⟩⟩
theorem RefIn.mono {a : Addr} {i g : Int} (h : RefIn w l a i g) : RefIn w l' a i g := let ⟨d, t, t', t'', t3, h1, h2⟩ := h.ex; ⟨⟨d, t, t', t'', t3, hs _ h1, hs _ h2⟩⟩
theorem DcIn.mono {a : Addr} {kvs : List (Str × Value)} (h : DcIn w l a kvs) : DcIn w l' a kvs := let ⟨o, h1, h2, h3⟩ := h.ex; ⟨⟨o, hs _ h1, h2, h3⟩⟩
theorem StIn.mono {a d : Addr} (h : StIn w l a d) : StIn w l' a d := let ⟨e, t, t', t'', h1, h2⟩ := h.ex; ⟨⟨e, t, t', t'', hs _ h1, hs _ h2⟩⟩
theorem VIn.mono {v : Value} {k : VK} (h : VIn w l v k) : VIn w l' v k := by
  cases h with
  | cat a b => exact .cat (a.mono hs) (b.mono hs)
  | ref9 a b => exact .ref9 (a.mono hs) (b.mono hs)
  | int3 => exact .int3
  | pages a b => exact .pages (a.mono hs) (b.mono hs)
  | strm a b c => exact .strm (a.mono hs) (b.mono hs) (c.mono hs)
  | empty a => exact .empty (a.mono hs)
  | nam a => exact .nam (a.mono hs)
end

/-- every object of new lies above every one of base -/
def Above (new base : Led) : Prop := ∀ q ∈ new, AllLt q.1 base
theorem allLt_mono {a b : Addr} (h : a < b) : ∀ {l : Led}, AllLt a l → AllLt b l
  | [], _ => trivial
  | _ :: _, x => ⟨Nat.lt_trans x.1 h, allLt_mono h x.2⟩
theorem allLt_mem {a : Addr} : ∀ {l : Led}, AllLt a l → ∀ q ∈ l, q.1 < a
  | [], _, _, h => nomatch h
  | _ :: _, x, q, h => by
    rcases List.mem_cons.mp h with rfl | h
    · exact x.1
    · exact allLt_mem x.2 q h
theorem Above.lt {new base : Led} (h : Above new base) : ∀ q ∈ new, ∀ r ∈ base, r.1 < q.1 := fun q hq r hr => allLt_mem (h q hq) r hr

theorem item_at {prog : Program} {w : World} {A : Around} {E : Value → Shared → Prop} {s : Shared} {h₀ : Heap} {L l : Addr} {news : Led} {value slice : PySem.Expr} {vs : List Value} {n : Nat} {k : Int} {u : Tok} {Q : Value → Shared → Prop}
    (N : News h₀ L s.heap news) (hm : (l, listOf vs.toArray n) ∈ news) (h0 : 0 ≤ k) (h1 : k < vs.length) (hb : vs.length < 2 ^ 62)
    (h : ∀ (j : Nat) (v : Value), vs[j]? = some v → k = (j : Int) → Q v s)
    (hs : subscripted slice false (.ref l) (.int k u) = operate [.ref l, .int k u] (getItem (.ref l) (.int k u)) := by with_unfolding_all rfl) :
    wpAny (model prog w) A (subscriptTail value slice (.ref l) (.int k u)) Q E s := by
  have hL : s.heap.IsList l vs.toArray := ⟨_, (N _ hm).1, rfl, n, rfl⟩
  have hlt : k.toNat < vs.length := by omega
  refine tail_any hL.typeIs slot_list_getitem.lookup (wpAny_getItem_list (x := vs[k.toNat]) hL h0 (by omega) (by simp [hlt]) (h k.toNat _ (by simp [hlt]) (by omega))) hs
end Mine
end

/-! Val -/
section
open PySem PySem.W PyProof.Rows
set_option maxRecDepth 100000
set_option maxHeartbeats 8000000
namespace Mine
theorem fill_frag2 : PySem.Challenge.rw_og0166_01 = PySem.Challenge.rw_og0166_01 ∧ hd.heap_1 = hd.heap_1 := by
  w_top off
  k_fill
  exact ⟨rfl, rfl⟩
local macro_rules | `(tactic| k_all) => `(tactic| with_reducible assumption)
local macro_rules | `(tactic| k_room) => `(tactic| ktr_room)
local macro_rules | `(tactic| k_units) => `(tactic| ktr_units)
local macro_rules | `(tactic| k_ne) => `(tactic| with_reducible assumption)
local macro_rules | `(tactic| walk_at "call ref") => `(tactic| (k_here; (with_reducible show wpAny _ _ (call (Value.ref 409) [Value.ref _, Value.int _ _]) _ _ _); k_dflt (refine' draw_use ?B ?F ?X ?N ?T ?K ?U ?c ?i ?len ?s0 ?s1 ?b0 ?b1 ?m0 ?m1 ?cp ?dp ?un ?_; (case B => k_asm); (case F => k_asm); (case X => k_asm); (case N => k_asm); (case T => k_asm); (case K => first | exact rfl | assumption); (case U => k_updF); (case c => k_mem); (case i => assumption); (case len => assumption); (case s0 => omega); (case s1 => omega); (case b0 => assumption); (case b1 => assumption); (case m0 => decide); (case m1 => decide); (case cp => k_ne); (case dp => ktr_room); (case un => ktr_units); k_whole); intro r9 t9 t9' n9 h9 tk9 hr9 hr9' F9 N9; (try dsimp only at N9); (try dsimp only); (try k_fold)))
theorem ord_up {p c d e : Addr} {rest : Led} (h : p < d ∧ c < d ∧ AllLt d rest) (hd : @LE.le Nat _ d e) : p < e ∧ c < e ∧ AllLt e rest :=
  ⟨Nat.lt_of_lt_of_le h.1 hd, Nat.lt_of_lt_of_le h.2.1 hd, (Nat.eq_or_lt_of_le hd).elim (fun q => q ▸ h.2.2) fun q => allLt_mono q h.2.2⟩
local macro_rules | `(tactic| ktr_rel) => `(tactic| ((repeat' (first | exact List.forall_mem_nil _ | refine List.forall_mem_cons.mpr ⟨?_, ?_⟩)); (all_goals (refine ord_up (by assumption) ?_; (try dsimp only); omega))))
theorem split12 {h₀ h : Heap} {L : Addr} {x1 x2 x3 x4 x5 x6 x7 x8 x9 x10 x11 x12 : Addr × Obj} {tl : Led} (N : News h₀ L h (x1 :: x2 :: x3 :: x4 :: x5 :: x6 :: x7 :: x8 :: x9 :: x10 :: x11 :: x12 :: tl)) : ∃ new : Led, new = [x1, x2, x3, x4, x5, x6, x7, x8, x9, x10, x11, x12] ∧ News h₀ L h (new ++ tl) := ⟨_, rfl, N⟩
theorem val_spec {w : World} {loose : List Str} {mean : ExcName → Option Value} {mg mb : Str → Option Value}
    {dp un : Nat} {gd : Option (List Code)} {cn : Str} {cs : Scope} {a : Addr} {ccd : Value} {cl : List (Str × Addr)} {outer : List Env} {A₀ : Around} {base h₀ : Heap} {L : Addr} {m : Str → Option Value} {s : Shared} {Q E : Value → Shared → Prop}
    {p c : Addr} {spot b : Int} {t1 t2 : Tok} {n n' : Nat} {vs : List Value} {ns : List Int} {rest : List (Addr × Obj)}
    (B : Below A₀ base outer h₀) (F : Fr h₀ L s.heap m) (X : (hd.heap_1 w.params).In h₀)
    (N : News h₀ L s.heap ((p, listOf [.ref c, .int spot t1, .int b t2].toArray n) :: (c, listOf vs.toArray n') :: rest))
    (T : Top vw loose mean mg mb h₀) (hk : cs.kind = .function)
    (hne : ∀ q ∈ rest, q.1 ≠ p) (hcp : c ≠ p) (hi : IntsAre vs ns) (hlen : ns.length ≤ 60) (hs0 : 0 ≤ spot) (hs1 : spot ≤ 90) (hb0 : 0 ≤ b) (hb1 : b ≤ 997)
    (hdp : dp + 2 < recursionLimit) (hun : un + 16 < cLine)
    (ret : ∀ (v : Value) (k : VK) (new : Led) (spot' : Int) t' n'' h' tk', spot < spot' → spot' ≤ spot + 2 → VIn w new v k → KOk k → (∀ q ∈ new, p < q.1 ∧ c < q.1 ∧ AllLt q.1 rest) → Fr h₀ L h' m →
      News h₀ L h' (new ++ ((p, listOf [.ref c, .int spot' t', .int b t2].toArray n'') :: (c, listOf vs.toArray n') :: rest)) → Q v { s with heap := h', toks := tk' }) :
    wpAny (model PG w) (ktrTop dp un gd cn cs L a ccd cl outer) (call (.ref 416) [.ref p]) Q E s := by
  refine wpAny_call ?_
  k_dflt cell_enter
  k_steps
  · refine' ret _ (.cat ?k) [_, _, _] _ _ _ _ _ ?a1 ?a2 ?a3 ?a4 ?a5 (by assumption) (by assumption)
    case a3 => exact .cat ⟨⟨_, .tail _ (.tail _ (.head _)), by assumption, by assumption⟩⟩ ⟨⟨_, _, _, .head _, .tail _ (.head _)⟩⟩
    case a4 => exact ⟨by assumption, by assumption⟩
    case a1 => omega
    case a2 => omega
    case a5 => ((repeat' (first | exact List.forall_mem_nil _ | refine List.forall_mem_cons.mpr ⟨?_, ?_⟩)); (all_goals (refine ord_up (by assumption) ?_; (try dsimp only); omega)))
  · refine' ret _ .ref9 [_, _, _] _ _ _ _ _ ?a1 ?a2 ?a3 trivial ?a5 (by assumption) (by assumption)
    case a3 => exact .ref9 ⟨⟨_, .tail _ (.tail _ (.head _)), by assumption, by assumption⟩⟩ ⟨⟨_, _, _, _, _, .head _, .tail _ (.head _)⟩⟩
    case a1 => omega
    case a2 => omega
    case a5 => ktr_rel
  · simp only [decide_eq_true_eq, decide_eq_false_iff_not, Bool.not_eq_true, Bool.not_eq_false] at *
    rename News _ _ _ _ => N12
    obtain ⟨new, hnew, N13⟩ := split12 N12
    have hab : ∀ q ∈ new, p < q.1 ∧ c < q.1 ∧ AllLt q.1 rest := by
      rw [hnew]
      ktr_rel
    refine item_at (vs := [_, _, _, _, _]) N12 (by k_mem) ?_ ?_ (by simp) ?_
    · omega
    · simp only [List.length_cons, List.length_nil]; omega
    · intro j v hj hk
      have hv : ∃ k, VIn w new v k ∧ KOk k := by
        rw [hnew]
        rcases j with _ | _ | _ | _ | _ | j
        · cases hj; exact ⟨_, .int3, trivial⟩
        · cases hj; exact ⟨_, .pages ⟨⟨_, by k_mem, by assumption, by assumption⟩⟩ ⟨⟨_, _, _, by k_mem, by k_mem⟩⟩, trivial⟩
        · cases hj; exact ⟨_, .strm ⟨⟨_, _, _, _, by k_mem, by k_mem⟩⟩ ⟨⟨_, by k_mem, by assumption, by assumption⟩⟩ ⟨⟨_, _, _, by k_mem, by k_mem⟩⟩, trivial⟩
        · cases hj; exact ⟨_, .empty ⟨⟨_, by k_mem, by assumption, by assumption⟩⟩, trivial⟩
        · cases hj; exact ⟨_, .nam ⟨⟨_, _, _, by k_mem, by k_mem⟩⟩, trivial⟩
        · simp at hj
      obtain ⟨kk, hv, hk'⟩ := hv
      clear hnew hj hk N12
      k_steps
      refine' ret v kk new _ _ _ _ _ ?c1 ?c2 hv hk' hab (by assumption) (by assumption)
      case c1 => omega
      case c2 => omega
end Mine
end

/-! Kind -/
section
open PySem PySem.W PyProof.Rows
set_option maxRecDepth 100000
set_option maxHeartbeats 8000000
namespace Mine
theorem fill_frag3 : PySem.Challenge.rw_og0166_01 = PySem.Challenge.rw_og0166_01 ∧ hd.heap_1 = hd.heap_1 := by
  w_top off
  k_fill
  exact ⟨rfl, rfl⟩
local macro_rules | `(tactic| k_all) => `(tactic| with_reducible assumption)
local macro_rules | `(tactic| k_ne) => `(tactic| with_reducible assumption)
local macro_rules | `(tactic| k_room) => `(tactic| ktr_room)
local macro_rules | `(tactic| k_units) => `(tactic| ktr_units)
/-- what a call of f on the values vs comes to: the heap's facts stay, and R tells the result -/
def Pure1 (w : World) (loose : List Str) (mean : ExcName → Option Value) (mg mb : Str → Option Value) (f : Addr) (need unit : Nat) (news : Led) (vs : List Value) (R : Led → Value → Prop) : Prop :=
  ∀ (dp un : Nat) (gd : Option (List Code)) (cn : Str) (cs : Scope) (a : Addr) (ccd : Value) (cl : List (Str × Addr)) (outer : List Env) (A₀ : Around) (base h₀ : Heap) (L : Addr) (m : Str → Option Value) (s : Shared) (Q E : Value → Shared → Prop),
    Below A₀ base outer h₀ → Fr h₀ L s.heap m → (hd.heap_1 w.params).In h₀ → News h₀ L s.heap news → Top vw loose mean mg mb h₀ → cs.kind = .function → dp + need < recursionLimit → un + unit < cLine →
    (∀ r tl h' tk', R tl r → Above tl news → Fr h₀ L h' m → News h₀ L h' (news ++ tl) → Q r { s with heap := h', toks := tk' }) →
    wpAny (model PG w) (ktrTop dp un gd cn cs L a ccd cl outer) (call (.ref f) vs) Q E s
theorem isDict_cls {w : World} {o : Obj} {kvs : List (Str × Value)} (h : Obj.IsDictOf (PySem.strKind PG w) o kvs) : o.cls = .type "dict" := by
  obtain ⟨_, _, h, _⟩ := h
  exact h.1
local macro_rules | `(tactic| kit_at) => `(tactic| (refine' kitAt_N ?N ?m ?c; (case N => k_asm); (case m => k_mem); (case c => exact isDict_cls (by assumption))))
theorem kind_int {w : World} {loose : List Str} {mean : ExcName → Option Value} {mg mb : Str → Option Value} {news : Led} {i : Int} {t : Tok} :
    Pure1 w loose mean mg mb 253 1 16 news [.int i t] (fun tl r => tl = [] ∧ ∃ t, r = .str (Str.ofString "int") t) := by
  intro dp un gd cn cs a ccd cl outer A₀ base h₀ L m s Q E B F X N T hk hd hu hret
  refine wpAny_call ?_
  k_dflt cell_enter
  k_steps
  exact hret _ [] _ _ ⟨rfl, _, rfl⟩ (fun _ h => nomatch h) (by assumption) (by rw [List.append_nil]; assumption)
theorem kind_name {w : World} {loose : List Str} {mean : ExcName → Option Value} {mg mb : Str → Option Value} {news : Led} {x d : Addr} {od : Obj} (h1 : (x, instObj 171 d) ∈ news) (h2 : (d, od) ∈ news) :
    Pure1 w loose mean mg mb 253 1 16 news [.ref x] (fun tl r => tl = [] ∧ ∃ t, r = .str (Str.ofString "name") t) := by
  intro dp un gd cn cs a ccd cl outer A₀ base h₀ L m s Q E B F X N T hk hd hu hret
  refine wpAny_call ?_
  k_dflt cell_enter
  k_steps
  exact hret _ [] _ _ ⟨rfl, _, rfl⟩ (fun _ h => nomatch h) (by assumption) (by rw [List.append_nil]; assumption)
theorem kind_dict {w : World} {loose : List Str} {mean : ExcName → Option Value} {mg mb : Str → Option Value} {news : Led} {x : Addr} {o : Obj} {kvs : List (Str × Value)} (h1 : (x, o) ∈ news) (h2 : Obj.IsDictOf (PySem.strKind PG w) o kvs) :
    Pure1 w loose mean mg mb 253 1 16 news [.ref x] (fun tl r => tl = [] ∧ ∃ t, r = .str (Str.ofString "dict") t) := by
  intro dp un gd cn cs a ccd cl outer A₀ base h₀ L m s Q E B F X N T hk hd hu hret
  refine wpAny_call ?_
  k_dflt cell_enter
  k_steps
  exact hret _ [] _ _ ⟨rfl, _, rfl⟩ (fun _ h => nomatch h) (by assumption) (by rw [List.append_nil]; assumption)
theorem kind_strm {w : World} {loose : List Str} {mean : ExcName → Option Value} {mg mb : Str → Option Value} {news : Led} {x d : Addr} {od : Obj} (h1 : (x, instObj 214 d) ∈ news) (h2 : (d, od) ∈ news) :
    Pure1 w loose mean mg mb 253 1 16 news [.ref x] (fun tl r => tl = [] ∧ ∃ t, r = .str (Str.ofString "stream") t) := by
  intro dp un gd cn cs a ccd cl outer A₀ base h₀ L m s Q E B F X N T hk hd hu hret
  refine wpAny_call ?_
  k_dflt cell_enter
  k_steps
  exact hret _ [] _ _ ⟨rfl, _, rfl⟩ (fun _ h => nomatch h) (by assumption) (by rw [List.append_nil]; assumption)
theorem kind_ref {w : World} {loose : List Str} {mean : ExcName → Option Value} {mg mb : Str → Option Value} {news : Led} {x d : Addr} {od : Obj} (h1 : (x, instObj 242 d) ∈ news) (h2 : (d, od) ∈ news) :
    Pure1 w loose mean mg mb 253 1 16 news [.ref x] (fun tl r => tl = [] ∧ ∃ t, r = .str (Str.ofString "ref") t) := by
  intro dp un gd cn cs a ccd cl outer A₀ base h₀ L m s Q E B F X N T hk hd hu hret
  refine wpAny_call ?_
  k_dflt cell_enter
  k_steps
  exact hret _ [] _ _ ⟨rfl, _, rfl⟩ (fun _ h => nomatch h) (by assumption) (by rw [List.append_nil]; assumption)
end Mine
end

/-! Told -/
section
open PySem PySem.W PyProof.Rows
set_option maxRecDepth 100000
set_option maxHeartbeats 8000000
namespace Mine
theorem fill_frag4 : PySem.Challenge.rw_og0166_01 = PySem.Challenge.rw_og0166_01 ∧ hd.heap_1 = hd.heap_1 := by
  w_top off
  k_fill
  exact ⟨rfl, rfl⟩
local macro_rules | `(tactic| k_all) => `(tactic| with_reducible assumption)
local macro_rules | `(tactic| k_mem) => `(tactic| first | assumption | exact List.Mem.head _ | (refine' List.Mem.tail _ ?_; k_mem))
local macro_rules | `(tactic| k_ne) => `(tactic| with_reducible assumption)
local macro_rules | `(tactic| k_room) => `(tactic| ktr_room)
local macro_rules | `(tactic| k_units) => `(tactic| ktr_units)
local macro_rules | `(tactic| kit_at) => `(tactic| (refine' kitAt_N ?N ?m ?c; (case N => k_asm); (case m => k_mem); (case c => exact isDict_cls (by assumption))))

theorem pure1_use {w : World} {loose : List Str} {mean : ExcName → Option Value} {mg mb : Str → Option Value} {f : Addr} {need unit : Nat} {news : Led} {vs : List Value} {R : Led → Value → Prop}
    {dp un : Nat} {gd : Option (List Code)} {cn : Str} {cs : Scope} {a : Addr} {ccd : Value} {cl : List (Str × Addr)} {outer : List Env} {A₀ : Around} {base h₀ : Heap} {L : Addr} {m : Str → Option Value} {s : Shared} {Q E : Value → Shared → Prop}
    (C : Pure1 w loose mean mg mb f need unit news vs R) (B : Below A₀ base outer h₀) (F : Fr h₀ L s.heap m) (X : (hd.heap_1 w.params).In h₀) (N : News h₀ L s.heap news) (T : Top vw loose mean mg mb h₀) (hk : cs.kind = .function)
    (hd : dp + need < recursionLimit) (hu : un + unit < cLine)
    (ret : ∀ r tl h' tk', R tl r → Above tl news → Fr h₀ L h' m → News h₀ L h' (news ++ tl) → Q r { s with heap := h', toks := tk' }) :
    wpAny (model PG w) (ktrTop dp un gd cn cs L a ccd cl outer) (call (.ref f) vs) Q E s := C _ _ _ _ _ _ _ _ _ _ _ _ _ _ _ _ _ B F X N T hk hd hu ret

local macro_rules | `(tactic| walk_at "call ref") => `(tactic| (k_here; (with_reducible show wpAny _ _ (call (Value.ref 253) [_]) _ _ _); k_dflt (refine' pure1_use ?C ?B ?F ?X ?N ?T ?K ?dp ?un ?_; (case B => k_asm); (case F => k_asm); (case X => k_asm); (case N => k_asm); (case T => k_asm); (case K => first | exact rfl | assumption); (case C => first | exact kind_int | exact kind_name (by k_mem) (by k_mem) | exact kind_dict (by k_mem) (by assumption) | exact kind_strm (by k_mem) (by k_mem) | exact kind_ref (by k_mem) (by k_mem)); (case dp => ktr_room); (case un => ktr_units); k_whole); intro r9 tl9 h9 tk9 hR9 hA9 F9 N9; (obtain ⟨e9, t9, e9'⟩ := hR9); subst e9; subst e9'; (try simp only [List.append_nil] at N9); (try dsimp only); (try k_fold)))

local macro_rules | `(tactic| k_enter) => `(tactic| (refine' code_defC ?k1 ?k2 ?k3 ?k4 ?k5 ?kA ?kF ?kK ?k6 ?k7 ?k8 ?k9 ?kB ?kD ?_ ?c2 ?c3 ?c4; (case kA => exact rfl); (case kF => exact rfl); (case kK => assumption); (case k1 => k_asm); (case k2 => k_asm); (case k3 => k_asm); (case k4 => k_asm); (case k5 => k_asm); (case k6 => k_is); (case k7 => k_is); (case k8 => ktr_room); (case k9 => exact BindsTo.of_eq rfl); (case kB => exact rfl); (case kD => decide +kernel); (case c2 => exact rfl); (case c3 => exact rfl); (case c4 => exact rfl); k_whole; intro g' L' h' tk' cells' FG' F' N' Y' B' X' T' l1; (try k_lt l1); k_cells Y'; (try simp only [List.cons_append, List.nil_append] at N'); (try dsimp only); (try k_lift B'); (try k_fold)))
theorem above1 {a : Addr} {o : Obj} {c : Prop} {news : Led} (h : c ∧ AllLt a news) : Above [(a, o)] news := fun q hq => by
  rw [List.mem_singleton.mp hq]
  exact h.2
theorem news_drop {h₀ h : Heap} {L : Addr} {a b : Addr × Obj} {l : Led} (N : News h₀ L h (a :: b :: l)) : News h₀ L h (l ++ [a]) := fun q hq => N q (by
  rcases List.mem_append.mp hq with hq | hq
  · exact .tail _ (.tail _ hq)
  · rw [List.mem_singleton.mp hq]; exact .head _)
theorem told_int {w : World} {loose : List Str} {mean : ExcName → Option Value} {mg mb : Str → Option Value} {news : Led} {i : Int} {t : Tok} :
    Pure1 w loose mean mg mb 265 2 32 news [.int i t] (fun tl r => DatIn tl r (.tuple [.str (Str.ofString "int"), .int i])) := by
  intro dp un gd cn cs a ccd cl outer A₀ base h₀ L m s Q E B F X N T hk hd hu hret
  refine wpAny_call ?_
  k_dflt k_enter
  k_steps
  exact hret _ [_] _ _ (DatIn.tuple (.head _) (.cons (.str _ _) (.cons (.int _ _) .nil))) (above1 (by assumption)) (by assumption) (news_drop (by assumption))
theorem told_name {w : World} {loose : List Str} {mean : ExcName → Option Value} {mg mb : Str → Option Value} {news : Led} {x : Addr} {y : Str} (h : NmIn w news x y) :
    Pure1 w loose mean mg mb 265 2 32 news [.ref x] (fun tl r => DatIn tl r (.tuple [.str (Str.ofString "name"), .str y])) := by
  intro dp un gd cn cs a ccd cl outer A₀ base h₀ L m s Q E B F X N T hk hd hu hret
  obtain ⟨d, t, t', h1, h2⟩ := h.ex
  refine wpAny_call ?_
  k_dflt k_enter
  k_steps
  exact hret _ [_] _ _ (DatIn.tuple (.head _) (.cons (.str _ _) (.cons (.str _ _) .nil))) (above1 (by assumption)) (by assumption) (news_drop (by assumption))
theorem told_ref {w : World} {loose : List Str} {mean : ExcName → Option Value} {mg mb : Str → Option Value} {news : Led} {x : Addr} {i g : Int} (h : RefIn w news x i g) :
    Pure1 w loose mean mg mb 265 2 32 news [.ref x] (fun tl r => DatIn tl r (.tuple [.str (Str.ofString "ref"), .int i, .int g])) := by
  intro dp un gd cn cs a ccd cl outer A₀ base h₀ L m s Q E B F X N T hk hd hu hret
  obtain ⟨d, t, t', t'', t3, h1, h2⟩ := h.ex
  refine wpAny_call ?_
  k_dflt k_enter
  k_steps
  exact hret _ [_] _ _ (DatIn.tuple (.head _) (.cons (.str _ _) (.cons (.int _ _) (.cons (.int _ _) .nil)))) (above1 (by assumption)) (by assumption) (news_drop (by assumption))
end Mine
end

/-! Sorty -/
section
open PySem PySem.W PyProof.Rows
set_option maxRecDepth 100000
set_option maxHeartbeats 8000000
namespace Mine
section
variable {prog : Program} {w : World} {A : Around} {E : Value → Shared → Prop} {s : Shared} {h₀ : Heap} {L B d : Addr} {m : Str → Option Value} {news : Led} {Q : Value → Shared → Prop}
theorem sortedHeap_facts {vs : List Value} {n : Nat} {out : Array Value} {g : Heap} (F : Fr h₀ L g m) (N : News h₀ L g ((B, listOf vs.toArray n) :: news)) (off : ∀ q : Addr × Obj, q ∈ news → q.1 ≠ B) :
    ∃ e, Fr h₀ L (sortedHeap g B vs out) m ∧ News h₀ L (sortedHeap g B vs out) ((B, listOf out e) :: news) := by
  have z := N _ (.head _)
  have F1 : Fr h₀ L (g.update B (Obj.mapSeq fun _ => (#[] : Array Value))) m := F.change (Heap.SameBut.update ..) z.2.1 z.2.2
  have N1 := ki_turn (pre := []) (fun _ => (#[] : Array Value)) N (fun _ h => nomatch h) off rfl rfl
  have N2 := News.grown N1 fun _ _ e => Heap.get?_push_of_some (seqObj "tuple" vs.toArray 0) e
  have N3 := News.grown N2 fun _ _ e => Heap.get?_push_of_some (seqObj "list" #[] 0) e
  have N4 := ki_turn (pre := []) (fun _ => out) N3 (fun _ h => nomatch h) off rfl rfl
  have F4 : Fr h₀ L ((((g.update B (Obj.mapSeq fun _ => (#[] : Array Value))).push (seqObj "tuple" vs.toArray 0)).push (seqObj "list" #[] 0)).update B (Obj.mapSeq fun _ => out)) m :=
    ((F1.push (seqObj "tuple" vs.toArray 0)).push (seqObj "list" #[] 0)).change (Heap.SameBut.update ..) z.2.1 z.2.2
  exact ⟨_, F4, N4⟩
theorem lsortS {vs : List Value} {ss : List Str} {n : Nat} (F : Fr h₀ L s.heap m) (N : News h₀ L s.heap ((B, listOf vs.toArray n) :: news)) (off : ∀ q : Addr × Obj, q ∈ news → q.1 ≠ B) (hS : StrsAre vs ss) (h64 : vs.length < 64)
    (h : ∀ vs' ss' e h', StrsAre vs' ss' → ss'.Perm ss → sortedS ss' = true → Fr h₀ L h' m → News h₀ L h' ((B, listOf vs'.toArray e) :: news) → Q .none { s with heap := h' }) :
    wpAny (model prog w) A (call (.builtin "list.sort") [.ref B]) Q E s := by
  have z := N _ (.head _)
  have ho : s.heap.get? B = some (seqObj "list" vs.toArray n) := z.1
  refine wpAny_call_entry PyProof.Rows.slot_list_sort ⟨_, z.1, rfl⟩ PyProof.Rows.entry_list_sort (list_sort_treeK (n := n) (vs := vs) strKind_oneLt ho hS.keysOf (fun v₁ v₂ rest e => keyKind_strs (by rw [← e]; exact hS)) h64 fun st' hp hs => ⟨.none, rfl, ?_⟩) (PyProof.Rows.args_list_sort _)
  obtain ⟨ss', h1, h2, h3⟩ := sorted_out_str hS hp hs
  obtain ⟨e, F', N'⟩ := sortedHeap_facts (out := (arrOf st').map (·.2)) F N off
  have := h _ ss' e _ h1 h2 h3 F' (by rw [Array.toArray_toList]; exact N')
  exact this
theorem lsortI {vs : List Value} {ns : List Int} {n : Nat} (F : Fr h₀ L s.heap m) (N : News h₀ L s.heap ((B, listOf vs.toArray n) :: news)) (off : ∀ q : Addr × Obj, q ∈ news → q.1 ≠ B) (hS : IntsAre vs ns) (h64 : vs.length < 64)
    (h : ∀ vs' ns' e h', IntsAre vs' ns' → ns'.Perm ns → ns'.Pairwise (· ≤ ·) → Fr h₀ L h' m → News h₀ L h' ((B, listOf vs'.toArray e) :: news) → Q .none { s with heap := h' }) :
    wpAny (model prog w) A (call (.builtin "list.sort") [.ref B]) Q E s := by
  have z := N _ (.head _)
  have ho : s.heap.get? B = some (seqObj "list" vs.toArray n) := z.1
  refine wpAny_call_entry PyProof.Rows.slot_list_sort ⟨_, z.1, rfl⟩ PyProof.Rows.entry_list_sort (list_sort_tree (n := n) (vs := vs) ho hS h64 fun out ns' h1 h2 h3 => ⟨.none, rfl, ?_⟩) (PyProof.Rows.args_list_sort _)
  obtain ⟨e, F', N'⟩ := sortedHeap_facts (out := out) F N off
  have := h _ ns' e _ h1 h2 h3 F' (by rw [Array.toArray_toList]; exact N')
  exact this
theorem strsAre_of {w : World} : ∀ {vs : List Value} {kvs : List (Str × Value)}, vs.length = kvs.length → (∀ (j : Nat) (v : Value), vs[j]? = some v → ∃ k x, kvs[j]? = some (k, x) ∧ (PySem.strKind prog w).is k v = true) → StrsAre vs (kvs.map (·.1))
  | [], [], _, _ => .nil
  | v :: vs, (k, x) :: kvs, hl, hv => by
    obtain ⟨k', x', e, hk⟩ := hv 0 v rfl
    cases e
    obtain ⟨t, rfl⟩ := Value.isStrOf_shape hk
    exact .cons _ t (strsAre_of (w := w) (by simpa using hl) fun j u hu => hv (j + 1) u hu)
theorem intsAre_of {w : World} : ∀ {vs : List Value} {kvs : List (Int × Value)}, vs.length = kvs.length → (∀ (j : Nat) (v : Value), vs[j]? = some v → ∃ k x, kvs[j]? = some (k, x) ∧ (PySem.intKind prog w).is k v = true) → IntsAre vs (kvs.map (·.1))
  | [], [], _, _ => .nil
  | v :: vs, (k, x) :: kvs, hl, hv => by
    obtain ⟨k', x', e, hk⟩ := hv 0 v rfl
    cases e
    obtain ⟨t, rfl⟩ := Value.isInt_shape hk
    exact .cons _ t (intsAre_of (w := w) (by simpa using hl) fun j u hu => hv (j + 1) u hu)

theorem sorted_sdict {o : Obj} {kvs : List (Str × Value)}
    (hh : A.handled = none) (F : Fr h₀ L s.heap m) (N : News h₀ L s.heap news) (hm : (d, o) ∈ news) (hd : o.IsDictOf (PySem.strKind prog w) kvs) (lo : (d == sysModules) = false) (hn : kvs.length < 64)
    (h : ∀ (B : Addr) vs ss e h' tk, StrsAre vs ss → ss.Perm (kvs.map (·.1)) → sortedS ss = true → Fr h₀ L h' m → News h₀ L h' ((B, listOf vs.toArray e) :: news) → (∀ q ∈ news, q.1 < B) → Q (.ref B) { s with heap := h', toks := tk }) :
    wpAny (model prog w) A (call (.builtin "sorted") [.ref d]) Q E s := by
  have hD : s.heap.DictOf (PySem.strKind prog w) d kvs := Heap.dictOf_iff.mpr ⟨o, (N _ hm).1, hd⟩
  obtain ⟨ep, hat⟩ := hD.dictAt
  refine kdu_sorted (kdl_dict (knd := PySem.strKind prog w) (kvs := kvs) (ep := ep) lo) hh F N hat (by rw [sizeLine_eq]; omega) fun B h' tk vs F' N' l1 hl hv => ?_
  refine lsortS F' N' (fun q hq => Nat.ne_of_lt (l1 q hq)) (strsAre_of (w := w) hl hv) (by rw [hl]; exact hn) fun vs' ss' e h'' a1 a2 a3 F'' N'' => h B vs' ss' e h'' tk a1 a2 a3 F'' N'' l1
theorem sorted_idict {o : Obj} {kvs : List (Int × Value)}
    (hh : A.handled = none) (F : Fr h₀ L s.heap m) (N : News h₀ L s.heap news) (hm : (d, o) ∈ news) (hd : o.IsDictOf (PySem.intKind prog w) kvs) (lo : (d == sysModules) = false) (hn : kvs.length < 64)
    (h : ∀ (B : Addr) vs ns e h' tk, IntsAre vs ns → ns.Perm (kvs.map (·.1)) → ns.Pairwise (· ≤ ·) → Fr h₀ L h' m → News h₀ L h' ((B, listOf vs.toArray e) :: news) → (∀ q ∈ news, q.1 < B) → Q (.ref B) { s with heap := h', toks := tk }) :
    wpAny (model prog w) A (call (.builtin "sorted") [.ref d]) Q E s := by
  have hD : s.heap.DictOf (PySem.intKind prog w) d kvs := Heap.dictOf_iff.mpr ⟨o, (N _ hm).1, hd⟩
  obtain ⟨ep, hat⟩ := hD.dictAt
  refine kdu_sorted (kdl_dict (knd := PySem.intKind prog w) (kvs := kvs) (ep := ep) lo) hh F N hat (by rw [sizeLine_eq]; omega) fun B h' tk vs F' N' l1 hl hv => ?_
  refine lsortI F' N' (fun q hq => Nat.ne_of_lt (l1 q hq)) (intsAre_of (w := w) hl hv) (by rw [hl]; exact hn) fun vs' ss' e h'' a1 a2 a3 F'' N'' => h B vs' ss' e h'' tk a1 a2 a3 F'' N'' l1
theorem item_sdict {o : Obj} {kvs : List (Str × Value)} {value slice : PySem.Expr} {k : Str} {t : Tok} {v : Value}
    (N : News h₀ L s.heap news) (hm : (d, o) ∈ news) (hd : o.IsDictOf (PySem.strKind prog w) kvs) (hv : valueAt kvs k = some v) (h : Q v { s with toks := s.toks + 1 })
    (hs : subscripted slice false (.ref d) (.str k t) = operate [.ref d, .str k t] (getItem (.ref d) (.str k t)) := by with_unfolding_all rfl) (hg : ∀ r, letTemporaryGo value (.ref d) r = pure () := by intro _; with_unfolding_all rfl) :
    wpAny (model prog w) A (subscriptTail value slice (.ref d) (.str k t)) Q E s := kda_item (knd := PySem.strKind prog w) N hm hd (strKind_is _ _ _ _) hv h hs hg
theorem item_idict {o : Obj} {kvs : List (Int × Value)} {value slice : PySem.Expr} {k : Int} {t : Tok} {v : Value}
    (N : News h₀ L s.heap news) (hm : (d, o) ∈ news) (hd : o.IsDictOf (PySem.intKind prog w) kvs) (hv : valueAt kvs k = some v) (h : Q v { s with toks := s.toks + 1 })
    (hs : subscripted slice false (.ref d) (.int k t) = operate [.ref d, .int k t] (getItem (.ref d) (.int k t)) := by with_unfolding_all rfl) (hg : ∀ r, letTemporaryGo value (.ref d) r = pure () := by intro _; with_unfolding_all rfl) :
    wpAny (model prog w) A (subscriptTail value slice (.ref d) (.int k t)) Q E s := kda_item (knd := PySem.intKind prog w) N hm hd (intKind_is _ _ _ _) hv h hs hg
theorem sort0 {ss : List Str} {vs : List Value} (a : StrsAre vs ss) (p : ss.Perm (([] : List (Str × Value)).map (·.1))) : vs = [] := by
  have := p.length_eq
  cases a
  · rfl
  · simp at this
theorem sort1 {ss : List Str} {vs : List Value} {k : Str} {x : Value} (a : StrsAre vs ss) (p : ss.Perm ([(k, x)].map (·.1))) : ∃ t, vs = [.str k t] := by
  have : ss = [k] := List.perm_singleton.mp p
  subst this
  cases a with
  | cons y t r => cases r; exact ⟨t, rfl⟩
theorem sort2 {ss : List Str} {vs : List Value} {k l : Str} {x y : Value} (hkl : sortedS [k, l] = false) (a : StrsAre vs ss) (p : ss.Perm ([(k, x), (l, y)].map (·.1))) (b : sortedS ss = true) : ∃ t u, vs = [.str l t, .str k u] := by
  have e : ss = [k, l] ∨ ss = [l, k] := by
    have hl := p.length_eq
    match ss, hl with
    | [c, d], _ =>
      have hc : c ∈ [k, l] := p.mem_iff.mp (.head _)
      have hcd : [c, d].Perm [k, l] := p
      rcases List.mem_cons.mp hc with rfl | hc
      · have := List.perm_singleton.mp (List.Perm.cons_inv hcd)
        cases this
        exact .inl rfl
      · have hc : c = l := List.mem_singleton.mp hc
        subst hc
        have h2 : [c, d].Perm [c, k] := hcd.trans (List.Perm.swap _ _ _)
        have := List.perm_singleton.mp (List.Perm.cons_inv h2)
        cases this
        exact .inr rfl
  rcases e with rfl | rfl
  · rw [hkl] at b; cases b
  · cases a with
    | cons _ t r => cases r with
      | cons _ u r => cases r; exact ⟨t, u, rfl⟩
end
end Mine
end

/-! Told2 -/
section
open PySem PySem.W PyProof.Rows
set_option maxRecDepth 100000
set_option maxHeartbeats 8000000
namespace Mine
local macro_rules | `(tactic| walk_at "no such key 0") => `(tactic| fail)
theorem fill_frag5 : PySem.Challenge.rw_og0166_01 = PySem.Challenge.rw_og0166_01 ∧ hd.heap_1 = hd.heap_1 := by
  w_top off
  k_fill
  exact ⟨rfl, rfl⟩
local macro_rules | `(tactic| k_all) => `(tactic| with_reducible assumption)
local macro_rules | `(tactic| k_mem) => `(tactic| first | assumption | exact List.Mem.head _ | (refine' List.Mem.tail _ ?_; k_mem) | (refine List.mem_append_left _ ?_; k_mem))
local macro_rules | `(tactic| k_ne) => `(tactic| with_reducible assumption)
local macro_rules | `(tactic| k_room) => `(tactic| ktr_room)
local macro_rules | `(tactic| k_units) => `(tactic| ktr_units)
local macro_rules | `(tactic| kit_at) => `(tactic| (refine' kitAt_N ?N ?m ?c; (case N => k_asm); (case m => k_mem); (case c => exact isDict_cls (by assumption))))

local macro_rules | `(tactic| walk_at "call ref") => `(tactic| (k_here; (with_reducible show wpAny _ _ (call (Value.ref 253) [_]) _ _ _); k_dflt (refine' pure1_use ?C ?B ?F ?X ?N ?T ?K ?dp ?un ?_; (case B => k_asm); (case F => k_asm); (case X => k_asm); (case N => k_asm); (case T => k_asm); (case K => first | exact rfl | assumption); (case C => first | exact kind_int | exact kind_name (by k_mem) (by k_mem) | exact kind_dict (by k_mem) (by assumption) | exact kind_strm (by k_mem) (by k_mem) | exact kind_ref (by k_mem) (by k_mem)); (case dp => ktr_room); (case un => ktr_units); k_whole); intro r9 tl9 h9 tk9 hR9 hA9 F9 N9; (obtain ⟨e9, t9, e9'⟩ := hR9); subst e9; subst e9'; (try simp only [List.append_nil, List.cons_append] at N9); (try dsimp only); (try k_fold)))

local macro_rules | `(tactic| k_enter) => `(tactic| (refine' code_defC ?k1 ?k2 ?k3 ?k4 ?k5 ?kA ?kF ?kK ?k6 ?k7 ?k8 ?k9 ?kB ?kD ?_ ?c2 ?c3 ?c4; (case kA => exact rfl); (case kF => exact rfl); (case kK => assumption); (case k1 => k_asm); (case k2 => k_asm); (case k3 => k_asm); (case k4 => k_asm); (case k5 => k_asm); (case k6 => k_is); (case k7 => k_is); (case k8 => ktr_room); (case k9 => exact BindsTo.of_eq rfl); (case kB => exact rfl); (case kD => decide +kernel); (case c2 => exact rfl); (case c3 => exact rfl); (case c4 => exact rfl); k_whole; intro g' L' h' tk' cells' FG' F' N' Y' B' X' T' l1; (try k_lt l1); k_cells Y'; (try simp only [List.cons_append, List.nil_append] at N'); (try dsimp only); (try k_lift B'); (try k_fold)))
def LeafC (n u : Nat) (w : World) (loose : List Str) (mean : ExcName → Option Value) (mg mb : Str → Option Value) (news : Led) (x : Addr) (D : Dat) : Prop :=
  ∀ news' : Led, (∀ q ∈ news, q ∈ news') → Pure1 w loose mean mg mb 265 n u news' [.ref x] (fun tl r => DatIn tl r D)
theorem LeafC.use {n u : Nat} {w : World} {loose : List Str} {mean : ExcName → Option Value} {mg mb : Str → Option Value} {news news' : Led} {x : Addr} {D : Dat} (h : LeafC n u w loose mean mg mb news x D) (hs : ∀ q ∈ news, q ∈ news') :
    Pure1 w loose mean mg mb 265 n u news' [.ref x] (fun tl r => DatIn tl r D) := h news' hs
local macro_rules | `(tactic| walk_at "call ref") => `(tactic| (k_here; (with_reducible show wpAny _ _ (call (Value.ref 265) [_]) _ _ _); k_dflt (refine' pure1_use ?C ?B ?F ?X ?N ?T ?K ?dp ?un ?_; (case B => k_asm); (case F => k_asm); (case X => k_asm); (case N => k_asm); (case T => k_asm); (case K => first | exact rfl | assumption); (case C => first | (refine LeafC.use (by assumption) ?_; (intro q9 h9; repeat (first | exact h9 | refine List.mem_cons_of_mem _ ?_ | refine List.mem_append_left _ ?_))) | exact told_int); (case dp => ktr_room); (case un => ktr_units); k_whole); intro r9 tl9 h9 tk9 hR9 hA9 F9 N9; (try simp only [List.append_nil, List.cons_append] at N9); (try dsimp only); (try k_fold)))
local macro_rules | `(tactic| walk_at "call builtin:sorted") => `(tactic| (k_here; (with_reducible show wpAny _ _ (call (Value.builtin "sorted") [Value.ref _]) _ _ _); k_dflt (refine' sorted_sdict ?hh ?F ?N ?m ?hd ?lo ?n ?_; (case hh => rfl); (case F => k_asm); (case N => k_asm); (case m => k_mem); (case hd => assumption); (case lo => assumption); (case n => exact Nat.le_of_ble_eq_true rfl); k_whole); intro B' vs' ss' e' h' tk' a' p' b' F' N' l1; (first | (have z' := sort0 a' p'; subst z') | (obtain ⟨t', z'⟩ := sort1 a' p'; subst z') | (obtain ⟨t', u', z'⟩ := sort2 (by rfl) a' p' b'; subst z')); (clear a' p' b'); (try k_lt l1)))
local macro_rules | `(tactic| walk_at "subscriptTail") => `(tactic| (k_here; (with_reducible show wpAny _ _ (subscriptTail _ _ (Value.ref _) (Value.str _ _)) _ _ _); k_dflt (refine' item_sdict ?N ?m ?hd ?hv ?_; (case N => k_asm); (case m => k_mem); (case hd => assumption); (case hv => rfl); k_whole)))
theorem allLt_sub {a : Addr} {l l' : Led} (h : AllLt a l) (hs : ∀ q ∈ l', q ∈ l) : AllLt a l' := allLt_of fun q hq => allLt_mem h q (hs q hq)
theorem news_sub {h₀ h : Heap} {L : Addr} {l l' : Led} (N : News h₀ L h l) (hs : ∀ q ∈ l', q ∈ l) : News h₀ L h l' := fun q hq => N q (hs q hq)
theorem off3_app {I C D : Addr} : ∀ {l l' : Led}, LCg.Off3 I C D l → LCg.Off3 I C D l' → LCg.Off3 I C D (l ++ l')
  | [], _, _, h => h
  | _ :: _, _, h, h' => ⟨h.1, off3_app h.2 h'⟩
theorem compEnd_tl {h₀ : Heap} {L : Addr} {m : Str → Option Value} {s₁ : Shared} {I C D T : Addr} {oI oC oD oT : Obj} {S : Led → Prop} {rest : Value → Led → Prop} {y : Value} {h' : Heap} {tk : Nat} {tl l l' : Led} {P : Prop}
    (F : Fr h₀ L h' m) (N : News h₀ L h' ((T, oT) :: (I, oI) :: (C, oC) :: (D, oD) :: l')) (hT : @LT.lt Nat _ I T ∧ @LT.lt Nat _ C T ∧ @LT.lt Nat _ D T ∧ P) (hA : Above tl ((I, oI) :: (C, oC) :: (D, oD) :: l)) (hl : l' = l ++ tl) (off : LCg.Off3 I C D l)
    (hS : S ((T, oT) :: l')) (r : rest y ((T, oT) :: l')) : LCg.CompEnd h₀ L m s₁ I oI C oC D oD S rest y { s₁ with heap := h', toks := tk } := by
  subst hl
  refine LCg.CompEnd.intro F N ((T, oT) :: (l ++ tl)) (fun q hq => ?_) ⟨⟨Nat.ne_of_gt hT.1, Nat.ne_of_gt hT.2.1, Nat.ne_of_gt hT.2.2.1⟩, off3_app off (LCg.Off3.of fun q hq => ?_)⟩ hS r
  · simp only [List.mem_cons, List.mem_append] at hq ⊢
    grind
  · obtain ⟨hI, hC, hD, _⟩ := hA q hq
    exact ⟨(Nat.ne_of_gt hI), (Nat.ne_of_gt hC), (Nat.ne_of_gt hD)⟩
local macro_rules | `(tactic| walk_at "CompEnd") => `(tactic| (k_dflt (refine' compEnd_tl ?F ?N ?T ?A ?L ?O ?S ?_; (case F => k_asm); (case N => k_asm); (case T => assumption); (case A => assumption); (case L => exact rfl); (case O => assumption); (case S => exact Or.inr ⟨_, by k_mem, rfl, _, rfl⟩)); (try simp only [List.nil_append, List.cons_append])))
theorem fin_news {h₀ h : Heap} {L : Addr} {R T a b c d e : Addr × Obj} {news tl : Led} (N : News h₀ L h (R :: a :: b :: T :: c :: d :: e :: (news ++ tl))) : News h₀ L h (news ++ (tl ++ [T, R])) := news_sub N fun q hq => by
  simp only [List.mem_cons, List.mem_append, List.not_mem_nil, or_false] at hq ⊢
  grind
theorem allLt_left {a : Addr} {l l' : Led} (h : AllLt a (l ++ l')) : AllLt a l := allLt_sub h fun q hq => List.mem_append_left _ hq
theorem fin_above {R T : Addr × Obj} {news tl : Led} {p1 p2 p3 p4 p5 p6 q1 q2 q3 q4 q5 q6 : Prop} {i j k c d e : Addr × Obj}
    (hR : p1 ∧ p2 ∧ p3 ∧ p4 ∧ p5 ∧ p6 ∧ AllLt R.1 (news ++ tl)) (hT : q1 ∧ q2 ∧ q3 ∧ q4 ∧ q5 ∧ q6 ∧ AllLt T.1 (news ++ tl)) (hA : Above tl (i :: j :: k :: c :: d :: e :: news)) : Above (tl ++ [T, R]) news := fun q hq => by
  rcases List.mem_append.mp hq with hq | hq
  · exact (hA q hq).2.2.2.2.2.2
  · rcases List.mem_cons.mp hq with rfl | hq
    · exact allLt_left hT.2.2.2.2.2.2
    · rw [List.mem_singleton.mp hq]
      exact allLt_left hR.2.2.2.2.2.2
theorem DatIn.left {l l' : Led} {v : Value} {D : Dat} (h : DatIn l v D) : DatIn (l ++ l') v D := h.mono fun _ hq => List.mem_append_left _ hq
theorem told_dict1 {w : World} {loose : List Str} {mean : ExcName → Option Value} {mg mb : Str → Option Value} {news : Led} {x d : Addr} {D : Dat} (h : DcIn w news d [(Str.ofString "Type", .ref x)]) (hC : LeafC 2 32 w loose mean mg mb news x D) :
    Pure1 w loose mean mg mb 265 4 64 news [.ref d] (fun tl r => DatIn tl r (.tuple [.str (Str.ofString "dict"), .tuple [.str (Str.ofString "Type"), D]])) := by
  intro dp un gd cn cs a ccd cl outer A₀ base h₀ L m s Q E B F X N T hk hd hu hret
  obtain ⟨o, h1, h2, h3⟩ := h.ex
  refine wpAny_call ?_
  k_dflt k_enter
  k_steps
  refine' hret _ ?tl _ _ ?ha ?hb ?hF ?hc
  case hF => assumption
  case hc => exact fin_news (by assumption)
  case hb => exact fin_above (by assumption) (by assumption) (by assumption)
  case ha => exact DatIn.tuple (List.mem_append_right _ (.tail _ (.head _))) (.cons (.str _ _) (.cons (.tuple (List.mem_append_right _ (.head _)) (.cons (.str _ _) (.cons (DatIn.left (by assumption)) .nil))) .nil))
theorem fin0_news {h₀ h : Heap} {L : Addr} {R a b T c : Addr × Obj} {news : Led} (N : News h₀ L h (R :: a :: b :: T :: c :: news)) : News h₀ L h (news ++ [T]) := news_sub N fun q hq => by
  simp only [List.mem_cons, List.mem_append, List.not_mem_nil, or_false] at hq ⊢
  grind
theorem told_dict0 {w : World} {loose : List Str} {mean : ExcName → Option Value} {mg mb : Str → Option Value} {news : Led} {d : Addr} (h : DcIn w news d []) :
    Pure1 w loose mean mg mb 265 4 64 news [.ref d] (fun tl r => DatIn tl r (.tuple [.str (Str.ofString "dict")])) := by
  intro dp un gd cn cs a ccd cl outer A₀ base h₀ L m s Q E B F X N T hk hd hu hret
  obtain ⟨o, h1, h2, h3⟩ := h.ex
  refine wpAny_call ?_
  k_dflt k_enter
  k_steps
  refine' hret _ [_] _ _ ?ha ?hb ?hF ?hc
  case hF => assumption
  case hc => exact fin0_news (by assumption)
  case hb => exact above1 (by assumption)
  case ha => exact DatIn.tuple (.head _) (.cons (.str _ _) .nil)
end Mine
end

/-! Byt -/
section
open PySem PySem.W PyProof.Rows
set_option maxRecDepth 100000
set_option maxHeartbeats 8000000
namespace Mine
theorem bb_has : typeLookup (.type "bytes") "__bytes__" = pure (some (.builtin "bytes.__bytes__")) := by rw [typeLookup_type, builtinLookup_eq_fast]; kernel_rfl
section
variable {prog : Program} {w : World} {A : Around} {E : Value → Shared → Prop} {s : Shared}
theorem bb_new {b : Array UInt8} {t : Tok} {Q : Value → Shared → Prop} (hQ : Q (.bytes b t) s) :
    codeAny (model prog w) A (.call (.builtin "bytes.__new__") ⟨[.type "bytes", .bytes b t], []⟩) (PySem.wants Q E) s := by
  refine codeAny_of_tree ?_
  show wpAny _ A.in1 (do checkBuiltinCall "bytes.__new__" ⟨[.type "bytes", .bytes b t], []⟩; again (.builtin "bytes.__new__" ⟨[.type "bytes", .bytes b t], []⟩)) _ _ s
  refine wpAny_bind (wpAny_of_eq (F.bm_newCall _) (wpAny_pure ⟨plainId_quiet F.bm_plain _, codeAny_builtin F.bm_entry ?_⟩))
  rw [Around.under_plainId F.bm_plain _]
  have hT : s.TypeIs (.bytes b t) "bytes" := PySem.W.typeIs_bytes _ _ _
  unfold Builtin.«bytes.__new__»
  refine wpAny_bind (wpAny_of_eq (a := true) rfl ?_)
  refine bm_if_false rfl ?_
  refine wpAny_bind (wpAny_of_eq F.bm_sub ?_)
  refine bm_if_false rfl ?_
  refine wpAny_bind (wpAny_of_eq (F.bm_bind _) ?_)
  refine wpAny_bind (wpAny_of_eq (a := ()) rfl ?_)
  refine wpAny_bind (wpAny_of_eq (a := ()) rfl ?_)
  refine bm_if_false rfl ?_
  refine wpAny_bind (wpAny_specialOf hT bb_has ?_)
  dsimp only
  refine wpAny_bind (wpAny_rule ?_)
  refine wpAny_bind (wpAny_of_eq (a := Value.type "bytes") rfl ?_)
  refine bm_if_true (by decide) ?_
  show wpAny _ _ (if (Value.type "bytes" == Value.type "bytes") = true then _ else _) _ _ _
  refine bm_if_true (by decide) ?_
  first
    | exact wpAny_pure hQ
    | exact wpAny_bind (wpAny_pure (wpAny_pure hQ))
theorem bytes_of_bytes {b : Array UInt8} {t : Tok} {Q : Value → Shared → Prop} (hQ : Q (.bytes b t) s) : wpAny (model prog w) A (call (.type "bytes") [.bytes b t]) Q E s := by
  refine callType_codes (Q₁ := fun obj s₁ => s₁.TypeIs obj "bytes" ∧ Q obj s₁) F.bm_called (F.bm_typeCall _) F.entry_object_init (bb_new ⟨PySem.W.typeIs_bytes _ _ _, hQ⟩) fun obj s₁ h₁ => ?_
  exact ⟨h₁.1, F.args_object_init_2 obj _, object_init_meets F.bm_called.init.lookup F.bm_called.made (by decide) prog w A.in1 _ s₁ ⟨h₁.1, rfl, h₁.2⟩⟩
end
end Mine
end

/-! Told3 -/
section
open PySem PySem.W PyProof.Rows
set_option maxRecDepth 100000
set_option maxHeartbeats 8000000
namespace Mine
theorem fill_frag6 : PySem.Challenge.rw_og0166_01 = PySem.Challenge.rw_og0166_01 ∧ hd.heap_1 = hd.heap_1 := by
  w_top off
  k_fill
  exact ⟨rfl, rfl⟩
local macro_rules | `(tactic| k_all) => `(tactic| with_reducible assumption)
local macro_rules | `(tactic| k_mem) => `(tactic| first | assumption | exact List.Mem.head _ | (refine' List.Mem.tail _ ?_; k_mem) | (refine List.mem_append_left _ ?_; k_mem))
local macro_rules | `(tactic| k_ne) => `(tactic| with_reducible assumption)
local macro_rules | `(tactic| k_room) => `(tactic| ktr_room)
local macro_rules | `(tactic| k_units) => `(tactic| ktr_units)
local macro_rules | `(tactic| kit_at) => `(tactic| (refine' kitAt_N ?N ?m ?c; (case N => k_asm); (case m => k_mem); (case c => exact isDict_cls (by assumption))))

local macro_rules | `(tactic| walk_at "call ref") => `(tactic| (k_here; (with_reducible show wpAny _ _ (call (Value.ref 253) [_]) _ _ _); k_dflt (refine' pure1_use ?C ?B ?F ?X ?N ?T ?K ?dp ?un ?_; (case B => k_asm); (case F => k_asm); (case X => k_asm); (case N => k_asm); (case T => k_asm); (case K => first | exact rfl | assumption); (case C => first | exact kind_int | exact kind_name (by k_mem) (by k_mem) | exact kind_dict (by k_mem) (by assumption) | exact kind_strm (by k_mem) (by k_mem) | exact kind_ref (by k_mem) (by k_mem)); (case dp => ktr_room); (case un => ktr_units); k_whole); intro r9 tl9 h9 tk9 hR9 hA9 F9 N9; (obtain ⟨e9, t9, e9'⟩ := hR9); subst e9; subst e9'; (try simp only [List.append_nil, List.cons_append] at N9); (try dsimp only); (try k_fold)))

local macro_rules | `(tactic| k_enter) => `(tactic| (refine' code_defC ?k1 ?k2 ?k3 ?k4 ?k5 ?kA ?kF ?kK ?k6 ?k7 ?k8 ?k9 ?kB ?kD ?_ ?c2 ?c3 ?c4; (case kA => exact rfl); (case kF => exact rfl); (case kK => assumption); (case k1 => k_asm); (case k2 => k_asm); (case k3 => k_asm); (case k4 => k_asm); (case k5 => k_asm); (case k6 => k_is); (case k7 => k_is); (case k8 => ktr_room); (case k9 => exact BindsTo.of_eq rfl); (case kB => exact rfl); (case kD => decide +kernel); (case c2 => exact rfl); (case c3 => exact rfl); (case c4 => exact rfl); k_whole; intro g' L' h' tk' cells' FG' F' N' Y' B' X' T' l1; (try k_lt l1); k_cells Y'; (try simp only [List.cons_append, List.nil_append] at N'); (try dsimp only); (try k_lift B'); (try k_fold)))
local macro_rules | `(tactic| walk_at "call ref") => `(tactic| (k_here; (with_reducible show wpAny _ _ (call (Value.ref 265) [_]) _ _ _); k_dflt (refine' pure1_use ?C ?B ?F ?X ?N ?T ?K ?dp ?un ?_; (case B => k_asm); (case F => k_asm); (case X => k_asm); (case N => k_asm); (case T => k_asm); (case K => first | exact rfl | assumption); (case C => first | (refine LeafC.use (by assumption) ?_; (intro q9 h9; repeat (first | exact h9 | refine List.mem_cons_of_mem _ ?_ | refine List.mem_append_left _ ?_))) | exact told_int); (case dp => ktr_room); (case un => ktr_units); k_whole); intro r9 tl9 h9 tk9 hR9 hA9 F9 N9; (try simp only [List.append_nil, List.cons_append] at N9); (try dsimp only); (try k_fold)))
local macro_rules | `(tactic| walk_at "call builtin:sorted") => `(tactic| (k_here; (with_reducible show wpAny _ _ (call (Value.builtin "sorted") [Value.ref _]) _ _ _); k_dflt (refine' sorted_sdict ?hh ?F ?N ?m ?hd ?lo ?n ?_; (case hh => rfl); (case F => k_asm); (case N => k_asm); (case m => k_mem); (case hd => assumption); (case lo => assumption); (case n => exact Nat.le_of_ble_eq_true rfl); k_whole); intro B' vs' ss' e' h' tk' a' p' b' F' N' l1; (first | (have z' := sort0 a' p'; subst z') | (obtain ⟨t', z'⟩ := sort1 a' p'; subst z') | (obtain ⟨t', u', z'⟩ := sort2 (by rfl) a' p' b'; subst z')); (clear a' p' b'); (try k_lt l1)))
local macro_rules | `(tactic| walk_at "subscriptTail") => `(tactic| (k_here; (with_reducible show wpAny _ _ (subscriptTail _ _ (Value.ref _) (Value.str _ _)) _ _ _); k_dflt (refine' item_sdict ?N ?m ?hd ?hv ?_; (case N => k_asm); (case m => k_mem); (case hd => assumption); (case hv => rfl); k_whole)))
local macro_rules | `(tactic| walk_at "CompEnd") => `(tactic| (k_dflt (refine' compEnd_tl ?F ?N ?T ?A ?L ?O ?S ?_; (case F => k_asm); (case N => k_asm); (case T => assumption); (case A => assumption); (case L => exact rfl); (case O => assumption); (case S => exact Or.inr ⟨_, by k_mem, rfl, _, rfl⟩)); (try simp only [List.nil_append, List.cons_append])))
theorem fin2_news {h₀ h : Heap} {L : Addr} {R T S a b c d e : Addr × Obj} {news tl tl' : Led} (N : News h₀ L h (R :: a :: b :: S :: T :: c :: d :: e :: (news ++ tl ++ tl'))) : News h₀ L h (news ++ (tl ++ tl' ++ [T, S, R])) := news_sub N fun q hq => by
  simp only [List.mem_cons, List.mem_append, List.not_mem_nil, or_false] at hq ⊢
  grind
theorem fin2_above {R T S : Addr × Obj} {news tl tl' : Led} {p1 p2 p3 p4 p5 p6 p7 q1 q2 q3 q4 q5 q6 q7 r1 r2 r3 r4 r5 r6 : Prop} {i j k c d e i' j' k' t' c' d' e' : Addr × Obj}
    (hR : p1 ∧ p2 ∧ p3 ∧ p4 ∧ p5 ∧ p6 ∧ p7 ∧ AllLt R.1 (news ++ tl ++ tl')) (hS : q1 ∧ q2 ∧ q3 ∧ q4 ∧ q5 ∧ q6 ∧ q7 ∧ AllLt S.1 (news ++ tl ++ tl')) (hT : r1 ∧ r2 ∧ r3 ∧ r4 ∧ r5 ∧ r6 ∧ AllLt T.1 (news ++ tl))
    (hA : Above tl (i :: j :: k :: c :: d :: e :: news)) (hB : Above tl' (i' :: j' :: k' :: t' :: c' :: d' :: e' :: (news ++ tl))) : Above (tl ++ tl' ++ [T, S, R]) news := fun q hq => by
  simp only [List.mem_append, List.mem_cons, List.not_mem_nil, or_false] at hq
  rcases hq with (hq | hq) | rfl | rfl | rfl
  · exact (hA q hq).2.2.2.2.2.2
  · exact allLt_left (hB q hq).2.2.2.2.2.2.2
  · exact allLt_left hT.2.2.2.2.2.2
  · exact allLt_left (allLt_left hS.2.2.2.2.2.2.2)
  · exact allLt_left (allLt_left hR.2.2.2.2.2.2.2)
theorem DatIn.right {l l' : Led} {v : Value} {D : Dat} (h : DatIn l' v D) : DatIn (l ++ l') v D := h.mono fun _ hq => List.mem_append_right _ hq
theorem told_dict2 {w : World} {loose : List Str} {mean : ExcName → Option Value} {mg mb : Str → Option Value} {news : Led} {x d : Addr} {k : Int} {t : Tok} {D : Dat} (h : DcIn w news d [(Str.ofString "Type", .ref x), (Str.ofString "K", .int k t)]) (hC : LeafC 2 32 w loose mean mg mb news x D) :
    Pure1 w loose mean mg mb 265 4 64 news [.ref d] (fun tl r => DatIn tl r (.tuple [.str (Str.ofString "dict"), .tuple [.str (Str.ofString "K"), .tuple [.str (Str.ofString "int"), .int k]], .tuple [.str (Str.ofString "Type"), D]])) := by
  intro dp un gd cn cs a ccd cl outer A₀ base h₀ L m s Q E B F X N T hk hd hu hret
  obtain ⟨o, h1, h2, h3⟩ := h.ex
  refine wpAny_call ?_
  k_dflt k_enter
  k_steps
  refine' hret _ ?tl _ _ ?ha ?hb ?hF ?hc
  case hF => assumption
  case hc => exact fin2_news (by assumption)
  case hb => exact fin2_above (by assumption) (by assumption) (by assumption) (by assumption) (by assumption)
  case ha => exact DatIn.tuple (List.mem_append_right _ (.tail _ (.tail _ (.head _)))) (.cons (.str _ _) (.cons (.tuple (List.mem_append_right _ (.head _)) (.cons (.str _ _) (.cons (DatIn.left (DatIn.left (by assumption))) .nil))) (.cons (.tuple (List.mem_append_right _ (.tail _ (.head _))) (.cons (.str _ _) (.cons (DatIn.left (DatIn.right (by assumption))) .nil))) .nil)))
local macro_rules | `(tactic| walk_at "call type:bytes") => `(tactic| (k_here; (with_reducible show wpAny _ _ (call (Value.type _) [Value.bytes _ _]) _ _ _); k_dflt (refine bytes_of_bytes ?_)))
theorem fin3_news {h₀ h : Heap} {L : Addr} {R a : Addr × Obj} {news tl : Led} (N : News h₀ L h (R :: a :: (news ++ tl))) : News h₀ L h (news ++ (tl ++ [R])) := news_sub N fun q hq => by
  simp only [List.mem_cons, List.mem_append, List.not_mem_nil, or_false] at hq ⊢
  grind
theorem fin3_above {R : Addr × Obj} {news tl : Led} {p1 : Prop} {a : Addr × Obj} (hR : p1 ∧ AllLt R.1 (news ++ tl)) (hA : Above tl (a :: news)) : Above (tl ++ [R]) news := fun q hq => by
  rcases List.mem_append.mp hq with hq | hq
  · exact (hA q hq).2
  · rw [List.mem_singleton.mp hq]
    exact allLt_left hR.2
theorem leaf_name {w : World} {loose : List Str} {mean : ExcName → Option Value} {mg mb : Str → Option Value} {news : Led} {x : Addr} {y : Str} (h : NmIn w news x y) : LeafC 2 32 w loose mean mg mb news x (.tuple [.str (Str.ofString "name"), .str y]) := fun _ hs => told_name (h.mono hs)
theorem leaf_ref {w : World} {loose : List Str} {mean : ExcName → Option Value} {mg mb : Str → Option Value} {news : Led} {x : Addr} {i g : Int} (h : RefIn w news x i g) : LeafC 2 32 w loose mean mg mb news x (.tuple [.str (Str.ofString "ref"), .int i, .int g]) := fun _ hs => told_ref (h.mono hs)
theorem leaf_dict {w : World} {loose : List Str} {mean : ExcName → Option Value} {mg mb : Str → Option Value} {news : Led} {d x : Addr} {D : Dat} (h : DcIn w news d [(Str.ofString "Type", .ref x)]) (hC : LeafC 2 32 w loose mean mg mb news x D) :
    LeafC 4 64 w loose mean mg mb news d (.tuple [.str (Str.ofString "dict"), .tuple [.str (Str.ofString "Type"), D]]) := fun _ hs => told_dict1 (h.mono hs) fun _ hs' => hC _ fun q hq => hs' q (hs q hq)
theorem told_strm {w : World} {loose : List Str} {mean : ExcName → Option Value} {mg mb : Str → Option Value} {news : Led} {x d : Addr} {D : Dat} (h : StIn w news x d) (hC : LeafC 4 64 w loose mean mg mb news d D) :
    Pure1 w loose mean mg mb 265 6 96 news [.ref x] (fun tl r => DatIn tl r (.tuple [.str (Str.ofString "stream"), D, .bytes #[]])) := by
  intro dp un gd cn cs a ccd cl outer A₀ base h₀ L m s Q E B F X N T hk hd hu hret
  obtain ⟨e, t, t', t'', h1, h2⟩ := h.ex
  refine wpAny_call ?_
  k_dflt k_enter
  k_steps
  refine' hret _ ?tl _ _ ?ha ?hb ?hF ?hc
  case hF => assumption
  case hc => exact fin3_news (by assumption)
  case hb => exact fin3_above (by assumption) (by assumption)
  case ha => exact DatIn.tuple (List.mem_append_right _ (.head _)) (.cons (.str _ _) (.cons (DatIn.left (by assumption)) (.cons (.bytes _ _) .nil)))

/-- the datum that told makes of an object -/
def TD : VK → Dat
  | .cat k => .tuple [.str (Str.ofString "dict"), .tuple [.str (Str.ofString "K"), .tuple [.str (Str.ofString "int"), .int k]], .tuple [.str (Str.ofString "Type"), .tuple [.str (Str.ofString "name"), .str (Str.ofString "Catalog")]]]
  | .ref9 => .tuple [.str (Str.ofString "dict"), .tuple [.str (Str.ofString "Type"), .tuple [.str (Str.ofString "ref"), .int 9, .int 0]]]
  | .int3 => .tuple [.str (Str.ofString "int"), .int 3]
  | .pages => .tuple [.str (Str.ofString "dict"), .tuple [.str (Str.ofString "Type"), .tuple [.str (Str.ofString "name"), .str (Str.ofString "Pages")]]]
  | .strm => .tuple [.str (Str.ofString "stream"), .tuple [.str (Str.ofString "dict"), .tuple [.str (Str.ofString "Type"), .tuple [.str (Str.ofString "name"), .str (Str.ofString "Catalog")]]], .bytes #[]]
  | .empty => .tuple [.str (Str.ofString "dict")]
  | .nam => .tuple [.str (Str.ofString "name"), .str (Str.ofString "Catalog")]
theorem Pure1.weak {w : World} {loose : List Str} {mean : ExcName → Option Value} {mg mb : Str → Option Value} {f : Addr} {n u n' u' : Nat} {news : Led} {vs : List Value} {R : Led → Value → Prop} (h : Pure1 w loose mean mg mb f n u news vs R) (hn : n ≤ n') (hu : u ≤ u') : Pure1 w loose mean mg mb f n' u' news vs R :=
  fun _ _ _ _ _ _ _ _ _ _ _ _ _ _ _ _ _ B F X N T hk hd hun ret => h _ _ _ _ _ _ _ _ _ _ _ _ _ _ _ _ _ B F X N T hk (Nat.lt_of_le_of_lt (Nat.add_le_add_left hn _) hd) (Nat.lt_of_le_of_lt (Nat.add_le_add_left hu _) hun) ret
theorem told_val {w : World} {loose : List Str} {mean : ExcName → Option Value} {mg mb : Str → Option Value} {news : Led} {v : Value} {k : VK} (h : VIn w news v k) :
    Pure1 w loose mean mg mb 265 6 96 news [v] (fun tl r => DatIn tl r (TD k)) := by
  cases h with
  | cat a b => exact (told_dict2 a (leaf_name b)).weak (by decide) (by decide)
  | ref9 a b => exact (told_dict1 a (leaf_ref b)).weak (by decide) (by decide)
  | int3 => exact told_int.weak (by decide) (by decide)
  | pages a b => exact (told_dict1 a (leaf_name b)).weak (by decide) (by decide)
  | strm a b c => exact told_strm a (leaf_dict b (leaf_name c))
  | empty a => exact (told_dict0 a).weak (by decide) (by decide)
  | nam a => exact (told_name a).weak (by decide) (by decide)
end Mine
end

/-! Loops -/
section
open PySem PySem.W PyProof.Rows
set_option maxRecDepth 100000
set_option maxHeartbeats 8000000
namespace Mine
def Halt (P : Prop) : Prop := P
theorem Halt.out {P : Prop} (h : Halt P) : P := h
def rangeItms : Int → Nat → List Itm
  | _, 0 => []
  | a, n + 1 => .tok (fun t => .int a t) :: rangeItms (a + 1) n
theorem rangeItms_length : ∀ (n : Nat) (a : Int), (rangeItms a n).length = n
  | 0, _ => rfl
  | n + 1, a => congrArg (· + 1) (rangeItms_length n (a + 1))
theorem rangeItms_get : ∀ (n : Nat) (a : Int) (i : Nat), i < n → (rangeItms a n)[i]? = some (.tok (fun t => .int (a + i) t))
  | 0, _, _, h => absurd h (Nat.not_lt_zero _)
  | n + 1, a, 0, _ => by simp [rangeItms]
  | n + 1, a, i + 1, h => by
    have := rangeItms_get n (a + 1) i (Nat.lt_of_succ_lt_succ h)
    have e : a + 1 + (i : Int) = a + ((i + 1 : Nat) : Int) := by omega
    rw [e] at this
    simpa [rangeItms] using this
section
variable {prog : Program} {w : World} {A : Around} {E : Value → Shared → Prop} {s : Shared} {env : Env} {h₀ : Heap} {x : Str} {px : Pos} {body : List Stmt} {Q : Flow → Shared → Prop}
theorem iter_rangeTurns {r : Addr} {a b : Int} {t u v : Tok} {n : Nat} {m₀ : Str → Option Value} {news : Led}
    (hh : A.handled = none) (hr : IsRange s.heap r a b 1 t u v) (hsm : Builtin.Range.small a b 1 = true) (hn : Builtin.Range.rangeSize a b 1 = (n : Int)) (F : Fr h₀ env.locals s.heap m₀) (N : News h₀ env.locals s.heap news)
    (rest₀ : ∀ I : Addr, (∀ p ∈ news, p.1 < I) → ItemsRest prog w A E h₀ env (.Name x px) body Q s [(I, "range_iterator")] [] (rangeItms a n) m₀ news) :
    wpAny (model prog w) A (pyIter (.ref r)) (fun it s₂ => TurnsAt prog w A h₀ env (.Name x px) body Q E it s₂) E s := by
  refine wpAny_pyIter_range hr hsm ?_
  have W : Walks prog w A s.heap.objs.size [s.heap.objs.size] [s.heap.objs.size] n (fun i v => i < n ∧ ∃ t, v = .int (a + i * 1) t)
      (fun i h => IsRangeIter h s.heap.objs.size (a + (i : Nat) * 1) ((n : Int) - (i : Nat)) 1) := (Walks.range hh _ a 1 n).bound
  refine ktu_core (tk0 := s.toks) (keep := []) (ws := [(s.heap.objs.size, "range_iterator")]) (KTurns.ofWalks W fun i v s Q E st q => ?_) (rangeItms_length n a).symm (fun i v h hp => ?_) (fun i h st => ?_) (fun b hb => ?_) (fun b hb => by simpa using hb) (fun b hb => ?_) ?_ (fun p hp hI => ?_) ?_ (F.push _) (fun p hp => ⟨Heap.get?_push_of_some _ (N p hp).1, (N p hp).2⟩) trivial (rest₀ _ fun p hp => Heap.lt_size (N p hp).1)
  · exact wpAny_pure q
  · obtain ⟨hi, t, rfl⟩ := hp
    exact ⟨_, rangeItms_get n a i hi, t, by rw [Int.mul_one]⟩
  · exact ⟨[(s.heap.objs.size, _)], ⟨⟨rfl, rfl⟩, trivial⟩, fun p hp => by rw [List.mem_singleton.mp hp]; exact st⟩
  · have hb' : b = s.heap.objs.size := by simpa using hb
    rw [hb']
    exact ⟨List.mem_cons_self .., next_is_new F⟩
  · have hb' : b = s.heap.objs.size := by simpa using hb
    exact .inl (by simp [hb'])
  · intro hI
    exact absurd F.ns.lt ((List.mem_singleton.mp hI) ▸ Nat.lt_irrefl _)
  · exact absurd (Heap.lt_size (N p hp).1) ((List.mem_singleton.mp hI) ▸ Nat.lt_irrefl _)
  · show IsRangeIter _ _ _ _ _
    rw [hn]
    simpa using Heap.get?_push_size _ rfl

theorem items_ind {target : Expr} {ws : List (Addr × String)} {keep : Led} (Inv : List Itm → (Str → Option Value) → Led → Prop)
    (step : ∀ a r m news, Inv (a :: r) m news → ∀ v h tk, a.Is v h → Fr h₀ env.locals h m → AllObj ws (fun its => News h₀ env.locals h (its ++ news) →
      wpAny (model prog w) A (assign target env v) (fun _ s₂ => wpAny (model prog w) A (execs body env) (UnrPostW h₀ env.locals { s with heap := h, toks := tk } its (fun m' n' => SubL keep n' ∧ Inv r m' n') Q) E s₂) E { s with heap := h, toks := tk }))
    (done : ∀ m news, Inv [] m news → ∀ h tk, Fr h₀ env.locals h m → News h₀ env.locals h news → Q .next { s with heap := h, toks := tk }) :
    ∀ xs m news, Inv xs m news → ItemsRest prog w A E h₀ env target body Q s ws keep xs m news
  | [], m, news, h0 => ItemsRest.zero (done m news h0)
  | a :: r, m, news, h0 => by
    intro v h tk ha F
    have hs := step a r m news h0 v h tk ha F
    have ih := items_ind Inv step done r
    clear step done h0 ha F
    revert hs
    generalize hg : (fun its => News h₀ env.locals h (its ++ news) → wpAny (model prog w) A (assign target env v) (fun _ s₂ => wpAny (model prog w) A (execs body env) (UnrPostW h₀ env.locals { s with heap := h, toks := tk } its (fun m' n' => SubL keep n' ∧ Inv r m' n') Q) E s₂) E { s with heap := h, toks := tk }) = f
    intro hs
    have key : ∀ its, f its → (News h₀ env.locals h (its ++ news) → wpAny (model prog w) A (assign target env v) (fun _ s₂ => wpAny (model prog w) A (execs body env) (UnrPostW h₀ env.locals { s with heap := h, toks := tk } its (fun m' n' => SubL keep n' ∧ ItemsRest prog w A E h₀ env target body Q s ws keep r m' n') Q) E s₂) E { s with heap := h, toks := tk }) := by
      intro its hf N
      rw [← hg] at hf
      refine wpAny_mono (hf N) (fun _ s₂ h₂ => wpAny_mono h₂ (fun fl s₃ p => ?_) fun _ _ e => e) fun _ _ e => e
      have up : UnrEndW h₀ env.locals { s with heap := h, toks := tk } its (fun m' n' => SubL keep n' ∧ Inv r m' n') s₃ → UnrEndW h₀ env.locals { s with heap := h, toks := tk } its (fun m' n' => SubL keep n' ∧ ItemsRest prog w A E h₀ env target body Q s ws keep r m' n') s₃ := by
        rintro ⟨h', tk', m', news', e, F', N', ho, hk, hi⟩
        exact ⟨h', tk', m', news', e, F', N', ho, hk, ih _ _ hi⟩
      cases fl with
      | ret v => exact p
      | brk => exact p
      | next => exact up p
      | cont => exact up p
    clear hg ih
    have all : ∀ (ws : List (Addr × String)) (f f' : Led → Prop), (∀ its, f its → f' its) → AllObj ws f → AllObj ws f' := by
      intro ws
      induction ws with
      | nil => intro f f' hi h; exact hi _ h
      | cons w ws ih => intro f f' hi h o ho; exact ih _ _ (fun its => hi _) (h o ho)
    exact all ws _ _ key hs
theorem unrEnd1 {L I : Addr} {oI : Obj} {s₁ : Shared} {rest : (Str → Option Value) → Led → Prop} {h' : Heap} {tk : Nat} {m' : Str → Option Value} {news' : Led} (F : Fr h₀ L h' m') (N : News h₀ L h' ((I, oI) :: news')) (off : ∀ q ∈ news', q.1 ≠ I) (r : rest m' news') :
    UnrEndW h₀ L s₁ [(I, oI)] rest { s₁ with heap := h', toks := tk } :=
  ⟨h', tk, m', news', rfl, F, N, fun p hp q hq => by rw [List.mem_singleton.mp hq]; exact off p hp, r⟩
theorem unrEnd2 {L I J : Addr} {oI oJ : Obj} {s₁ : Shared} {rest : (Str → Option Value) → Led → Prop} {h' : Heap} {tk : Nat} {m' : Str → Option Value} {news' : Led} (F : Fr h₀ L h' m') (N : News h₀ L h' ((J, oJ) :: (I, oI) :: news')) (off : ∀ q ∈ news', q.1 ≠ I) (off' : ∀ q ∈ news', q.1 ≠ J) (r : rest m' news') :
    UnrEndW h₀ L s₁ [(J, oJ), (I, oI)] rest { s₁ with heap := h', toks := tk } :=
  ⟨h', tk, m', news', rfl, F, N, fun p hp q hq => by
    rcases List.mem_cons.mp hq with rfl | hq
    · exact off' p hp
    · rw [List.mem_singleton.mp hq]; exact off p hp, r⟩
theorem news_sub' {h : Heap} {L : Addr} {l l' : Led} (N : News h₀ L h l) (hs : ∀ q ∈ l', q ∈ l) : News h₀ L h l' := fun q hq => N q (hs q hq)
end
end Mine
end

/-! IsT -/
section
open PySem PySem.W PyProof.Rows
set_option maxRecDepth 100000
set_option maxHeartbeats 8000000
namespace Mine
theorem fill_frag7 : PySem.Challenge.rw_og0166_01 = PySem.Challenge.rw_og0166_01 ∧ hd.heap_1 = hd.heap_1 := by
  w_top off
  k_fill
  exact ⟨rfl, rfl⟩
local macro_rules | `(tactic| k_all) => `(tactic| with_reducible assumption)
local macro_rules | `(tactic| k_mem) => `(tactic| first | assumption | exact List.Mem.head _ | (refine' List.Mem.tail _ ?_; k_mem) | (refine List.mem_append_left _ ?_; k_mem))
local macro_rules | `(tactic| k_ne) => `(tactic| with_reducible assumption)
local macro_rules | `(tactic| k_room) => `(tactic| ktr_room)
local macro_rules | `(tactic| k_units) => `(tactic| ktr_units)
local macro_rules | `(tactic| kit_at) => `(tactic| (refine' kitAt_N ?N ?m ?c; (case N => k_asm); (case m => k_mem); (case c => exact isDict_cls (by assumption))))
/-- the shelf sh with the table T -/
structure ShIn (w : World) (l : Led) (sh T : Addr) : Prop where
  ex : ∃ (d tr : Addr) (t t' : Tok), (sh, instObj 351 d) ∈ l ∧ (d, dictOf [⟨PyData.keyHash w.params (Str.ofString "table"), .str (Str.ofString "table") t, .ref T⟩, ⟨PyData.keyHash w.params (Str.ofString "trailer"), .str (Str.ofString "trailer") t', .ref tr⟩] 2) ∈ l
local macro_rules | `(tactic| walk_at "getMethod ref") => `(tactic| (k_here; (with_reducible show wpAny _ _ (getMethod (Value.ref _) (Str.ofString "get") _) _ _ _); k_dflt (first
  | (refine' kdg_method (knd := PySem.strKind _ _) ?N ?m ?d ?_; (case N => k_asm); (case m => k_mem); (case d => assumption))
  | (refine' kdg_method (knd := PySem.intKind _ _) ?N ?m ?d ?_; (case N => k_asm); (case m => k_mem); (case d => assumption)))))
local macro_rules | `(tactic| walk_at "call builtin:dict.get") => `(tactic| (k_here; k_dflt (first
  | (refine' kdg_get1 (knd := PySem.strKind _ _) ?N ?m ?d ?lo (strKind_is _ _ _ _) _ ?v ?_; (case N => k_asm); (case m => k_mem); (case d => assumption); (case lo => assumption); (case v => assumption))
  | (refine' kdg_get2 (knd := PySem.intKind _ _) ?N ?m ?d ?lo (intKind_is _ _ _ _) _ ?v ?_; (case N => k_asm); (case m => k_mem); (case d => assumption); (case lo => assumption); (case v => assumption))); (try dsimp only [Option.getD])))
local macro_rules | `(tactic| walk_at "exec For Name Call cons nil") => `(tactic| (k_here; (rename Fr _ _ _ _ => lF'); (with_unfolding_all refine' For_turns lF' ?_; k_whole)))
local macro_rules | `(tactic| walk_at "pyIter ref") => `(tactic| (k_here; (with_reducible show wpAny _ _ (pyIter (Value.ref _)) (fun it s₂ => TurnsAt _ _ _ _ _ _ _ _ _ it s₂) _ _); (rename Fr _ _ _ _ => lF'); (rename News _ _ _ _ => lN'); (rename IsRange _ _ _ _ _ _ _ _ => rgX); (with_unfolding_all refine' iter_rangeTurns (n := 30) (by rfl) rgX (by decide) (by rfl) lF' lN' ?_); (clear lF' lN'); intro i' l1))
theorem ist_none {w : World} {loose : List Str} {mean : ExcName → Option Value} {mg mb : Str → Option Value} {news : Led} {sh T d : Addr} {t : Tok} {o : Obj} {kvs : List (Str × Value)} (hS : ShIn w news sh T)
    (h1 : (d, o) ∈ news) (h2 : Obj.IsDictOf (PySem.strKind PG w) o kvs) (h3 : (d == sysModules) = false) (hv : valueAt kvs (Str.ofString "Type") = none) :
    Pure1 w loose mean mg mb 395 6 96 news [.ref sh, .ref d, .str (Str.ofString "Catalog") t] (fun tl r => tl = [] ∧ r = .bool false) := by
  intro dp un gd cn cs a ccd cl outer A₀ base h₀ L m s Q E B F X N T hk hd hu hret
  obtain ⟨sd, tr, u, u', s1, s2⟩ := hS.ex
  refine wpAny_call ?_
  k_dflt cell_enter
  k_steps
  all_goals exact hret _ [] _ _ ⟨rfl, rfl⟩ (fun _ h => nomatch h) (by assumption) (by rw [List.append_nil]; first | assumption | exact news_sub' (by assumption) (by intro q hq; repeat (first | exact hq | refine List.mem_cons_of_mem _ ?_)))
theorem ist_name {w : World} {loose : List Str} {mean : ExcName → Option Value} {mg mb : Str → Option Value} {news : Led} {sh T d : Addr} {t : Tok} {o : Obj} {kvs : List (Str × Value)} (hS : ShIn w news sh T)
    (h1 : (d, o) ∈ news) (h2 : Obj.IsDictOf (PySem.strKind PG w) o kvs) (h3 : (d == sysModules) = false) {x : Addr} {y : Str} (hN : NmIn w news x y) (hv : valueAt kvs (Str.ofString "Type") = some (.ref x)) :
    Pure1 w loose mean mg mb 395 6 96 news [.ref sh, .ref d, .str (Str.ofString "Catalog") t] (fun tl r => tl = [] ∧ r = .bool (y == Str.ofString "Catalog")) := by
  intro dp un gd cn cs a ccd cl outer A₀ base h₀ L m s Q E B F X N T hk hd hu hret
  obtain ⟨sd, tr, u, u', s1, s2⟩ := hS.ex
  obtain ⟨xd, x1, x2, n1, n2⟩ := hN.ex
  refine wpAny_call ?_
  k_dflt cell_enter
  k_steps
  all_goals exact hret _ [] _ _ ⟨rfl, rfl⟩ (fun _ h => nomatch h) (by assumption) (by rw [List.append_nil]; first | assumption | exact news_sub' (by assumption) (by intro q hq; repeat (first | exact hq | refine List.mem_cons_of_mem _ ?_)))
theorem ist_ref_name {w : World} {loose : List Str} {mean : ExcName → Option Value} {mg mb : Str → Option Value} {news : Led} {sh T d : Addr} {t : Tok} {o : Obj} {kvs : List (Str × Value)} (hS : ShIn w news sh T)
    (h1 : (d, o) ∈ news) (h2 : Obj.IsDictOf (PySem.strKind PG w) o kvs) (h3 : (d == sysModules) = false) {x y : Addr} {z : Str} {tp : Addr} {tt : Tok} {nt : Nat} {oT : Obj} {tkvs : List (Int × Value)} (hN : RefIn w news x 9 0) (t1 : (T, oT) ∈ news) (t2 : oT.IsDictOf (PySem.intKind PG w) tkvs) (t3 : (T == sysModules) = false) (t4 : valueAt tkvs 9 = some (.ref tp)) (t5 : (tp, ({ cls := .type "tuple", data := .seq [.int 0 tt, .ref y].toArray nt } : Obj)) ∈ news) (hY : NmIn w news y z) (hv : valueAt kvs (Str.ofString "Type") = some (.ref x)) :
    Pure1 w loose mean mg mb 395 6 96 news [.ref sh, .ref d, .str (Str.ofString "Catalog") t] (fun tl r => tl = [] ∧ r = .bool (z == Str.ofString "Catalog")) := by
  intro dp un gd cn cs a ccd cl outer A₀ base h₀ L m s Q E B F X N T hk hd hu hret
  obtain ⟨sd, tr, u, u', s1, s2⟩ := hS.ex
  obtain ⟨xd, x1, x2, x3, x4, n1, n2⟩ := hN.ex
  obtain ⟨yd, y1, y2, m1, m2⟩ := hY.ex
  refine wpAny_call ?_
  k_dflt cell_enter
  k_steps
  refine unrEnd1 (news' := news) (by assumption) (news_sub' (by assumption) (List.forall_mem_cons.mpr ⟨.tail _ (.head _), fun q hq => .tail _ (.tail _ hq)⟩)) (fun q hq => Nat.ne_of_lt ((by assumption : ∀ p ∈ news, p.1 < _) q hq)) ⟨trivial, ?_⟩
  k_steps
  all_goals exact hret _ [] _ _ ⟨rfl, rfl⟩ (fun _ h => nomatch h) (by assumption) (by rw [List.append_nil]; first | assumption | exact news_sub' (by assumption) (by intro q hq; repeat (first | exact hq | refine List.mem_cons_of_mem _ ?_)))
theorem ist_ref_int {w : World} {loose : List Str} {mean : ExcName → Option Value} {mg mb : Str → Option Value} {news : Led} {sh T d : Addr} {t : Tok} {o : Obj} {kvs : List (Str × Value)} (hS : ShIn w news sh T)
    (h1 : (d, o) ∈ news) (h2 : Obj.IsDictOf (PySem.strKind PG w) o kvs) (h3 : (d == sysModules) = false) {x : Addr} {t7 : Tok} {tp : Addr} {tt : Tok} {nt : Nat} {oT : Obj} {tkvs : List (Int × Value)} (hN : RefIn w news x 9 0) (t1 : (T, oT) ∈ news) (t2 : oT.IsDictOf (PySem.intKind PG w) tkvs) (t3 : (T == sysModules) = false) (t4 : valueAt tkvs 9 = some (.ref tp)) (t5 : (tp, ({ cls := .type "tuple", data := .seq [.int 0 tt, .int 7 t7].toArray nt } : Obj)) ∈ news) (hv : valueAt kvs (Str.ofString "Type") = some (.ref x)) :
    Pure1 w loose mean mg mb 395 6 96 news [.ref sh, .ref d, .str (Str.ofString "Catalog") t] (fun tl r => tl = [] ∧ r = .bool false) := by
  intro dp un gd cn cs a ccd cl outer A₀ base h₀ L m s Q E B F X N T hk hd hu hret
  obtain ⟨sd, tr, u, u', s1, s2⟩ := hS.ex
  obtain ⟨xd, x1, x2, x3, x4, n1, n2⟩ := hN.ex
  refine wpAny_call ?_
  k_dflt cell_enter
  k_steps
  refine unrEnd1 (news' := news) (by assumption) (news_sub' (by assumption) (List.forall_mem_cons.mpr ⟨.tail _ (.head _), fun q hq => .tail _ (.tail _ hq)⟩)) (fun q hq => Nat.ne_of_lt ((by assumption : ∀ p ∈ news, p.1 < _) q hq)) ⟨trivial, ?_⟩
  k_steps
  all_goals exact hret _ [] _ _ ⟨rfl, rfl⟩ (fun _ h => nomatch h) (by assumption) (by rw [List.append_nil]; first | assumption | exact news_sub' (by assumption) (by intro q hq; repeat (first | exact hq | refine List.mem_cons_of_mem _ ?_)))

inductive KN where
  | cat
  | nx
  | seven
  deriving DecidableEq
inductive KnV (w : World) (l : Led) : Value → KN → Prop
  | cat {y : Addr} : NmIn w l y (Str.ofString "Catalog") → KnV w l (.ref y) .cat
  | nx {y : Addr} : NmIn w l y (Str.ofString "X") → KnV w l (.ref y) .nx
  | seven {t : Tok} : KnV w l (.int 7 t) .seven
theorem KnV.mono {w : World} {l l' : Led} (hs : ∀ q ∈ l, q ∈ l') {v : Value} {k : KN} (h : KnV w l v k) : KnV w l' v k := by
  cases h with
  | cat a => exact .cat (a.mono hs)
  | nx a => exact .nx (a.mono hs)
  | seven => exact .seven
def isT : VK → KN → Bool
  | .cat _, _ => true
  | .ref9, k => k == .cat
  | _, _ => false
def isD : VK → Bool
  | .cat _ | .ref9 | .pages | .empty => true
  | _ => false
structure TbIn (w : World) (l : Led) (T : Addr) (kn : KN) : Prop where
  ex : ∃ (oT : Obj) (tkvs : List (Int × Value)) (tp : Addr) (tt : Tok) (nt : Nat) (kv : Value), (T, oT) ∈ l ∧ oT.IsDictOf (PySem.intKind PG w) tkvs ∧ (T == sysModules) = false ∧ valueAt tkvs 9 = some (.ref tp) ∧ (tp, ({ cls := .type "tuple", data := .seq [.int 0 tt, kv].toArray nt } : Obj)) ∈ l ∧ KnV w l kv kn
theorem is_type {w : World} {loose : List Str} {mean : ExcName → Option Value} {mg mb : Str → Option Value} {news : Led} {sh T : Addr} {t : Tok} {v : Value} {k : VK} {kn : KN} (hS : ShIn w news sh T) (hT : TbIn w news T kn) (hV : VIn w news v k) (hk : isD k = true) :
    Pure1 w loose mean mg mb 395 6 96 news [.ref sh, v, .str (Str.ofString "Catalog") t] (fun tl r => tl = [] ∧ r = .bool (isT k kn)) := by
  cases hV with
  | cat a b =>
    obtain ⟨o, h1, h2, h3⟩ := a.ex
    exact ist_name hS h1 h2 h3 b rfl
  | ref9 a b =>
    obtain ⟨o, h1, h2, h3⟩ := a.ex
    obtain ⟨oT, tkvs, tp, tt, nt, kv, e1, e2, e3, e4, e5, e6⟩ := hT.ex
    cases e6 with
    | cat y => exact ist_ref_name hS h1 h2 h3 b e1 e2 e3 e4 e5 y rfl
    | nx y => exact ist_ref_name hS h1 h2 h3 b e1 e2 e3 e4 e5 y rfl
    | seven => exact ist_ref_int hS h1 h2 h3 b e1 e2 e3 e4 e5 rfl
  | int3 => cases hk
  | pages a b =>
    obtain ⟨o, h1, h2, h3⟩ := a.ex
    exact ist_name hS h1 h2 h3 b rfl
  | strm => cases hk
  | empty a =>
    obtain ⟨o, h1, h2, h3⟩ := a.ex
    exact ist_none hS h1 h2 h3 rfl
  | nam => cases hk
end Mine
end

/-! RowsD -/
section
open PySem PySem.W PyProof.Rows
set_option maxRecDepth 100000
set_option maxHeartbeats 8000000
namespace Mine
structure Row where
  num : Int
  gen : Int
  k : VK
def Row.Ok (r : Row) : Prop := 0 ≤ r.num ∧ r.num < 4 ∧ 0 ≤ r.gen ∧ r.gen < 2 ∧ KOk r.k

section
variable (w : World) (l : Led)
/-- (generation, value) -/
structure TupIn (v : Value) (r : Row) : Prop where
  ex : ∃ (a : Addr) (n : Nat) (t : Tok) (vv : Value), v = .ref a ∧ (a, ({ cls := .type "tuple", data := .seq [.int r.gen t, vv].toArray n } : Obj)) ∈ l ∧ VIn w l vv r.k
/-- (number, generation, value) -/
structure RowIn (v : Value) (r : Row) : Prop where
  ex : ∃ (a : Addr) (n : Nat) (t u : Tok) (vv : Value), v = .ref a ∧ (a, ({ cls := .type "tuple", data := .seq [.int r.num t, .int r.gen u, vv].toArray n } : Obj)) ∈ l ∧ VIn w l vv r.k
/-- a Piece -/
structure PcIn (v : Value) (r : Row) : Prop where
  ex : ∃ (a d : Addr) (t1 t2 t3 t4 t5 u1 u2 u3 u4 : Tok) (b e : Int) (vv : Value), v = .ref a ∧ (a, instObj 377 d) ∈ l ∧
    (d, dictOf [⟨PyData.keyHash w.params (Str.ofString "number"), .str (Str.ofString "number") t1, .int r.num u1⟩, ⟨PyData.keyHash w.params (Str.ofString "generation"), .str (Str.ofString "generation") t2, .int r.gen u2⟩,
      ⟨PyData.keyHash w.params (Str.ofString "begun"), .str (Str.ofString "begun") t3, .int b u3⟩, ⟨PyData.keyHash w.params (Str.ofString "end"), .str (Str.ofString "end") t4, .int e u4⟩, ⟨PyData.keyHash w.params (Str.ofString "value"), .str (Str.ofString "value") t5, vv⟩] 5) ∈ l ∧ VIn w l vv r.k
end
section
variable {w : World} {l l' : Led} (hs : ∀ q ∈ l, q ∈ l')
include hs
theorem TupIn.mono {v : Value} {r : Row} (h : TupIn w l v r) : TupIn w l' v r := let ⟨a, n, t, vv, e, h1, h2⟩ := h.ex; ⟨⟨a, n, t, vv, e, hs _ h1, h2.mono hs⟩⟩
theorem RowIn.mono {v : Value} {r : Row} (h : RowIn w l v r) : RowIn w l' v r := let ⟨a, n, t, u, vv, e, h1, h2⟩ := h.ex; ⟨⟨a, n, t, u, vv, e, hs _ h1, h2.mono hs⟩⟩
theorem PcIn.mono {v : Value} {r : Row} (h : PcIn w l v r) : PcIn w l' v r := by
  obtain ⟨a, d, t1, t2, t3, t4, t5, u1, u2, u3, u4, b, e, vv, e1, h1, h2, h3⟩ := h.ex
  exact ⟨⟨a, d, t1, t2, t3, t4, t5, u1, u2, u3, u4, b, e, vv, e1, hs _ h1, hs _ h2, h3.mono hs⟩⟩
end
/-- item by item -/
inductive All2 {α β : Type} (R : α → β → Prop) : List α → List β → Prop
  | nil : All2 R [] []
  | cons {a : α} {b : β} {as : List α} {bs : List β} : R a b → All2 R as bs → All2 R (a :: as) (b :: bs)
section
variable {α β : Type} {R S : α → β → Prop}
theorem All2.mono (h : ∀ a b, R a b → S a b) : ∀ {as : List α} {bs : List β}, All2 R as bs → All2 S as bs
  | _, _, .nil => .nil
  | _, _, .cons a r => .cons (h _ _ a) (r.mono h)
theorem All2.length : ∀ {as : List α} {bs : List β}, All2 R as bs → as.length = bs.length
  | _, _, .nil => rfl
  | _, _, .cons _ r => congrArg (· + 1) r.length
theorem All2.snoc {a : α} {b : β} (h : R a b) : ∀ {as : List α} {bs : List β}, All2 R as bs → All2 R (as ++ [a]) (bs ++ [b])
  | _, _, .nil => .cons h .nil
  | _, _, .cons x r => .cons x (r.snoc h)
theorem All2.get : ∀ {as : List α} {bs : List β}, All2 R as bs → ∀ {i : Nat} {b : β}, bs[i]? = some b → ∃ a, as[i]? = some a ∧ R a b
  | _, _, .nil, _, _, e => by simp at e
  | _, _, .cons x r, 0, b, e => by
    simp at e
    subst e
    exact ⟨_, by simp, x⟩
  | _, _, .cons x r, i + 1, b, e => by
    obtain ⟨a, h1, h2⟩ := r.get (i := i) (b := b) (by simpa using e)
    exact ⟨a, by simpa using h1, h2⟩
theorem All2.rev : ∀ {as : List α} {bs : List β}, All2 R as bs → All2 R as.reverse bs.reverse
  | _, _, .nil => .nil
  | _, _, .cons x r => by rw [List.reverse_cons, List.reverse_cons]; exact r.rev.snoc x
end
/-- a store into a dict, as a plain list -/
def st {α : Type} (xs : List (Int × α)) (k : Int) (x : α) : List (Int × α) :=
  if xs.any (fun p => p.1 = k) then xs.map (fun p => if p.1 = k then (p.1, x) else p) else xs ++ [(k, x)]
def gt {α : Type} (xs : List (Int × α)) (k : Int) : Option α := (xs.find? fun p => p.1 = k).map (·.2)
/-- a dict's pairs, told by plain ones -/
abbrev KvR {α : Type} (R : Value → α → Prop) (kvs : List (Int × Value)) (xs : List (Int × α)) : Prop := All2 (fun p q => p.1 = q.1 ∧ R p.2 q.2) kvs xs
section
variable {α : Type} {R : Value → α → Prop}
theorem KvR.any {k : Int} : ∀ {kvs : List (Int × Value)} {xs : List (Int × α)}, KvR R kvs xs → kvs.any (fun p => p.1 = k) = xs.any (fun p => p.1 = k)
  | _, _, .nil => rfl
  | _, _, .cons h r => by
    rw [List.any_cons, List.any_cons, KvR.any r, h.1]
theorem KvR.put {k : Int} {v : Value} {x : α} (hx : R v x) : ∀ {kvs : List (Int × Value)} {xs : List (Int × α)}, KvR R kvs xs → KvR R (kvs.map (fun p => if p.1 = k then (p.1, v) else p)) (xs.map (fun p => if p.1 = k then (p.1, x) else p))
  | _, _, .nil => .nil
  | _, _, .cons (a := p) (b := q) h r => by
    rw [List.map_cons, List.map_cons]
    refine .cons ?_ (KvR.put hx r)
    by_cases e : q.1 = k
    · rw [if_pos e, if_pos (h.1.trans e)]; exact ⟨h.1, hx⟩
    · rw [if_neg e, if_neg fun z => e (h.1.symm.trans z)]; exact h
theorem KvR.stored {k : Int} {v : Value} {x : α} {kvs : List (Int × Value)} {xs : List (Int × α)} (h : KvR R kvs xs) (hx : R v x) : KvR R (PySem.stored kvs k v) (st xs k x) := by
  unfold PySem.stored st
  rw [KvR.any h]
  cases xs.any (fun p => p.1 = k)
  · exact h.snoc ⟨rfl, hx⟩
  · exact h.put hx
theorem KvR.keys : ∀ {kvs : List (Int × Value)} {xs : List (Int × α)}, KvR R kvs xs → kvs.map (·.1) = xs.map (·.1)
  | _, _, .nil => rfl
  | _, _, .cons h r => by rw [List.map_cons, List.map_cons, KvR.keys r, h.1]
theorem KvR.at {k : Int} : ∀ {kvs : List (Int × Value)} {xs : List (Int × α)}, KvR R kvs xs → (valueAt kvs k = none ∧ gt xs k = none) ∨ ∃ v x, valueAt kvs k = some v ∧ gt xs k = some x ∧ R v x
  | _, _, .nil => .inl ⟨rfl, rfl⟩
  | _, _, .cons (a := p) (b := q) (as := as) (bs := bs) h r => by
    by_cases e : q.1 = k
    · right
      refine ⟨p.2, q.2, ?_, ?_, h.2⟩
      · unfold valueAt; rw [List.find?_cons]; simp [h.1, e]
      · unfold gt; rw [List.find?_cons]; simp [e]
    · have e' : ¬ p.1 = k := fun z => e (h.1.symm.trans z)
      have e1 : valueAt (p :: as) k = valueAt as k := by unfold valueAt; rw [List.find?_cons]; simp [e']
      have e2 : gt (q :: bs) k = gt bs k := by unfold gt; rw [List.find?_cons]; simp [e]
      rw [e1, e2]
      exact KvR.at r
theorem KvR.nil0 : KvR R [] [] := All2.nil
end
/-- of each number above 0 the place of its last row -/
def lastG : Nat → List Row → List (Int × Nat) → List (Int × Nat)
  | _, [], xs => xs
  | i, r :: rs, xs => lastG (i + 1) rs (if 0 < r.num then st xs r.num i else xs)
def lastX (rs : List Row) : List (Int × Nat) := lastG 0 rs []
end Mine
end

/-! Tab -/
section
open PySem PySem.W PyProof.Rows
set_option maxRecDepth 100000
set_option maxHeartbeats 8000000
namespace Mine
theorem st_len {α : Type} (xs : List (Int × α)) (k : Int) (x : α) : (st xs k x).length ≤ xs.length + 1 := by
  unfold st
  split <;> simp

theorem drop_step {α : Type} {xs : List α} {i : Nat} {x : α} (h : xs[i]? = some x) : xs.drop i = x :: xs.drop (i + 1) := by
  obtain ⟨hi, rfl⟩ := List.getElem?_eq_some_iff.mp h
  exact List.drop_eq_getElem_cons hi
theorem drop_itm {ps : List Value} {i : Nat} {a : Itm} {r : List Itm} (h : a :: r = (ps.drop i).map Itm.val) : ∃ v, ps[i]? = some v ∧ a = .val v ∧ r = (ps.drop (i + 1)).map Itm.val := by
  by_cases hi : i < ps.length
  · rw [List.drop_eq_getElem_cons hi, List.map_cons] at h
    injection h with h1 h2
    exact ⟨ps[i], by simp [hi], h1, h2⟩
  · rw [List.drop_eq_nil_of_le (Nat.le_of_not_lt hi)] at h
    cases h
theorem drop_itm_nil {ps : List Value} {i : Nat} (h : [] = (ps.drop i).map Itm.val) : ps.length ≤ i := by
  have := congrArg List.length h
  simp at this
  omega
theorem TupIn.of {w : World} {l : Led} {X : Addr} {r : Row} {t : Tok} {vv : Value} {n : Nat} (h : (X, ({ cls := .type "tuple", data := .seq [.int r.gen t, vv].toArray n } : Obj)) ∈ l) (hv : VIn w l vv r.k) : TupIn w l (.ref X) r := ⟨⟨_, _, _, _, rfl, h, hv⟩⟩
theorem kv_more {w : World} {news tups : Led} {rs : List Row} {kvs : List (Int × Value)} {xs : List (Int × Nat)} (x : Addr × Obj) (hk : KvR (fun v i => ∃ r, rs[i]? = some r ∧ TupIn w (news ++ tups) v r) kvs xs) : KvR (fun v i => ∃ r, rs[i]? = some r ∧ TupIn w (news ++ (tups ++ [x])) v r) kvs xs :=
  hk.mono fun _ _ h => ⟨h.1, h.2.imp fun _ h' => ⟨h'.1, h'.2.mono fun q hq => by rw [← List.append_assoc]; exact List.mem_append_left _ hq⟩⟩
theorem map_more {u v : Option Value} {m0 : Str → Option Value} : (fun y => if y = Str.ofString "piece" then v else if y = Str.ofString "piece" then u else m0 y) = fun y => if y = Str.ofString "piece" then v else m0 y := by
  funext y
  split
  · rfl
  · rfl
theorem news_split {h₀ h : Heap} {L : Addr} {x : Addr × Obj} {l : Led} (_N : News h₀ L h (x :: l)) : ∃ y, y = x := ⟨x, rfl⟩
theorem above_snoc {tups news : Led} {X : Addr × Obj} (h : Above tups news) (hX : ∀ q ∈ news, q.1 < X.1) : Above (tups ++ [X]) news := fun q hq => by
  rcases List.mem_append.mp hq with hq | hq
  · exact h q hq
  · rw [List.mem_singleton.mp hq]
    exact allLt_of hX
theorem VIn.form {w : World} {l : Led} {v : Value} {k : VK} (h : VIn w l v k) : (∃ x, v = .ref x) ∨ ∃ t, v = .int 3 t := by
  cases h with
  | int3 => exact .inr ⟨_, rfl⟩
  | _ => exact .inl ⟨_, rfl⟩
section
variable {prog : Program} {w : World} {K : Type} [DecidableEq K] {knd : KeyKind prog w K} {A : Around} {E : Value → Shared → Prop} {s : Shared} {h₀ : Heap} {L : Addr} {m : Str → Option Value} {kvs : List (K × Value)} {k : K} {key v : Value}
theorem set3 {tp I T : Addr} {ot oI oT : Obj} {rest : Led} {Q : Unit → Shared → Prop} (F : Fr h₀ L s.heap m) (N : News h₀ L s.heap ((tp, ot) :: (I, oI) :: (T, oT) :: rest)) (h1 : tp ≠ T) (h2 : I ≠ T) (h3 : ∀ q ∈ rest, q.1 ≠ T) (hd : oT.IsDictOf knd kvs) (hkey : knd.is k key = true) (hsz : kvs.length ≤ sizeLine)
    (h : ∀ h' o', Fr h₀ L h' m → News h₀ L h' ((tp, ot) :: (I, oI) :: (T, o') :: rest) → o'.IsDictOf knd (stored kvs k v) → Q () { s with heap := h', toks := s.toks + 1 }) : wpAny (model prog w) A (setItem (.ref T) key v) Q E s :=
  kda_set F N (.tail h1 (.tail h2 (.head h3))) hd hkey hsz h
end
end Mine
end

/-! Tab2 -/
section
open PySem PySem.W PyProof.Rows
set_option maxRecDepth 100000
set_option maxHeartbeats 8000000
namespace Mine
theorem fill_frag14 : PySem.Challenge.rw_og0166_01 = PySem.Challenge.rw_og0166_01 ∧ hd.heap_1 = hd.heap_1 := by
  w_top off
  k_fill
  exact ⟨rfl, rfl⟩
local macro_rules | `(tactic| k_all) => `(tactic| with_reducible assumption)
local macro_rules | `(tactic| k_mem) => `(tactic| first | assumption | exact List.Mem.head _ | (refine' List.Mem.tail _ ?_; k_mem) | (refine List.mem_append_left _ ?_; k_mem) | (refine List.mem_append_right _ ?_; k_mem))
local macro_rules | `(tactic| k_ne) => `(tactic| with_reducible assumption)
local macro_rules | `(tactic| k_room) => `(tactic| ktr_room)
local macro_rules | `(tactic| k_units) => `(tactic| ktr_units)

structure TabInv2 (w : World) (news n0 : Led) (ps : List Value) (rs : List Row) (T I : Addr) (m0 : Str → Option Value) (its : List Itm) (m : Str → Option Value) (l : Led) : Prop where
  ex : ∃ (i : Nat) (u : Option Value) (oT : Obj) (kvs : List (Int × Value)) (tups : Led) (xs : List (Int × Nat)), its = (ps.drop i).map Itm.val ∧ m = (fun y => if y = Str.ofString "piece" then u else m0 y) ∧ l = (T, oT) :: (news ++ tups) ∧
    Obj.IsDictOf (PySem.intKind PG w) oT kvs ∧ KvR (fun v i => ∃ r, rs[i]? = some r ∧ TupIn w (n0 ++ tups) v r) kvs xs ∧ lastG i (rs.drop i) xs = lastX rs ∧ xs.length ≤ i ∧ Above tups news ∧ (∀ q ∈ tups, q.1 ≠ I ∧ q.1 ≠ T)
theorem tab_init2 {w : World} {news n0 : Led} {ps : List Value} {rs : List Row} {T I : Addr} {m0 : Str → Option Value} {oT : Obj} (h : Obj.IsDictOf (PySem.intKind PG w) oT []) : TabInv2 w news n0 ps rs T I m0 (ps.map Itm.val) m0 ((T, oT) :: news) := by
  refine ⟨0, m0 (Str.ofString "piece"), _, [], [], [], rfl, ?_, by rw [List.append_nil], h, .nil, rfl, Nat.le_refl _, fun _ h => (nomatch h), fun _ h => (nomatch h)⟩
  funext y
  split
  · rename_i e; subst e; rfl
  · rfl
theorem tab_step2 {w : World} {news n0 tups : Led} {ps : List Value} {rs : List Row} {T I : Addr} {m0 m' : Str → Option Value} {oT : Obj} {i : Nat} {u : Option Value} {kvs : List (Int × Value)} {xs : List (Int × Nat)}
    (hm : m' = fun y => if y = Str.ofString "piece" then u else m0 y) (hd : Obj.IsDictOf (PySem.intKind PG w) oT kvs) (hk : KvR (fun v i => ∃ r, rs[i]? = some r ∧ TupIn w (n0 ++ tups) v r) kvs xs) (hl : lastG (i + 1) (rs.drop (i + 1)) xs = lastX rs) (hx : xs.length ≤ i + 1) (hA : Above tups news) (hn : ∀ q ∈ tups, q.1 ≠ I ∧ q.1 ≠ T) :
    TabInv2 w news n0 ps rs T I m0 ((ps.drop (i + 1)).map Itm.val) m' ((T, oT) :: (news ++ tups)) := ⟨_, _, _, _, _, _, rfl, hm, rfl, hd, hk, hl, hx, hA, hn⟩
local macro_rules | `(tactic| walk_at "exec For Name Name cons nil") => `(tactic| (k_here; (rename Fr _ _ _ _ => lF'); (with_unfolding_all refine' For_turns lF' ?_; k_whole)))
local macro_rules | `(tactic| walk_at "pyIter ref") => `(tactic| (k_here; refine Halt.out ?_))
local macro_rules | `(tactic| walk_at "setItem ref int") => `(tactic| (k_here; refine Halt.out ?_))
theorem table_spec2 {w : World} {loose : List Str} {mean : ExcName → Option Value} {mg mb : Str → Option Value} {news n0 : Led} {P : Addr} {ps : List Value} {n : Nat} {rs : List Row} (hP : (P, listOf ps.toArray n) ∈ news) (hsub : ∀ q ∈ n0, q ∈ news) (hA : All2 (PcIn w n0) ps rs) (hl : rs.length ≤ 8) :
    Pure1 w loose mean mg mb 388 2 16 news [.ref P] (fun tl r => ∃ T oT kvs, r = .ref T ∧ (T, oT) ∈ tl ∧ Obj.IsDictOf (PySem.intKind PG w) oT kvs ∧ (T == sysModules) = false ∧ KvR (fun v i => ∃ r, rs[i]? = some r ∧ TupIn w (n0 ++ tl) v r) kvs (lastX rs)) := by
  intro dp un gd cn cs a ccd cl outer A₀ base h₀ L m s Q E B F X N T hk hd hu hret
  refine wpAny_call ?_
  k_dflt cell_enter
  k_steps
  unfold Halt
  rename ∀ p ∈ news, p.1 < _ => hT9
  rename Addr => T9
  refine iter_listTurns (vs := ps) (n := n) rfl (by assumption) (by assumption) (by k_mem) rfl rfl ?_
  intro I l1
  refine items_ind (TabInv2 w news n0 ps rs ?T I ?m0) ?step ?done _ _ _ ?init
  case init => exact tab_init2 (by assumption)
  case step =>
    rintro a r m l ⟨i, u, oT, kvs, tups, xs, e1, rfl, rfl, hd1, hkv, hlx, hxl, hab, hnI⟩ v h tk ha F2
    obtain ⟨v', hv', rfl, rfl⟩ := drop_itm e1
    obtain rfl : v = v' := ha
    have hi : ∃ rr, rs[i]? = some rr ∧ PcIn w n0 v rr := by
      have hlen := hA.length
      obtain ⟨h1, h2⟩ := List.getElem?_eq_some_iff.mp hv'
      have hr : rs[i]? = some rs[i] := by simp
      obtain ⟨v2, h3, h4⟩ := hA.get hr
      rw [hv'] at h3
      cases h3
      exact ⟨_, hr, h4⟩
    obtain ⟨rr, hr, hpc⟩ := hi
    obtain ⟨pa, pd, u1, u2, u3, u4, u5, v1, v2, v3, v4, bb, ee, vv, rfl, hp1, hp2, hp3⟩ := hpc.ex
    have hp1 := hsub _ hp1
    have hp2 := hsub _ hp2
    have hIT : ∀ q ∈ news ++ tups, q.1 ≠ T9 := fun q hq => (List.mem_append.mp hq).elim (fun hq => Nat.ne_of_lt (hT9 q hq)) fun hq => (hnI q hq).2
    have hII : I ≠ T9 := Nat.ne_of_gt (l1 _ (.head _))
    have hdr := drop_step hr
    have hxs : kvs.length ≤ 8 := by
      have h1 := hkv.length
      have h2 := (List.getElem?_eq_some_iff.mp hr).1
      omega
    rcases hp3.form with ⟨x, rfl⟩ | ⟨t, rfl⟩
    all_goals
      ktu_objs
      k_steps
      · unfold Halt
        rename Fr _ _ _ _ => F9
        rename News _ _ _ (_ :: _ :: _ :: _) => N9
        rename News _ _ _ ((I, _) :: _) => N10
        rename _ < rr.num => hpos
        obtain ⟨y9, ey9⟩ := news_split N9
        have hsz9 := fun q hq => Heap.lt_size (N10 q hq).1
        refine set3 (knd := PySem.intKind _ _) F9 N9 ?_ hII hIT hd1 (intKind_is _ _ _ _) ?_ ?_
        · exact Nat.ne_of_gt (hsz9 _ (.tail _ (.head _)))
        · rw [sizeLine_eq]; omega
        intro h9 o9 F9' N9' hd9
        k_steps
        · refine' unrEnd1 (news' := (T9, o9) :: (news ++ (tups ++ [y9]))) (by assumption) (news_sub' N9' ?sub) ?off ⟨⟨.tail _ (List.mem_append_left _ hP), trivial⟩, tab_step2 (tups := tups ++ [y9]) (i := i) (xs := st xs rr.num i) map_more hd9 ?kv ?lg ?ln ?ab ?nI⟩
          case sub =>
            rw [ey9]
            intro q hq
            simp only [List.mem_cons, List.mem_append, List.not_mem_nil, or_false] at hq ⊢
            grind
          case off =>
            intro q hq
            rcases List.mem_cons.mp hq with rfl | hq
            · exact hII.symm
            rcases List.mem_append.mp hq with hq | hq
            · exact Nat.ne_of_lt (l1 _ (.tail _ hq))
            rcases List.mem_append.mp hq with hq | hq
            · exact (hnI q hq).1
            rw [List.mem_singleton.mp hq, ey9]
            exact Nat.ne_of_gt (hsz9 _ (.head _))
          case kv =>
            rw [ey9]
            exact KvR.stored (kv_more _ hkv) ⟨rr, hr, TupIn.of (List.mem_append_right _ (List.mem_append_right _ (.head _))) (hp3.mono fun q hq => List.mem_append_left _ hq)⟩
          case lg => rw [hdr] at hlx; simpa only [lastG, if_pos hpos] using hlx
          case ln => exact Nat.le_trans (st_len _ _ _) (Nat.succ_le_succ hxl)
          case ab => rw [ey9]; exact above_snoc hab fun q hq => hsz9 q (.tail _ (.tail _ (List.mem_append_left _ hq)))
          case nI =>
            intro q hq
            rcases List.mem_append.mp hq with hq | hq
            · exact hnI q hq
            rw [List.mem_singleton.mp hq, ey9]
            exact ⟨Nat.ne_of_gt (hsz9 _ (.head _)), Nat.ne_of_gt (hsz9 _ (.tail _ (.head _)))⟩
      · rename ¬ _ < rr.num => hpos
        refine' unrEnd1 (news' := (T9, oT) :: (news ++ tups)) (by assumption) (by assumption) ?off ⟨⟨.tail _ (List.mem_append_left _ hP), trivial⟩, tab_step2 map_more hd1 hkv ?lg (Nat.le_succ_of_le hxl) hab hnI⟩
        case off =>
          intro q hq
          rcases List.mem_cons.mp hq with rfl | hq
          · exact hII.symm
          rcases List.mem_append.mp hq with hq | hq
          · exact Nat.ne_of_lt (l1 _ (.tail _ hq))
          · exact (hnI q hq).1
        case lg => rw [hdr] at hlx; simpa only [lastG, if_neg hpos] using hlx
  case done =>
    rintro m l ⟨i, u, oT, kvs, tups, xs, e1, rfl, rfl, hd1, hkv, hlx, hxl, hab, hnI⟩ h tk F2 N2
    have hn := drop_itm_nil e1
    rw [hA.length] at hn
    rw [List.drop_eq_nil_of_le hn] at hlx
    obtain rfl : xs = lastX rs := hlx
    k_steps
    refine hret _ (tups ++ [(T9, oT)]) _ _ ⟨T9, oT, kvs, rfl, ?_, hd1, by assumption, ?_⟩ ?_ (by assumption) ?_
    · exact List.mem_append_right _ (.head _)
    · exact kv_more _ hkv
    · exact above_snoc hab hT9
    · refine news_sub' (by assumption) ?_
      intro q hq
      simp only [List.mem_cons, List.mem_append, List.not_mem_nil, or_false] at hq ⊢
      grind
end Mine
end

/-! Last -/
section
open PySem PySem.W PyProof.Rows
set_option maxRecDepth 100000
set_option maxHeartbeats 8000000
namespace Mine
theorem fill_frag9 : PySem.Challenge.rw_og0166_01 = PySem.Challenge.rw_og0166_01 ∧ hd.heap_1 = hd.heap_1 := by
  w_top off
  k_fill
  exact ⟨rfl, rfl⟩
local macro_rules | `(tactic| k_all) => `(tactic| with_reducible assumption)
local macro_rules | `(tactic| k_mem) => `(tactic| first | assumption | exact List.Mem.head _ | (refine' List.Mem.tail _ ?_; k_mem) | (refine List.mem_append_left _ ?_; k_mem) | (refine List.mem_append_right _ ?_; k_mem))
local macro_rules | `(tactic| k_ne) => `(tactic| with_reducible assumption)
local macro_rules | `(tactic| k_room) => `(tactic| ktr_room)
local macro_rules | `(tactic| k_units) => `(tactic| ktr_units)
local macro_rules | `(tactic| kit_at) => `(tactic| (refine' kitAt_N ?N ?m ?c; (case N => k_asm); (case m => k_mem); (case c => first | exact isDict_cls (by assumption) | exact rfl)))
section
variable {prog : Program} {w : World} {A : Around} {E : Value → Shared → Prop} {s : Shared} {env : Env} {h₀ : Heap} {L : Addr} {x : Str} {body : List Stmt} {Q : Flow → Shared → Prop}
theorem rev_ind {I : Addr} {lp : Addr × Obj} (Inv : List Value → (Str → Option Value) → Led → Prop)
    (step : ∀ v r m news, Inv (v :: r) m news → ∀ (it : Obj) h tk, it.cls = .type "list_reverseiterator" → Fr h₀ env.locals h (fun y => if y = x then some v else m y) → News h₀ env.locals h ((I, it) :: news) →
      wpAny (model prog w) A (execs body env) (UnrPost h₀ env.locals { s with heap := h, toks := tk } I it (fun m' n' => lp ∈ n' ∧ Inv r m' n') Q) E { s with heap := h, toks := tk })
    (done : ∀ m news, Inv [] m news → ∀ h tk, Fr h₀ env.locals h m → News h₀ env.locals h news → Q .next { s with heap := h, toks := tk }) :
    ∀ xs m news, Inv xs m news → RevRest prog w A E h₀ env x body Q s I lp xs m news
  | [], m, news, h0 => RevRest.zero (done m news h0)
  | v :: r, m, news, h0 => by
    have hs := step v r m news h0
    have ih := rev_ind Inv step done r
    clear step done h0
    refine RevRest.succ fun it h tk hit F N => wpAny_mono (hs it h tk hit F N) (fun fl s₃ p => ?_) fun _ _ e => e
    have up : UnrEnd h₀ env.locals { s with heap := h, toks := tk } I it (fun m' n' => lp ∈ n' ∧ Inv r m' n') s₃ → UnrEnd h₀ env.locals { s with heap := h, toks := tk } I it (fun m' n' => lp ∈ n' ∧ RevRest prog w A E h₀ env x body Q s I lp r m' n') s₃ := by
      rintro ⟨h', tk', m', news', e, F', N', ho, hk, hi⟩
      exact ⟨h', tk', m', news', e, F', N', ho, hk, ih _ _ hi⟩
    cases fl with
    | ret v => exact p
    | brk => exact p
    | next => exact up p
    | cont => exact up p
theorem rev_end {I : Addr} {oI : Obj} {s₁ : Shared} {rest : (Str → Option Value) → Led → Prop} {h' : Heap} {tk : Nat} {m' : Str → Option Value} {news' : Led} (F : Fr h₀ L h' m') (N : News h₀ L h' ((I, oI) :: news')) (off : ∀ q ∈ news', q.1 ≠ I) (r : rest m' news') :
    UnrEnd h₀ L s₁ I oI rest { s₁ with heap := h', toks := tk } := ⟨h', tk, m', news', rfl, F, N, off, r⟩
end
theorem offI_of {I : Addr} {it : Obj} : ∀ {l : Led}, (∀ q ∈ l, q.1 ≠ I) → OffI I it l
  | [], _ => trivial
  | _ :: _, h => ⟨.inl (h _ (.head _)), offI_of fun q hq => h q (.tail _ hq)⟩
/-- what last_catalog answers, on the rows from the last -/
def lastCat (inT : Int → Bool) (kn : KN) : List Row → List (Int × Unit) → Option Row
  | [], _ => none
  | r :: rs, xs => if inT r.num = true ∧ (gt xs r.num).isSome = false then (if isD r.k = true ∧ isT r.k kn = true then some r else lastCat inT kn rs (st xs r.num ())) else lastCat inT kn rs xs
def ResIn (w : World) (l : Led) (v : Value) : Option Row → Prop
  | none => v = .none
  | some r => ∃ a, v = .ref a ∧ RefIn w l a r.num r.gen
structure LastInv (w : World) (news : Led) (inT : Int → Bool) (kn : KN) (res : Option Row) (S : Addr) (m0 : Str → Option Value) (its : List Value) (m : Str → Option Value) (l : Led) : Prop where
  ex : ∃ (u : Option Value) (oS : Obj) (kvs : List (Int × Value)) (xs : List (Int × Unit)) (rrs : List Row), m = (fun y => if y = Str.ofString "piece" then u else m0 y) ∧ l = (S, oS) :: news ∧
    Obj.IsDictOf (PySem.intKind PG w) oS kvs ∧ KvR (fun _ _ => True) kvs xs ∧ xs.length + its.length ≤ 8 ∧ All2 (PcIn w news) its rrs ∧ lastCat inT kn rrs xs = res
theorem last_init {w : World} {news : Led} {inT : Int → Bool} {kn : KN} {ps : List Value} {rs : List Row} {S : Addr} {m0 : Str → Option Value} {oS : Obj} (h : Obj.IsDictOf (PySem.intKind PG w) oS []) (hA : All2 (PcIn w news) ps rs) (hl : ps.length ≤ 8) : LastInv w news inT kn (lastCat inT kn rs []) S m0 ps m0 ((S, oS) :: news) := by
  refine ⟨m0 (Str.ofString "piece"), _, [], [], rs, ?_, rfl, h, .nil, by simpa using hl, hA, rfl⟩
  funext y
  split
  · rename_i e; subst e; rfl
  · rfl
local macro_rules | `(tactic| walk_at "call type:reversed") => `(tactic| (k_here; refine Halt.out ?_))
local macro_rules | `(tactic| walk_at "pyIter ref") => `(tactic| (k_here; refine Halt.out ?_))
theorem VIn.form2 {w : World} {l : Led} {v : Value} {k : VK} (h : VIn w l v k) : (∃ t, v = .int 3 t ∧ isD k = false) ∨ (∃ x o kvs, v = .ref x ∧ (x, o) ∈ l ∧ Obj.IsDictOf (PySem.strKind PG w) o kvs ∧ isD k = true) ∨
    (∃ x d od, v = .ref x ∧ (x, instObj 171 d) ∈ l ∧ (d, od) ∈ l ∧ isD k = false) ∨ (∃ x d od, v = .ref x ∧ (x, instObj 214 d) ∈ l ∧ (d, od) ∈ l ∧ isD k = false) := by
  cases h with
  | cat a b => obtain ⟨o, h1, h2, h3⟩ := a.ex; exact .inr (.inl ⟨_, o, _, rfl, h1, h2, rfl⟩)
  | ref9 a b => obtain ⟨o, h1, h2, h3⟩ := a.ex; exact .inr (.inl ⟨_, o, _, rfl, h1, h2, rfl⟩)
  | int3 => exact .inl ⟨_, rfl, rfl⟩
  | pages a b => obtain ⟨o, h1, h2, h3⟩ := a.ex; exact .inr (.inl ⟨_, o, _, rfl, h1, h2, rfl⟩)
  | strm a b c => obtain ⟨d, t, t', t'', h1, h2⟩ := a.ex; exact .inr (.inr (.inr ⟨_, d, _, rfl, h1, h2, rfl⟩))
  | empty a => obtain ⟨o, h1, h2, h3⟩ := a.ex; exact .inr (.inl ⟨_, o, _, rfl, h1, h2, rfl⟩)
  | nam a => obtain ⟨d, t, t', h1, h2⟩ := a.ex; exact .inr (.inr (.inl ⟨_, d, _, rfl, h1, h2, rfl⟩))
theorem ShIn.mono {w : World} {l l' : Led} (hs : ∀ q ∈ l, q ∈ l') {sh T : Addr} (h : ShIn w l sh T) : ShIn w l' sh T := let ⟨d, tr, t, t', h1, h2⟩ := h.ex; ⟨⟨d, tr, t, t', hs _ h1, hs _ h2⟩⟩
theorem TbIn.mono {w : World} {l l' : Led} (hs : ∀ q ∈ l, q ∈ l') {T : Addr} {kn : KN} (h : TbIn w l T kn) : TbIn w l' T kn := let ⟨o, kvs, tp, tt, nt, kv, h1, h2, h3, h4, h5, h6⟩ := h.ex; ⟨⟨o, kvs, tp, tt, nt, kv, hs _ h1, h2, h3, h4, hs _ h5, h6.mono hs⟩⟩
theorem is_type' {w : World} {loose : List Str} {mean : ExcName → Option Value} {mg mb : Str → Option Value} {l l' : Led} {sh T : Addr} {t : Tok} {v : Value} {k : VK} {kn : KN} {b : Bool} (hs : ∀ q ∈ l, q ∈ l') (hS : ShIn w l sh T) (hT : TbIn w l T kn) (hV : VIn w l v k) (hk : isD k = true) (hb : isT k kn = b) :
    Pure1 w loose mean mg mb 395 6 96 l' [.ref sh, v, .str (Str.ofString "Catalog") t] (fun tl r => tl = [] ∧ r = .bool b) := hb ▸ is_type (hS.mono hs) (hT.mono hs) (hV.mono hs) hk
theorem lastCat_skip {inT : Int → Bool} {kn : KN} {r : Row} {rs : List Row} {xs : List (Int × Unit)} (h : inT r.num = false ∨ (gt xs r.num).isSome = true) : lastCat inT kn (r :: rs) xs = lastCat inT kn rs xs := by
  rw [lastCat, if_neg]
  rcases h with h | h <;> simp [h]
theorem lastCat_seen {inT : Int → Bool} {kn : KN} {r : Row} {rs : List Row} {xs : List (Int × Unit)} (h : inT r.num = true) (h' : (gt xs r.num).isSome = false) (hk : isD r.k = false ∨ isT r.k kn = false) : lastCat inT kn (r :: rs) xs = lastCat inT kn rs (st xs r.num ()) := by
  rw [lastCat, if_pos ⟨h, h'⟩, if_neg]
  rcases hk with h | h <;> simp [h]
theorem lastCat_found {inT : Int → Bool} {kn : KN} {r : Row} {rs : List Row} {xs : List (Int × Unit)} (h : inT r.num = true) (h' : (gt xs r.num).isSome = false) (hk : isD r.k = true) (hk' : isT r.k kn = true) : lastCat inT kn (r :: rs) xs = some r := by
  rw [lastCat, if_pos ⟨h, h'⟩, if_pos ⟨hk, hk'⟩]
local macro_rules | `(tactic| walk_at "compareOp In int ref") => `(tactic| (k_here; k_dflt (refine' kda_in (knd := PySem.intKind _ _) ?N ?m ?d ?lo (intKind_is _ _ _ _) _ ?v ?_; (case N => k_asm); (case m => k_mem); (case d => assumption); (case lo => assumption); (case v => assumption))))
local macro_rules | `(tactic| walk_at "compareOp NotIn int ref") => `(tactic| (k_here; k_dflt (refine' kdg_notin (knd := PySem.intKind _ _) ?N ?m ?d ?lo (intKind_is _ _ _ _) _ ?v ?_; (case N => k_asm); (case m => k_mem); (case d => assumption); (case lo => assumption); (case v => assumption))))
local macro_rules | `(tactic| walk_at "setItem ref int") => `(tactic| (k_here; k_dflt (refine' kda_set (knd := PySem.intKind _ _) ?F ?N ?U ?d (intKind_is _ _ _ _) ?z ?_; (case F => k_asm); (case N => k_asm); (case U => k_updF); (case d => assumption); (case z => rw [sizeLine_eq]; omega)); intro h' o' F' N' hd'; (try dsimp only at N')))
local macro_rules | `(tactic| walk_at "call ref") => `(tactic| (k_here; (with_reducible show wpAny _ _ (call (Value.ref 395) [_, _, _]) _ _ _); k_dflt (refine' pure1_use ?C ?B ?F ?X ?N ?T ?K ?dp ?un ?_; (case B => k_asm); (case F => k_asm); (case X => k_asm); (case N => k_asm); (case T => k_asm); (case K => first | exact rfl | assumption); (case C => refine is_type' ?_ (by assumption) (by assumption) (by assumption) (by assumption) (by assumption); (intro q9 h9; repeat (first | exact h9 | refine List.mem_cons_of_mem _ ?_))); (case dp => ktr_room); (case un => ktr_units); k_whole); intro r9 tl9 h9 tk9 hR9 hA9 F9 N9; (obtain ⟨e9, e9'⟩ := hR9); subst e9; subst e9'; (try simp only [List.append_nil, List.cons_append] at N9); (try dsimp only); (try k_fold)))
theorem found_above {news : Led} {S d x : Addr} {o1 o2 o3 : Obj} {p q : Prop} (hS : ∀ q ∈ news, q.1 < S) (l1 : p ∧ q ∧ AllLt d news) (l2 : @LT.lt Nat _ d x) : Above [(S, o1), (x, o2), (d, o3)] news := fun q hq => by
  simp only [List.mem_cons, List.not_mem_nil, or_false] at hq
  rcases hq with rfl | rfl | rfl
  · exact allLt_of hS
  · exact allLt_mono l2 l1.2.2
  · exact l1.2.2
theorem found_news {h₀ h : Heap} {L : Addr} {x d I S : Addr × Obj} {news : Led} (N : News h₀ L h (x :: d :: I :: S :: news)) : News h₀ L h (news ++ [S, x, d]) := news_sub' N fun q hq => by
  simp only [List.mem_cons, List.mem_append, List.not_mem_nil, or_false] at hq ⊢
  grind
theorem last_spec {w : World} {loose : List Str} {mean : ExcName → Option Value} {mg mb : Str → Option Value} {news : Led} {P sh TT : Addr} {ps : List Value} {n : Nat} {rs : List Row} {kn : KN} {oT : Obj} {tkvs : List (Int × Value)} (hP : (P, listOf ps.toArray n) ∈ news) (hA : All2 (PcIn w news) ps rs) (hl : rs.length ≤ 8)
    (hS : ShIn w news sh TT) (hT : TbIn w news TT kn) (t1 : (TT, oT) ∈ news) (t2 : Obj.IsDictOf (PySem.intKind PG w) oT tkvs) (t3 : (TT == sysModules) = false) :
    Pure1 w loose mean mg mb 402 8 128 news [.ref sh, .ref P] (fun tl r => ResIn w tl r (lastCat (fun k => (valueAt tkvs k).isSome) kn rs.reverse [])) := by
  intro dp un gd cn cs a ccd cl outer A₀ base h₀ L m s Q E B F X N T hk hd hu hret
  obtain ⟨sd, tr, su, su', s1, s2⟩ := hS.ex
  have hlp := hA.length
  refine wpAny_call ?_
  k_dflt cell_enter
  k_steps
  unfold Halt
  rename ∀ p ∈ news, p.1 < _ => hS9
  rename Addr => S9
  rename Fr _ _ _ _ => F9
  rename News _ _ _ _ => N9
  refine krv_reversed (vs := ps) F9 N9 ⟨_, (N9 _ (.tail _ hP)).1, rfl, n, rfl⟩ ?_
  intro I h9 F9' N9' l1
  clear F9 N9
  k_steps
  unfold Halt
  rename Fr _ _ _ _ => F9
  refine iter_revUnr (vs := ps) (n := n) rfl F9 (by assumption) (offI_of fun q hq => Nat.ne_of_lt (l1 q hq)) (.tail _ hP) rfl rfl ?_
  refine rev_ind (LastInv w news (fun k => (valueAt tkvs k).isSome) kn (lastCat (fun k => (valueAt tkvs k).isSome) kn rs.reverse []) S9 ?m0) ?step ?done _ _ _ ?init
  case init => exact last_init (by assumption) hA.rev (by rw [List.length_reverse]; omega)
  case step =>
    rintro v r m l ⟨u, oS, kvs, xs, rrs, rfl, rfl, hd1, hkv, hln, hAA, hres⟩ it h tk hit F2 N2
    cases hAA with
    | cons hpc hAA =>
    rename_i rr rrs
    obtain ⟨pa, pd, u1, u2, u3, u4, u5, v1, v2, v3, v4, bb, ee, vv, rfl, hp1, hp2, hp3⟩ := hpc.ex
    have hSne : ∀ q ∈ news, q.1 ≠ S9 := fun q hq => Nat.ne_of_lt (hS9 q hq)
    have hIS : I ≠ S9 := Nat.ne_of_gt (l1 _ (.head _))
    have hoff : ∀ o : Obj, ∀ q ∈ (S9, o) :: news, q.1 ≠ I := fun o q hq => by
      rcases List.mem_cons.mp hq with rfl | hq
      · exact hIS.symm
      · exact Nat.ne_of_lt (l1 _ (.tail _ hq))
    have hlen : kvs.length ≤ 8 := by have := hkv.length; omega
    simp only [List.length_cons] at hln
    have hgx : (valueAt kvs rr.num).isSome = (gt xs rr.num).isSome := by
      rcases hkv.at (k := rr.num) with ⟨e1, e2⟩ | ⟨v, x, e1, e2, _⟩ <;> rw [e1, e2] <;> rfl
    cases hin : (valueAt tkvs rr.num).isSome with
    | false =>
      k_steps
      exact rev_end (news' := (S9, oS) :: news) (by assumption) (by assumption) (hoff oS) ⟨.tail _ hP, ⟨_, oS, kvs, xs, rrs, map_more, rfl, hd1, hkv, by omega, hAA, (lastCat_skip (.inl hin)).symm.trans hres⟩⟩
    | true =>
    cases hseen : (valueAt kvs rr.num).isSome with
    | true =>
      k_steps
      exact rev_end (news' := (S9, oS) :: news) (by assumption) (by assumption) (hoff oS) ⟨.tail _ hP, ⟨_, oS, kvs, xs, rrs, map_more, rfl, hd1, hkv, by omega, hAA, (lastCat_skip (.inr (hgx.symm.trans hseen))).symm.trans hres⟩⟩
    | false =>
    have hge := hgx.symm.trans hseen
    have hsl := st_len xs rr.num ()
    rcases hp3.form2 with ⟨t, rfl, hD⟩ | ⟨x, o, dkvs, rfl, hx1, hx2, hD⟩ | ⟨x, d, od, rfl, hx1, hx2, hD⟩ | ⟨x, d, od, rfl, hx1, hx2, hD⟩
    · k_steps
      exact rev_end (news' := (S9, _) :: news) (by assumption) (by assumption) (hoff _) ⟨.tail _ hP, ⟨_, _, _, st xs rr.num (), rrs, map_more, rfl, by assumption, hkv.stored trivial, by omega, hAA, (lastCat_seen hin hge (.inl hD)).symm.trans hres⟩⟩
    · cases hTT : isT rr.k kn with
      | false =>
        k_steps
        exact rev_end (news' := (S9, _) :: news) (by assumption) (by assumption) (hoff _) ⟨.tail _ hP, ⟨_, _, _, st xs rr.num (), rrs, map_more, rfl, by assumption, hkv.stored trivial, by omega, hAA, (lastCat_seen hin hge (.inr hTT)).symm.trans hres⟩⟩
      | true =>
        k_steps
        refine' hret _ [(S9, _), (_, _), (_, _)] _ _ ?ha ?hb (by assumption) (found_news (by assumption))
        case hb => exact found_above hS9 (by assumption) (by assumption)
        case ha =>
          rw [← hres, lastCat_found hin hge hD hTT]
          exact ⟨_, rfl, ⟨⟨_, _, _, _, _, .tail _ (.head _), .tail _ (.tail _ (.head _))⟩⟩⟩
    · k_steps
      exact rev_end (news' := (S9, _) :: news) (by assumption) (by assumption) (hoff _) ⟨.tail _ hP, ⟨_, _, _, st xs rr.num (), rrs, map_more, rfl, by assumption, hkv.stored trivial, by omega, hAA, (lastCat_seen hin hge (.inl hD)).symm.trans hres⟩⟩
    · k_steps
      exact rev_end (news' := (S9, _) :: news) (by assumption) (by assumption) (hoff _) ⟨.tail _ hP, ⟨_, _, _, st xs rr.num (), rrs, map_more, rfl, by assumption, hkv.stored trivial, by omega, hAA, (lastCat_seen hin hge (.inl hD)).symm.trans hres⟩⟩
  case done =>
    rintro m l ⟨u, oS, kvs, xs, rrs, rfl, rfl, hd1, hkv, hln, hAA, hres⟩ h tk F2 N2
    cases hAA
    k_steps
    refine hret _ [(S9, oS)] _ _ ?_ (fun q hq => ?_) (by assumption) ?_
    · rw [← hres]; exact rfl
    · rw [List.mem_singleton.mp hq]; exact allLt_of hS9
    · refine news_sub' (by assumption) fun q hq => ?_
      rcases List.mem_append.mp hq with hq | hq
      · exact .tail _ hq
      · rw [List.mem_singleton.mp hq]; exact .head _
end Mine
end

/-! Use -/
section
open PySem PySem.W PyProof.Rows
set_option maxRecDepth 100000
set_option maxHeartbeats 8000000
namespace Mine
theorem range_ok : ∀ k < 8, Builtin.Range.small 0 ((k : Nat) : Int) 1 = true ∧ Builtin.Range.rangeSize 0 ((k : Nat) : Int) 1 = ((k : Nat) : Int) := by decide
theorem val_use {w : World} {loose : List Str} {mean : ExcName → Option Value} {mg mb : Str → Option Value}
    {dp un : Nat} {gd : Option (List Code)} {cn : Str} {cs : Scope} {a : Addr} {ccd : Value} {cl : List (Str × Addr)} {outer : List Env} {A₀ : Around} {base h₀ : Heap} {L : Addr} {m : Str → Option Value} {s : Shared} {Q E : Value → Shared → Prop}
    {p c : Addr} {spot b : Int} {t1 t2 : Tok} {n n' : Nat} {vs : List Value} {ns : List Int} {news : Led} {g : Obj → Led}
    (B : Below A₀ base outer h₀) (F : Fr h₀ L s.heap m) (X : (hd.heap_1 w.params).In h₀)
    (N : News h₀ L s.heap news) (T : Top vw loose mean mg mb h₀) (hk : cs.kind = .function)
    (U : UpdF p (listOf [.ref c, .int spot t1, .int b t2].toArray n) news g) (hc : (c, listOf vs.toArray n') ∈ news)
    (hi : IntsAre vs ns) (hlen : ns.length ≤ 60) (hs0 : 0 ≤ spot) (hs1 : spot ≤ 90) (hb0 : 0 ≤ b) (hb1 : b ≤ 997) (hcp : c ≠ p)
    (hdp : dp + 2 < recursionLimit) (hun : un + 16 < cLine)
    (ret : ∀ (v : Value) (k : VK) (new : Led) (spot' : Int) t' n'' h' tk', spot < spot' → spot' ≤ spot + 2 → VIn w new v k → KOk k → Above new news → Fr h₀ L h' m →
      News h₀ L h' (g (listOf [.ref c, .int spot' t', .int b t2].toArray n'') ++ new) → Q v { s with heap := h', toks := tk' }) :
    wpAny (model PG w) (ktrTop dp un gd cn cs L a ccd cl outer) (call (.ref 416) [.ref p]) Q E s := by
  obtain ⟨rest, e1, e2, e3⟩ := updF_mem U
  have N0 : News h₀ L s.heap ((p, listOf [.ref c, .int spot t1, .int b t2].toArray n) :: (c, listOf vs.toArray n') :: rest) := by
    intro q hq
    rcases List.mem_cons.mp hq with h | hq
    · exact N q ((e1 q).mpr (.inl h))
    · rcases List.mem_cons.mp hq with rfl | hq
      · exact N _ hc
      · exact N q ((e1 q).mpr (.inr hq))
  refine val_spec B F X N0 T hk e3 hcp hi hlen hs0 hs1 hb0 hb1 hdp hun fun v k new spot' t' n'' h' tk' h0 h1 hv hk hA F' N' => ret v k new spot' t' n'' h' tk' h0 h1 hv hk (fun q hq => ?_) F' fun q hq => ?_
  · obtain ⟨a1, a2, a3⟩ := hA q hq
    refine allLt_of fun r hr => ?_
    rcases (e1 r).mp hr with h | h
    · rw [h]; exact a1
    · exact allLt_mem a3 r h
  · rcases List.mem_append.mp hq with hq | hq
    · rcases (e2 _ q).mp hq with h | h
      · exact N' q (List.mem_append_right _ (by rw [h]; exact .head _))
      · exact N' q (List.mem_append_right _ (.tail _ (.tail _ h)))
    · exact N' q (List.mem_append_left _ hq)
structure RowsInv (w : World) (RR PP CC I : Addr) (b : Int) (tb : Tok) (k : Nat) (cs : Led) (m0 : Str → Option Value) (its : List Itm) (m : Str → Option Value) (l : Led) : Prop where
  ex : ∃ (i0 : Int) (n0 : Nat) (u : Option Value) (spot : Int) (t' : Tok) (n'' nR : Nat) (rvs : List Value) (rs : List Row) (fz : Led), its = rangeItms i0 n0 ∧ n0 + rs.length = k ∧ m = (fun y => if y = Str.ofString "turn" then u else m0 y) ∧
    l = (RR, listOf rvs.toArray nR) :: (PP, listOf [.ref CC, .int spot t', .int b tb].toArray n'') :: (cs ++ fz) ∧ 0 ≤ spot ∧ spot ≤ 1 + 4 * rs.length ∧ All2 (RowIn w fz) rvs rs ∧ (∀ r ∈ rs, r.Ok) ∧ (∀ q ∈ fz, I < q.1)
theorem map_self {x : Str} {m0 : Str → Option Value} : m0 = fun y => if y = x then m0 x else m0 y := by
  funext y
  split
  · rename_i e; subst e; rfl
  · rfl
theorem map_over {x : Str} {u v : Option Value} {m0 : Str → Option Value} : (fun y => if y = x then v else if y = x then u else m0 y) = fun y => if y = x then v else m0 y := by
  funext y
  split <;> rfl
theorem rows_init {w : World} {RR PP CC I : Addr} {b spot : Int} {tb t' : Tok} {k n'' nR : Nat} {cs : Led} {m0 : Str → Option Value} (h0 : 0 ≤ spot) (h1 : spot ≤ 1) : RowsInv w RR PP CC I b tb k cs m0 (rangeItms 0 k) m0 ((RR, listOf #[] nR) :: (PP, listOf [.ref CC, .int spot t', .int b tb].toArray n'') :: cs) :=
  ⟨0, k, m0 (Str.ofString "turn"), spot, t', n'', nR, [], [], [], rfl, by simp, map_self, by rw [List.append_nil], h0, by simpa using h1, .nil, fun _ h => (nomatch h), fun _ h => (nomatch h)⟩
theorem rows_step {w : World} {RR PP CC I : Addr} {b spot i0 : Int} {tb t' tn tg : Tok} {k n1 n'' nR nt : Nat} {cs fz new : Led} {m0 m' : Str → Option Value} {u : Option Value} {rvs : List Value} {rs : List Row} {r : Row} {y : Addr × Obj} {D : Addr} {vv : Value}
    (hn : n1 + 1 + rs.length = k) (hm : m' = fun y => if y = Str.ofString "turn" then u else m0 y) (h0 : 0 ≤ spot) (h1 : spot ≤ 1 + 4 * (rs.length + 1)) (hA : All2 (RowIn w fz) rvs rs) (hok : ∀ r ∈ rs, r.Ok) (hfz : ∀ q ∈ fz, I < q.1) (hnew : ∀ q ∈ new, I < q.1)
    (ey : y = (D, ({ cls := .type "tuple", data := .seq [.int r.num tn, .int r.gen tg, vv].toArray nt } : Obj))) (hy : I < D) (hv : VIn w new vv r.k) (hr : r.Ok) :
    RowsInv w RR PP CC I b tb k cs m0 (rangeItms (i0 + 1) n1) m' ((RR, listOf (rvs ++ [Value.ref D]).toArray nR) :: (PP, listOf [.ref CC, .int spot t', .int b tb].toArray n'') :: (cs ++ (fz ++ new ++ [y]))) := by
  refine ⟨i0 + 1, n1, u, spot, t', n'', nR, rvs ++ [.ref D], rs ++ [r], fz ++ new ++ [y], rfl, by simp; omega, hm, rfl, h0, by simp; omega, ?_, ?_, ?_⟩
  · refine (hA.mono fun a b h => h.mono fun q hq => List.mem_append_left _ (List.mem_append_left _ hq)).snoc ⟨⟨D, nt, tn, tg, vv, rfl, ?_, hv.mono fun q hq => List.mem_append_left _ (List.mem_append_right _ hq)⟩⟩
    rw [ey]
    exact List.mem_append_right _ (.head _)
  · intro r' hr'
    rcases List.mem_append.mp hr' with h | h
    · exact hok r' h
    · rw [List.mem_singleton.mp h]; exact hr
  · intro q hq
    rcases List.mem_append.mp hq with h | h
    · rcases List.mem_append.mp h with h | h
      · exact hfz q h
      · exact hnew q h
    · rw [List.mem_singleton.mp h, ey]; exact hy
theorem rows_sub {D I x y : Addr × Obj} {cs fz new : Led} : ∀ q ∈ I :: x :: y :: (cs ++ (fz ++ new ++ [D])), q ∈ D :: I :: x :: y :: (cs ++ (fz ++ new)) := by
  intro q hq
  simp only [List.mem_cons, List.mem_append, List.not_mem_nil, or_false] at hq ⊢
  grind
theorem rows_off {I : Addr} {x y x' y' : Addr × Obj} {cs fz : Led} (hI2 : ∀ p ∈ x :: y :: cs, p.1 < I) (hx : x'.1 = x.1) (hy : y'.1 = y.1) (hfz : ∀ q ∈ fz, I < q.1) : ∀ q ∈ x' :: y' :: (cs ++ fz), q.1 ≠ I := by
  intro q hq
  rcases List.mem_cons.mp hq with rfl | hq
  · rw [hx]; exact Nat.ne_of_lt (hI2 _ (.head _))
  rcases List.mem_cons.mp hq with rfl | hq
  · rw [hy]; exact Nat.ne_of_lt (hI2 _ (.tail _ (.head _)))
  rcases List.mem_append.mp hq with hq | hq
  · exact Nat.ne_of_lt (hI2 _ (.tail _ (.tail _ hq)))
  · exact Nat.ne_of_gt (hfz q hq)
theorem rangeItms_cons {a : Itm} {r : List Itm} : ∀ {n : Nat} {i : Int}, a :: r = rangeItms i n → ∃ n', n = n' + 1 ∧ a = .tok (fun t => .int i t) ∧ r = rangeItms (i + 1) n'
  | 0, _, h => nomatch h
  | n + 1, i, h => by
    rw [rangeItms] at h
    injection h with h1 h2
    exact ⟨n, rfl, h1, h2⟩
theorem rangeItms_nil : ∀ {n : Nat} {i : Int}, [] = rangeItms i n → n = 0
  | 0, _, _ => rfl
  | n + 1, i, h => nomatch h
end Mine
end

/-! Use2 -/
section
open PySem PySem.W PyProof.Rows
set_option maxRecDepth 100000
set_option maxHeartbeats 8000000
namespace Mine
theorem pack5 {h₀ h : Heap} {L PP : Addr} {a b c d e R oP x1 x2 x3 x4 x5 x6 : Addr × Obj} {fz : Led} (N : News h₀ L h (a :: b :: c :: d :: e :: R :: oP :: x1 :: x2 :: x3 :: x4 :: x5 :: x6 :: fz)) (ha : @LT.lt Nat _ PP a.1) (hb : @LT.lt Nat _ PP b.1) (hc : @LT.lt Nat _ PP c.1) (hd : @LT.lt Nat _ PP d.1) (he : @LT.lt Nat _ PP e.1) (hfz : ∀ q ∈ fz, @LT.lt Nat _ PP q.1) :
    ∃ fz' : Led, (∀ q ∈ fz, q ∈ fz') ∧ a ∈ fz' ∧ b ∈ fz' ∧ c ∈ fz' ∧ d ∈ fz' ∧ e ∈ fz' ∧ (∀ q ∈ fz', @LT.lt Nat _ PP q.1) ∧ News h₀ L h (R :: oP :: x1 :: x2 :: x3 :: x4 :: x5 :: x6 :: fz') := by
  refine ⟨a :: b :: c :: d :: e :: fz, fun q hq => .tail _ (.tail _ (.tail _ (.tail _ (.tail _ hq)))), .head _, .tail _ (.head _), .tail _ (.tail _ (.head _)), .tail _ (.tail _ (.tail _ (.head _))), .tail _ (.tail _ (.tail _ (.tail _ (.head _)))), ?_, news_sub' N fun q hq => ?_⟩
  · exact List.forall_mem_cons.mpr ⟨ha, List.forall_mem_cons.mpr ⟨hb, List.forall_mem_cons.mpr ⟨hc, List.forall_mem_cons.mpr ⟨hd, List.forall_mem_cons.mpr ⟨he, hfz⟩⟩⟩⟩⟩
  · simp only [List.mem_cons] at hq ⊢
    grind
theorem ne_of_below {a PP : Addr} {fz : Led} (h : ∀ q ∈ fz, @LT.lt Nat _ PP q.1) (ha : @LE.le Nat _ a PP) : ∀ q ∈ fz, q.1 ≠ a := fun q hq => Nat.ne_of_gt (Nat.lt_of_le_of_lt ha (h q hq))
theorem All2.get2 {α β : Type} {R : α → β → Prop} : ∀ {as : List α} {bs : List β}, All2 R as bs → ∀ {i : Nat} {a : α}, as[i]? = some a → ∃ b, bs[i]? = some b ∧ R a b
  | _, _, .nil, _, _, e => by simp at e
  | _, _, .cons x r, 0, a, e => by
    simp at e
    subst e
    exact ⟨_, by simp, x⟩
  | _, _, .cons x r, i + 1, a, e => by
    obtain ⟨b, h1, h2⟩ := r.get2 (i := i) (a := a) (by simpa using e)
    exact ⟨b, by simpa using h1, h2⟩
abbrev L8 (R oP x1 x2 x3 x4 x5 x6 : Addr × Obj) (fz : Led) : Led := R :: oP :: x1 :: x2 :: x3 :: x4 :: x5 :: x6 :: fz
structure PcInv (w : World) (R oP x1 x2 x3 x4 x5 x6 : Addr × Obj) (fz : Led) (rs : List Row) (li : Addr) (i : Nat) (ys : List Value) (nw : Led) : Prop where
  ex : ∃ pz : Led, nw = L8 R oP x1 x2 x3 x4 x5 x6 (fz ++ pz) ∧ All2 (PcIn w (fz ++ pz)) ys (rs.take i) ∧ ∀ q ∈ pz, li + 1 < q.1
theorem pc_init {w : World} {R oP x1 x2 x3 x4 x5 x6 : Addr × Obj} {fz : Led} {rs : List Row} {li : Addr} : PcInv w R oP x1 x2 x3 x4 x5 x6 fz rs li 0 [] (L8 R oP x1 x2 x3 x4 x5 x6 fz) := ⟨[], by rw [List.append_nil], .nil, fun _ h => nomatch h⟩
theorem take_snoc {α : Type} {xs : List α} {i : Nat} {x : α} (h : xs[i]? = some x) : xs.take (i + 1) = xs.take i ++ [x] := by
  rw [List.take_succ, h]; rfl
end Mine
end

/-! CompE -/
section
open PySem PySem.W PyProof.Rows PySem.Calls PyProof.V PySem.Spec PyProof.Rows.LCg PyProof.Rows.LCp
set_option maxRecDepth 100000
set_option maxHeartbeats 8000000
namespace Mine
def EndE (h₀ : Heap) (L : Addr) (m : Str → Option Value) (s₁ : Shared) (li : Addr) (oe ol : Obj) (C : Addr) (oC : Obj) (D : Addr) (oD : Obj) (lp : Addr × Obj) (rest : Value → Led → Prop) (y : Value) (s₂ : Shared) : Prop :=
  ∃ h' tk news', s₂ = { s₁ with heap := h', toks := tk } ∧ Fr h₀ L h' m ∧ News h₀ L h' ((li + 1, oe) :: (li, ol) :: (C, oC) :: (D, oD) :: news') ∧ (∀ p ∈ news', p.1 ≠ li + 1 ∧ p.1 ≠ li ∧ p.1 ≠ C ∧ p.1 ≠ D) ∧ lp ∈ news' ∧ rest y news'
def StepE (prog : Program) (w : World) (A : Around) (h₀ : Heap) (L : Addr) (m : Str → Option Value) (env : Env) (elt : Expr) (xa x1 x2 x3 : Str) (scope : Scope) (cl : List (Str × Addr)) (s : Shared) (li : Addr) (lp : Addr × Obj) (vs : List Value) (Inv : Nat → List Value → Led → Prop) : Prop :=
  ∀ i v ys news, vs[i]? = some v → Inv i ys news → lp ∈ news → ∃ (R : Addr) (oR : Obj) (a1 a2 a3 : Value) (nt : Nat), v = .ref R ∧ (R, oR) ∈ news ∧ oR.cls = .type "tuple" ∧ oR.data = .seq #[a1, a2, a3] nt ∧
    ∀ oe ol C oC D m₂ h tk t (E' : Value → Shared → Prop), NsObj oC m₂ → m₂ xa = some (.int (i : Int) t) → m₂ x1 = some a1 → m₂ x2 = some a2 → m₂ x3 = some a3 → Fr h₀ L h m → News h₀ L h ((li + 1, oe) :: (li, ol) :: (C, oC) :: (D, lst ys) :: news) →
      (∀ p ∈ news, p.1 ≠ li + 1 ∧ p.1 ≠ li ∧ p.1 ≠ C ∧ p.1 ≠ D) → (@LT.lt Nat _ (li + 1) D ∧ @LT.lt Nat _ D C) →
      wpAny (model prog w) A (eval elt (compEnvC scope cl C env)) (EndE h₀ L m { s with heap := h, toks := tk } li oe ol C oC D (lst ys) lp (fun y news' => Inv (i + 1) (ys ++ [y]) news')) E' { s with heap := h, toks := tk }
section
variable {prog : Program} {w : World} {A : Around} {E : Value → Shared → Prop} {s : Shared} {h₀ : Heap} {L : Addr} {m : Str → Option Value} {env : Env}
theorem fr_but2 {h h' : Heap} {wr : List Addr} (F : Fr h₀ L h m) (hk : ∀ b o, b ∉ wr → h.get? b = some o → h'.get? b = some o) (hL : L ∉ wr) (hI : ∀ b ∈ wr, h₀.get? b = none) : Fr h₀ L h' m :=
  ⟨F.ns.at' fun o e => hk _ o hL e, fun b o e => hk b o (fun hb => by rw [hI b hb] at e; cases e) (F.keep b o e), F.above⟩
theorem block_E {elt iter : Expr} {xa x1 x2 x3 : Str} {pa p1 p2 p3 tp tp2 : Pos} {tk1 tk2} {scope : Scope} {cl : List (Str × Addr)} {pos : Pos} {s₂ : Shared} {li l : Addr} {lo : Obj} {vs : List Value} {nn : Nat} {news : Led} {Inv : Nat → List Value → Led → Prop} {RR : Value → Addr → Result → Shared → Prop}
    (hh : A.handled = none) (he0 : IsEnum s₂.heap (li + 1) li 0 .none) (hl0 : s₂.heap.IsListIter li l 0) (hm : (l, lo) ∈ news) (hc : lo.cls = .type "list") (hd : lo.data = .seq vs.toArray nn) (hsz : vs.length ≤ sizeLine)
    (hLi : ∀ p ∈ news, p.1 < li) (hLL : L < li) (hli0 : ∀ b, li ≤ b → h₀.get? b = none) (hsize : li + 2 ≤ s₂.heap.objs.size) (F : Fr h₀ L s₂.heap m) (N : News h₀ L s₂.heap news)
    (hcell : ∀ y ∈ scope.names, y.2 ≠ .cell) (hkind : scope.kind = .function) (hxa : scope.names.lookup xa = some .local) (hx1 : scope.names.lookup x1 = some .local) (hx2 : scope.names.lookup x2 = some .local) (hx3 : scope.names.lookup x3 = some .local)
    (n1 : xa ≠ x1) (n2 : xa ≠ x2) (n3 : xa ≠ x3) (n4 : x1 ≠ x2) (n5 : x1 ≠ x3) (n6 : x2 ≠ x3)
    (h0 : Inv 0 [] news) (step : StepE prog w A h₀ L m env elt xa x1 x2 x3 scope cl s₂ li (l, lo) vs Inv)
    (hRR : ∀ D C h tk m' ys news', @LT.lt Nat _ (li + 1) D → Fr h₀ L h m → News h₀ L h ((D, lst ys) :: news') → (∀ p ∈ news', p.1 ≠ D) → h.Ns C m' → h₀.get? C = none → h₀.get? D = none → C ≠ L → D ≠ L → C ≠ D → (∀ p ∈ news', p.1 ≠ C) → Inv vs.length ys news' → RR (.ref D) C (.ok .next) { s₂ with heap := h, toks := tk }) :
    wpAny (model prog w) A (newList []) (fun acc s₃ => wpAny (model prog w) A (newFunctionEnv scope env.globals cl [] env.qual none .none (some env)) (fun cenv s₄ =>
      codeAny (model prog w) A (.compStart (.ListComp elt [⟨.Tuple [.Name xa pa, .Tuple [.Name x1 p1, .Name x2 p2, .Name x3 p3] tk2 tp2] tk1 tp, iter, [], 0⟩] scope pos) 0 (.ref (li + 1)) acc { cenv with scope := relabel scope env }) (RR acc cenv.locals) s₄) E s₃) E s₂ := by
  refine wpAny_newObj_type (wpAny_newFunctionEnv hcell (by intro y hy; simp at hy) (fun h₁ hns₁ hsb₁ => ?_) hkind)
  dsimp only at hns₁ hsb₁ ⊢
  generalize hH2 : s₂.heap.push { cls := .type "list", dict := none, data := .seq ([] : List Value).toArray } = H2 at hns₁ hsb₁ ⊢
  have hC : H2.objs.size = s₂.heap.objs.size + 1 := by rw [← hH2, Heap.size_push]
  generalize hDD : s₂.heap.objs.size = D at *
  generalize hCC : H2.objs.size = C at *
  have hlD : @LT.lt Nat _ (li + 1) D := by show li + 1 < D; exact hsize
  have hDC : @LT.lt Nat _ D C := by rw [hC]; exact Nat.lt_succ_self _
  have below : ∀ b, b < D → b ≠ C ∧ b ≠ D := fun b hb => ⟨Nat.ne_of_lt (Nat.lt_trans hb hDC), Nat.ne_of_lt hb⟩
  have lt_D : ∀ b o, s₂.heap.get? b = some o → b < D := fun b o e => hDD ▸ Heap.lt_size e
  have old : ∀ b o, s₂.heap.get? b = some o → h₁.get? b = some o := fun b o e => hsb₁.extBut b o (below b (lt_D b o e)).1 (Heap.get?_push_of_some _ (hH2 ▸ Heap.get?_push_of_some _ e))
  have hacc : h₁.get? D = some (lst []) := hsb₁.extBut _ _ (Nat.ne_of_lt hDC) (Heap.get?_push_of_some _ (by rw [← hH2, ← hDD]; exact Heap.get?_push_size _ rfl))
  have hlLt : l < li := hLi _ hm
  have W := (WalksT.enumerate (prog := prog) (w := w) hh (li + 1) li l (Nat.succ_ne_self _) (Nat.ne_of_lt (Nat.lt_succ_of_lt hlLt)) (Nat.ne_of_lt hlLt) vs.toArray).toU
  have K := KTurns.ofWalksU (elts := [.Name xa pa, .Tuple [.Name x1 p1, .Name x2 p2, .Name x3 p3] tk2 tp2]) (k := tk1) (pos := tp) W
  have hwr0 : ∀ b ∈ [li + 1, li], h₀.get? b = none := fun b hb => hli0 b (by
    have : b = li + 1 ∨ b = li := by simpa using hb
    rcases this with rfl | rfl
    · exact Nat.le_succ _
    · exact Nat.le_refl _)
  have hLw : L ∉ [li + 1, li] := fun hb => by
    have : L = li + 1 ∨ L = li := by simpa using hb
    rcases this with e | e
    · exact absurd (e ▸ hLL) (Nat.not_lt.mpr (Nat.le_succ _))
    · exact absurd (e ▸ hLL) (Nat.lt_irrefl _)
  have hfpD : ∀ b ∈ [li + 1, li, l], b < D := fun b hb => by
    have : b = li + 1 ∨ b = li ∨ b = l := by simpa using hb
    rcases this with rfl | rfl | rfl
    · exact hlD
    · exact Nat.lt_trans (Nat.lt_succ_self _) hlD
    · exact Nat.lt_trans hlLt (Nat.lt_trans (Nat.lt_succ_self _) hlD)
  have hst₀ : (∃ old, IsEnum h₁ (li + 1) li ((0 : Nat) : Int) old) ∧ h₁.IsListIter li l 0 ∧ h₁.IsList l vs.toArray := by
    refine K.frame 0 s₂.heap _ ⟨⟨_, he0⟩, hl0, ⟨lo, (N _ hm).1, hc, nn, hd⟩⟩ fun b _ o e => old b o e
  have hD₀ : h₀.get? D = none := hli0 _ (Nat.le_of_lt (Nat.lt_trans (Nat.lt_succ_self _) hlD))
  have hC₀ : h₀.get? C = none := hli0 _ (Nat.le_of_lt (Nat.lt_trans (Nat.lt_trans (Nat.lt_succ_self _) hlD) hDC))
  have hLD : L < D := Nat.lt_trans hLL (Nat.lt_trans (Nat.lt_succ_self _) hlD)
  have hDL : D ≠ L := Nat.ne_of_gt hLD
  have hCL : C ≠ L := Nat.ne_of_gt (Nat.lt_trans hLD hDC)
  have hwC : C ∉ [li + 1, li] := fun hb => by
    have : C = li + 1 ∨ C = li := by simpa using hb
    have z1 : li + 1 < C := Nat.lt_trans hlD hDC
    rcases this with e | e
    · exact absurd (e ▸ z1) (Nat.lt_irrefl _)
    · exact absurd (e ▸ z1) (Nat.not_lt.mpr (Nat.le_succ _))
  have hwD : D ∉ [li + 1, li] := fun hb => by
    have : D = li + 1 ∨ D = li := by simpa using hb
    rcases this with e | e
    · exact absurd (e ▸ hlD) (Nat.lt_irrefl _)
    · exact absurd (e ▸ hlD) (Nat.not_lt.mpr (Nat.le_succ _))
  have off₀ : ∀ p ∈ news, p.1 ≠ li + 1 ∧ p.1 ≠ li ∧ p.1 ≠ C ∧ p.1 ≠ D := fun p hp =>
    ⟨Nat.ne_of_lt (Nat.lt_succ_of_lt (hLi p hp)), Nat.ne_of_lt (hLi p hp), (below _ (Nat.lt_trans (hLi p hp) (Nat.lt_trans (Nat.lt_succ_self _) hlD))).1, (below _ (Nat.lt_trans (hLi p hp) (Nat.lt_trans (Nat.lt_succ_self _) hlD))).2⟩
  have loop : ∀ s₃ : Shared, s₃ = { s₂ with heap := h₁, toks := s₂.toks + ([] : List (Str × Value)).length } →
      codeAny (model prog w) A (.compLoop (.ListComp elt [⟨.Tuple [.Name xa pa, .Tuple [.Name x1 p1, .Name x2 p2, .Name x3 p3] tk2 tp2] tk1 tp, iter, [], 0⟩] scope pos) 0 (.ref (li + 1)) (.ref D) (compEnvC scope cl C env))
        (RR (.ref D) C) s₃ := by
    rintro s₃ rfl
    refine codeAny_compLoop_pair
      (fun k s' => ∃ h' tk i ys m' news', s' = { s₂ with heap := h', toks := tk } ∧ i ≤ vs.length ∧ k = vs.length + 1 - i ∧ ys.length = i ∧ ((∃ old, IsEnum h' (li + 1) li ((i : Nat) : Int) old) ∧ h'.IsListIter li l i ∧ h'.IsList l vs.toArray) ∧ Fr h₀ L h' m ∧ h'.Ns C m' ∧ News h₀ L h' ((D, lst ys) :: news') ∧
        (∀ p ∈ news', p.1 ≠ li + 1 ∧ p.1 ≠ li ∧ p.1 ≠ C ∧ p.1 ≠ D) ∧ (l, lo) ∈ news' ∧ Inv i ys news') ?_ (vs.length + 1)
      ⟨h₁, _, 0, [], _, news, rfl, Nat.zero_le _, rfl, rfl, hst₀, F.keeps old, hns₁, fun p hp => ?_, off₀, hm, h0⟩
    · rintro k s' ⟨h', tk, i, ys, m', news', rfl, hi, rfl, hyl, hst', F', hn', N', off', hm', hInv⟩
      have notw : ∀ p ∈ (D, lst ys) :: news', p.1 ∉ [li + 1, li] := fun p hp hb => by
        rcases List.mem_cons.mp hp with rfl | hp
        · exact hwD hb
        · have : p.1 = li + 1 ∨ p.1 = li := by simpa using hb
          rcases this with e | e
          · exact (off' p hp).1 e
          · exact (off' p hp).2.1 e
      by_cases hlt : i < vs.length
      · refine K.item i _ _ _ (by simpa using hlt) hst' fun v h₂ tk₂ hMd hk₂ => ?_
        refine K.go i v _ _ _ hMd fun h₃ hP hst₃ hk₃ => ?_
        obtain ⟨T, vals, rfl, ⟨t, x, hx, rfl⟩, hT⟩ := hP
        have hx' : vs[i]? = some x := by simpa using hx
        obtain ⟨R, oR, a1, a2, a3, nt, rfl, hmR, hcR, hdR, R''⟩ := step i x ys news' hx' hInv hm'
        have keep₃ : ∀ b o, b ∉ [li + 1, li] → h'.get? b = some o → h₃.get? b = some o := fun b o hb e => hk₃ b o hb (hk₂ b o hb e)
        have N₃ : News h₀ L h₃ ((D, lst ys) :: news') := fun p hp => ⟨keep₃ _ _ (notw p hp) (N' p hp).1, (N' p hp).2⟩
        have ht : IsTup h₃ T #[.int (i : Int) t, .ref R] := hT
        refine assign_Tuple_tuple hh ht rfl rfl fun h₅ he₅ => ?_
        have k5 : ∀ b o, h₃.get? b = some o → h₅.get? b = some o := fun b o e => he₅ b o (Nat.ne_of_lt (Heap.lt_size e)) e
        refine assignInOrder_cons (wpAny_assign_Name (wpAny_storeName_local (lookup_relabel_local hxa) ((hn'.at' fun o e => keep₃ _ o hwC e).at' fun o e => k5 _ o e) (fun h₆ hn₆ hs₆ => ?_) (by simp [compEnvC, relabel, hkind])))
        have k6 : ∀ b o, b ≠ C → h₃.get? b = some o → h₆.get? b = some o := fun b o hb e => hs₆.extBut b o hb (k5 b o e)
        have htR : IsTup h₆ R #[a1, a2, a3] := ⟨oR, k6 _ _ (off' _ hmR).2.2.1 (N₃ _ (List.mem_cons_of_mem _ hmR)).1, hcR, nt, hdR⟩
        refine assignInOrder_cons (assign_Tuple_tuple (elts := [.Name x1 p1, .Name x2 p2, .Name x3 p3]) (x1 := tk2) (pos := tp2) (env := compEnvC scope cl C env) hh htR rfl rfl fun h₇ he₇ => ?_)
        have k7 : ∀ b o, h₆.get? b = some o → h₇.get? b = some o := fun b o e => he₇ b o (Nat.ne_of_lt (Heap.lt_size e)) e
        refine assignInOrder_cons (wpAny_assign_Name (wpAny_storeName_local (lookup_relabel_local hx1) (hn₆.at' fun o e => k7 _ o e) (fun h₈ hn₈ hs₈ => ?_) (by simp [compEnvC, relabel, hkind])))
        refine assignInOrder_cons (wpAny_assign_Name (wpAny_storeName_local (lookup_relabel_local hx2) hn₈ (fun h₉ hn₉ hs₉ => ?_) (by simp [compEnvC, relabel, hkind])))
        refine assignInOrder_cons (wpAny_assign_Name (wpAny_storeName_local (lookup_relabel_local hx3) hn₉ (fun h₁₀ hn₁₀ hs₁₀ => ?_) (by simp [compEnvC, relabel, hkind])))
        refine assignInOrder_nil (assignInOrder_nil ?_)
        have old3 : ∀ b o, b ≠ C → h₃.get? b = some o → h₁₀.get? b = some o := fun b o hb e => hs₁₀.extBut b o hb (hs₉.extBut b o hb (hs₈.extBut b o hb (k7 b o (k6 b o hb e))))
        have hst₁₀ : (∃ old, IsEnum h₁₀ (li + 1) li ((i + 1 : Nat) : Int) old) ∧ h₁₀.IsListIter li l (i + 1) ∧ h₁₀.IsList l vs.toArray :=
          K.frame _ _ _ hst₃ fun b hb o e => old3 b o (Nat.ne_of_lt (Nat.lt_trans (hfpD b hb) hDC)) e
        obtain ⟨⟨olde, heE⟩, ⟨ol, heL, hlc⟩, hlL⟩ := id hst₁₀
        have heE' : h₁₀.get? (li + 1) = some _ := heE
        obtain ⟨oC, heC, hoC⟩ := ns_obj hn₁₀
        have F₁₀ : Fr h₀ L h₁₀ m := (((((fr_but2 F' keep₃ hLw hwr0).keeps k5).change hs₆ hCL hC₀).keeps k7).change hs₈ hCL hC₀ |>.change hs₉ hCL hC₀).change hs₁₀ hCL hC₀
        have N₁₀ : News h₀ L h₁₀ ((li + 1, _) :: (li, ol) :: (C, oC) :: (D, lst ys) :: news') := fun p hp => by
          rcases List.mem_cons.mp hp with rfl | hp
          · exact ⟨heE', fun e => hLw (by simp [← e]), hwr0 _ (by simp)⟩
          rcases List.mem_cons.mp hp with rfl | hp
          · exact ⟨heL, fun e => hLw (by simp [← e]), hwr0 _ (by simp)⟩
          rcases List.mem_cons.mp hp with rfl | hp
          · exact ⟨heC, hCL, hC₀⟩
          · have z := N₃ p hp
            refine ⟨old3 _ _ ?_ z.1, z.2⟩
            rcases List.mem_cons.mp hp with rfl | hp
            · exact Nat.ne_of_lt hDC
            · exact (off' p hp).2.2.1
        refine wpAny_mono (R'' _ ol C oC D _ h₁₀ _ t _ hoC (by simp [n1, n2, n3]) (by simp [n4, n5]) (by simp [n6]) (by simp) F₁₀ N₁₀ off' ⟨hlD, hDC⟩) (fun y s₄ h₄ => ?_) fun _ _ e => e
        obtain ⟨h₄, tk₄, news₄, rfl, F₄, N₄, off₄, hm₄, R₄⟩ := h₄
        have zE := (N₄ _ List.mem_cons_self).1
        have zL := (N₄ (li, ol) (List.mem_cons_of_mem _ List.mem_cons_self)).1
        have zC := (N₄ (C, oC) (List.mem_cons_of_mem _ (List.mem_cons_of_mem _ List.mem_cons_self))).1
        have zD := (N₄ (D, lst ys) (List.mem_cons_of_mem _ (List.mem_cons_of_mem _ (List.mem_cons_of_mem _ List.mem_cons_self)))).1
        have N₄' : News h₀ L h₄ news₄ := fun p hp => N₄ p (List.mem_cons_of_mem _ (List.mem_cons_of_mem _ (List.mem_cons_of_mem _ (List.mem_cons_of_mem _ hp))))
        have hst₄ : (∃ old, IsEnum h₄ (li + 1) li ((i + 1 : Nat) : Int) old) ∧ h₄.IsListIter li l (i + 1) ∧ h₄.IsList l vs.toArray :=
          ⟨⟨olde, zE⟩, ⟨ol, zL, hlc⟩, ⟨lo, (N₄' _ hm₄).1, hc, nn, hd⟩⟩
        refine append_at (hsz := by show ys.toArray.size ≤ sizeLine; rw [List.size_toArray, hyl]; exact Nat.le_trans hi hsz) zD fun h₅ hs₅ hD₅ => ?_
        refine ⟨vs.length + 1 - (i + 1), by omega, h₅, tk₄, i + 1, ys ++ [y], _, news₄, rfl, hlt, rfl, by rw [List.length_append, List.length_singleton, hyl], K.frame _ _ _ hst₄ fun b hb o e => hs₅.extBut b o (Nat.ne_of_lt (hfpD b hb)) e, F₄.change hs₅ hDL hD₀,
          (hoC.ns zC).sameBut hs₅ (Nat.ne_of_gt hDC), fun p hp => ?_, off₄, hm₄, R₄⟩
        rcases List.mem_cons.mp hp with rfl | hp
        · exact ⟨hD₅.trans (congrArg some (lst_snoc ys y)), hDL, hD₀⟩
        · exact ⟨hs₅.extBut _ _ (off₄ p hp).2.2.2 (N₄' p hp).1, (N₄' p hp).2⟩
      · obtain rfl : i = vs.length := Nat.le_antisymm hi (Nat.not_lt.mp hlt)
        refine K.done _ _ _ (by simpa using hst') fun h₂ tk₂ hk₂ => ?_
        exact hRR _ _ h₂ tk₂ _ ys news' hlD (fr_but2 F' hk₂ hLw hwr0) (fun p hp => ⟨hk₂ _ _ (notw p hp) (N' p hp).1, (N' p hp).2⟩) (fun p hp => (off' p hp).2.2.2) (hn'.at' fun o e => hk₂ _ o hwC e) hC₀ hD₀ hCL hDL (Nat.ne_of_gt hDC) (fun p hp => (off' p hp).2.2.1) hInv
    · rcases List.mem_cons.mp hp with rfl | hp
      · exact ⟨hacc, hDL, hD₀⟩
      · exact ⟨old _ _ (N p hp).1, (N p hp).2⟩
  exact codeAny_compStart_list (loop _ rfl) (wpAny_pyIter_enum hst₀.1.choose_spec (loop _ rfl))
def FinA2 (h₀ : Heap) (L : Addr) (m : Str → Option Value) (s : Shared) (y : Str) (Q : Flow → Shared → Prop) (li : Addr) (ys : List Value) (news : Led) : Prop :=
  ∀ D h tk, @LT.lt Nat _ (li + 1) D → Fr h₀ L h (fun z => if z = y then some (.ref D) else m z) → News h₀ L h ((D, lst ys) :: news) → (∀ p ∈ news, p.1 ≠ D) → Q .next { s with heap := h, toks := tk }
def SrcE (prog : Program) (w : World) (A : Around) (h₀ : Heap) (L : Addr) (m : Str → Option Value) (env : Env) (elt : Expr) (xa x1 x2 x3 : Str) (scope : Scope) (cl : List (Str × Addr)) (Fin : Addr → Shared → List Value → Led → Prop) (xv : Value) (s₁ : Shared) : Prop :=
  ∃ (li l : Addr) (lo : Obj) (vs : List Value) (nn : Nat) (news : Led) (Inv : Nat → List Value → Led → Prop), xv = .ref (li + 1) ∧ A.handled = none ∧ IsEnum s₁.heap (li + 1) li 0 .none ∧ s₁.heap.IsListIter li l 0 ∧ (l, lo) ∈ news ∧ lo.cls = .type "list" ∧ lo.data = .seq vs.toArray nn ∧ vs.length ≤ sizeLine ∧
    (∀ p ∈ news, p.1 < li) ∧ L < li ∧ (∀ b, li ≤ b → h₀.get? b = none) ∧ li + 2 ≤ s₁.heap.objs.size ∧ Fr h₀ L s₁.heap m ∧ News h₀ L s₁.heap news ∧ Inv 0 [] news ∧ StepE prog w A h₀ L m env elt xa x1 x2 x3 scope cl s₁ li (l, lo) vs Inv ∧ ∀ ys news', Inv vs.length ys news' → Fin li s₁ ys news'
theorem src_enum {elt : Expr} {xa x1 x2 x3 : Str} {scope : Scope} {cl : List (Str × Addr)} {Fin : Addr → Shared → List Value → Led → Prop} {l : Addr} {nn : Nat} {vs : List Value} {news : Led} (Inv : Addr → Nat → List Value → Led → Prop)
    (hh : A.handled = none) (F : Fr h₀ L s.heap m) (N : News h₀ L s.heap news) (hm : (l, listOf vs.toArray nn) ∈ news) (hsz : vs.length ≤ sizeLine)
    (h0 : ∀ li, (∀ p ∈ news, p.1 < li) → Inv li 0 [] news) (step : ∀ li g, (∀ p ∈ news, p.1 < li) → StepE prog w A h₀ L m env elt xa x1 x2 x3 scope cl { s with heap := g } li (l, listOf vs.toArray nn) vs (Inv li)) (hF : ∀ li g ys news', (∀ p ∈ news, p.1 < li) → Inv li vs.length ys news' → Fin li { s with heap := g } ys news') :
    wpAny (model prog w) A (call (.type "enumerate") [.ref l]) (SrcE prog w A h₀ L m env elt xa x1 x2 x3 scope cl Fin) E s := by
  have hax := N _ hm
  refine call_enumerate_list (items := vs.toArray) ⟨_, hax.1, rfl, nn, rfl⟩ fun h' hE hI hsz' hk => ?_
  have hlt : ∀ p ∈ news, p.1 < s.heap.objs.size := fun p hp => Heap.lt_size (N p hp).1
  exact ⟨s.heap.objs.size, l, _, vs, nn, news, Inv _, rfl, hh, hE, hI, hm, rfl, rfl, hsz, hlt, F.ns.lt, fun b hb => ktu_new F hb, Nat.le_of_eq hsz'.symm, F.keeps hk, N.grown hk, h0 _ hlt, step _ _ hlt, fun ys news' => hF _ _ ys news' hlt⟩
theorem Assign_ListComp_E {elt iter : Expr} {xa x1 x2 x3 y : Str} {pa p1 p2 p3 tp tp2 py : Pos} {tk1 tk2} {scope : Scope} {cl : List (Str × Addr)} {pos spos : Pos} {Q : Flow → Shared → Prop} (F₀ : Fr h₀ L s.heap m) (hLe : env.locals = L)
    (hsw : swapsWith (.ListComp elt [⟨.Tuple [.Name xa pa, .Tuple [.Name x1 p1, .Name x2 p2, .Name x3 p3] tk2 tp2] tk1 tp, iter, [], 0⟩] scope pos) (some (.Name y py)) spos.line env = pure true)
    (hclos : closureFor scope env = pure cl) (hcell : ∀ z ∈ scope.names, z.2 ≠ .cell) (hkind : scope.kind = .function)
    (hnames : ∀ z ∈ scope.names, z.2 = .local → scope.names.lookup z.1 = some .local) (hxa : scope.names.lookup xa = some .local) (hx1 : scope.names.lookup x1 = some .local) (hx2 : scope.names.lookup x2 = some .local) (hx3 : scope.names.lookup x3 = some .local)
    (hne : xa ≠ x1 ∧ xa ≠ x2 ∧ xa ≠ x3 ∧ x1 ≠ x2 ∧ x1 ≠ x3 ∧ x2 ≠ x3)
    (hy : env.kindOf y = some .local) (hp : (env.scope.kind == .class || (env.scope.kind == .module && env.locals != env.globals)) = false)
    (h : wpAny (model prog w) A (eval iter env) (SrcE prog w A h₀ L m env elt xa x1 x2 x3 scope cl (fun li s₂ => FinA2 h₀ L m s₂ y Q li)) E s)
    (hs : ∀ x, foldedSetIterable iter env x = pure x := by intro _; rfl) :
    wpAny (model prog w) A (exec (.Assign [.Name y py] (.ListComp elt [⟨.Tuple [.Name xa pa, .Tuple [.Name x1 p1, .Name x2 p2, .Name x3 p3] tk2 tp2] tk1 tp, iter, [], 0⟩] scope pos) spos) env) Q E s := by
  subst hLe
  rw [exec_Assign_Name_used _ _ _ _ hsw]
  refine wpAny_bind (wpAny_standAt (wpAny_bind ?_))
  show wpAny _ A (do let _ ← comprehension (.ListComp elt [⟨.Tuple [.Name xa pa, .Tuple [.Name x1 p1, .Name x2 p2, .Name x3 p3] tk2 tp2] tk1 tp, iter, [], 0⟩] scope pos) scope env _ (newList []) false (eval iter env) (some (assign (.Name y py) env))) _ _ s
  refine wpAny_bind (wpAny_mono (wpAny_comprehension_free (use := some (assign (.Name y py) env)) (Q := fun _ s' => Q .next s') rfl hs hclos hkind hnames
    (wpAny_mono h (fun xv s₁ h₁ => ?_) fun _ _ e => e)) (fun _ s' hq => wpAny_pure (wpAny_pure hq)) fun _ _ e => e)
  obtain ⟨li, l, lo, vs, nn, news, Inv, rfl, hh, he0, hl0, hm, hc, hd, hsz, hLi, hLL, hli0, hsize, F, N, h0, step, hF⟩ := h₁
  refine wpAny_pyIter_enum he0 ?_
  refine block_E hh he0 hl0 hm hc hd hsz hLi hLL hli0 hsize F N hcell hkind hxa hx1 hx2 hx3 hne.1 hne.2.1 hne.2.2.1 hne.2.2.2.1 hne.2.2.2.2.1 hne.2.2.2.2.2 h0 step ?_
  intro D C h' tk m' ys news' hlD F' N' o1 hn hC₀ hD₀ hCL hDL hCD offC hInv
  have fin := hF _ _ hInv
  show wpAny _ A (assign (.Name y py) env (.ref D)) _ _ _
  refine wpAny_assign_Name (wpAny_storeName_local hy F'.ns (fun h₂ hn₂ hs₂ => ?_) hp)
  have hL₀ : h₀.get? env.locals = none := Heap.get?_none_of_le F'.above
  have F₂ : Fr h₀ env.locals h₂ (fun z => if z = y then some (.ref D) else m z) := ⟨hn₂, fun b o e => hs₂.extBut b o (fun q => by rw [q, hL₀] at e; cases e) (F'.keep b o e), F'.above⟩
  refine ⟨m', hn.sameBut hs₂ hCL, fun h'' hs'' => fin D h'' _ hlD (F₂.change hs'' hCL hC₀) (fun p hp => ?_) o1⟩
  have z : h₂.get? p.1 = some p.2 := hs₂.extBut _ _ (N' p hp).2.1 (N' p hp).1
  refine ⟨hs''.extBut _ _ ?_ z, (N' p hp).2⟩
  rcases List.mem_cons.mp hp with rfl | hp
  · exact Ne.symm hCD
  · exact offC p hp
end
theorem pc_end {w : World} {h₀ h' : Heap} {L : Addr} {m : Str → Option Value} {s₁ : Shared} {li C D x d : Addr} {oe ol oC oD : Obj} {lp : Addr × Obj} {R oP x1 x2 x3 x4 x5 x6 : Addr × Obj} {fz pz : Led} {rs : List Row} {rr : Row} {i tk : Nat} {ys : List Value} {t1 t2 t3 t4 t5 u1 u2 u3 u4 : Tok} {b e : Int} {vv : Value} {P : Prop}
    (F : Fr h₀ L h' m) (N : News h₀ L h' ((x, instObj 377 d) :: (d, dictOf [⟨PyData.keyHash w.params (Str.ofString "number"), .str (Str.ofString "number") t1, .int rr.num u1⟩, ⟨PyData.keyHash w.params (Str.ofString "generation"), .str (Str.ofString "generation") t2, .int rr.gen u2⟩,
      ⟨PyData.keyHash w.params (Str.ofString "begun"), .str (Str.ofString "begun") t3, .int b u3⟩, ⟨PyData.keyHash w.params (Str.ofString "end"), .str (Str.ofString "end") t4, .int e u4⟩, ⟨PyData.keyHash w.params (Str.ofString "value"), .str (Str.ofString "value") t5, vv⟩] 5) :: (li + 1, oe) :: (li, ol) :: (C, oC) :: (D, oD) :: L8 R oP x1 x2 x3 x4 x5 x6 (fz ++ pz)))
    (off : ∀ p ∈ L8 R oP x1 x2 x3 x4 x5 x6 (fz ++ pz), p.1 ≠ li + 1 ∧ p.1 ≠ li ∧ p.1 ≠ C ∧ p.1 ≠ D) (hdx : @LT.lt Nat _ d x) (hl : @LT.lt Nat _ (li + 1) d ∧ @LT.lt Nat _ li d ∧ @LT.lt Nat _ C d ∧ @LT.lt Nat _ D d ∧ P) (hlp : lp ∈ L8 R oP x1 x2 x3 x4 x5 x6 (fz ++ pz))
    (hA : All2 (PcIn w (fz ++ pz)) ys (rs.take i)) (hpz : ∀ q ∈ pz, li + 1 < q.1) (hr : rs[i]? = some rr) (hv : VIn w fz vv rr.k) :
    EndE h₀ L m s₁ li oe ol C oC D oD lp (fun y nw => PcInv w R oP x1 x2 x3 x4 x5 x6 fz rs li (i + 1) (ys ++ [y]) nw) (.ref x) { s₁ with heap := h', toks := tk } := by
  generalize hE : (x, instObj 377 d) = X at N
  generalize hG : (d, dictOf _ 5) = G at N
  have mono : ∀ q ∈ fz ++ pz, q ∈ fz ++ (pz ++ [X, G]) := fun q hq => by rw [← List.append_assoc]; exact List.mem_append_left _ hq
  obtain ⟨a1, a2, a3, a4, _⟩ := hl
  refine ⟨h', tk, L8 R oP x1 x2 x3 x4 x5 x6 (fz ++ (pz ++ [X, G])), rfl, F, news_sub' N fun q hq => ?_, fun p hp => ?_, ?_, ⟨pz ++ [X, G], rfl, ?_, fun q hq => ?_⟩⟩
  · simp only [L8, List.mem_cons, List.mem_append, List.not_mem_nil, or_false] at hq ⊢
    grind
  · have : p ∈ L8 R oP x1 x2 x3 x4 x5 x6 (fz ++ pz) ∨ p = X ∨ p = G := by
      simp only [L8, List.mem_cons, List.mem_append, List.not_mem_nil, or_false] at hp ⊢
      grind
    rcases this with h | rfl | rfl
    · exact off p h
    · rw [← hE]
      exact ⟨Nat.ne_of_gt (Nat.lt_trans a1 hdx), Nat.ne_of_gt (Nat.lt_trans a2 hdx), Nat.ne_of_gt (Nat.lt_trans a3 hdx), Nat.ne_of_gt (Nat.lt_trans a4 hdx)⟩
    · rw [← hG]
      exact ⟨Nat.ne_of_gt a1, Nat.ne_of_gt a2, Nat.ne_of_gt a3, Nat.ne_of_gt a4⟩
  · simp only [L8, List.mem_cons, List.mem_append, List.not_mem_nil, or_false] at hlp ⊢
    grind
  · rw [take_snoc hr]
    refine (hA.mono fun a b h => h.mono mono).snoc ⟨⟨x, d, t1, t2, t3, t4, t5, u1, u2, u3, u4, b, e, vv, rfl, ?_, ?_, hv.mono fun q hq => List.mem_append_left _ hq⟩⟩
    · rw [hE]; exact List.mem_append_right _ (List.mem_append_right _ (.head _))
    · rw [hG]; exact List.mem_append_right _ (List.mem_append_right _ (.tail _ (.head _)))
  · rcases List.mem_append.mp hq with h | h
    · exact hpz q h
    · rcases List.mem_cons.mp h with rfl | h
      · rw [← hE]; exact Nat.lt_trans a1 hdx
      · rw [List.mem_singleton.mp h, ← hG]; exact a1
theorem pc_pack {w : World} {h₀ h : Heap} {L D PP : Addr} {R oP x1 x2 x3 x4 x5 x6 : Addr × Obj} {oD : Obj} {fz pz : Led} {ys rvs : List Value} {rs : List Row} {kv : Value} {kn : KN} (N : News h₀ L h ((D, oD) :: L8 R oP x1 x2 x3 x4 x5 x6 (fz ++ pz))) (hD : @LT.lt Nat _ PP D) (hfz : ∀ q ∈ fz, @LT.lt Nat _ PP q.1) (hpz : ∀ q ∈ pz, @LT.lt Nat _ PP q.1)
    (hA : All2 (PcIn w (fz ++ pz)) ys rs) (hall : All2 (RowIn w fz) rvs rs) (hkn : KnV w fz kv kn) :
    ∃ fz' : Led, News h₀ L h (L8 R oP x1 x2 x3 x4 x5 x6 fz') ∧ (∀ q ∈ fz', @LT.lt Nat _ PP q.1) ∧ (D, oD) ∈ fz' ∧ All2 (PcIn w fz') ys rs ∧ All2 (RowIn w fz') rvs rs ∧ KnV w fz' kv kn := by
  have m1 : ∀ q ∈ fz ++ pz, q ∈ (D, oD) :: (fz ++ pz) := fun q hq => .tail _ hq
  have m2 : ∀ q ∈ fz, q ∈ (D, oD) :: (fz ++ pz) := fun q hq => .tail _ (List.mem_append_left _ hq)
  refine ⟨(D, oD) :: (fz ++ pz), news_sub' N fun q hq => ?_, fun q hq => ?_, .head _, hA.mono fun _ _ h => h.mono m1, hall.mono fun _ _ h => h.mono m2, hkn.mono m2⟩
  · simp only [L8, List.mem_cons, List.mem_append] at hq ⊢
    grind
  · rcases List.mem_cons.mp hq with rfl | hq
    · exact hD
    · exact (List.mem_append.mp hq).elim (hfz q) (hpz q)
end Mine
end

/-! Use3 -/
section
open PySem PySem.W PyProof.Rows
set_option maxRecDepth 100000
set_option maxHeartbeats 8000000
namespace Mine
theorem enum_cons {vs : List Value} {i : Nat} {a : Itm} {r : List Itm} (h : a :: r = enumItems i (vs.drop i)) : ∃ v, vs[i]? = some v ∧ a = .pair (fun t => .int ((i : Nat) : Int) t) v ∧ r = enumItems (i + 1) (vs.drop (i + 1)) := by
  by_cases hi : i < vs.length
  · rw [List.drop_eq_getElem_cons hi, enumItems] at h
    injection h with h1 h2
    exact ⟨vs[i], by simp [hi], h1, h2⟩
  · rw [List.drop_eq_nil_of_le (Nat.le_of_not_lt hi), enumItems] at h
    cases h
theorem enum_nil {vs : List Value} {i : Nat} (h : [] = enumItems i (vs.drop i)) : vs.length ≤ i := by
  by_cases hi : i < vs.length
  · rw [List.drop_eq_getElem_cons hi, enumItems] at h
    cases h
  · exact Nat.le_of_not_lt hi
structure LastIv (w : World) (LL : Addr) (cs : Led) (rvs : List Value) (rs : List Row) (m0 : Str → Option Value) (its : List Itm) (m : Str → Option Value) (l : Led) : Prop where
  ex : ∃ (i : Nat) (u1 u2 : Option Value) (oL : Obj) (kvs : List (Int × Value)) (xs : List (Int × Nat)), its = enumItems i (rvs.drop i) ∧ m = (fun y => if y = Str.ofString "row" then u1 else if y = Str.ofString "at" then u2 else m0 y) ∧ l = (LL, oL) :: cs ∧
    Obj.IsDictOf (PySem.intKind PG w) oL kvs ∧ KvR (fun v (i : Nat) => ∃ t, v = .int (i : Int) t) kvs xs ∧ lastG i (rs.drop i) xs = lastX rs ∧ xs.length ≤ i
theorem lastIv_init {w : World} {LL : Addr} {cs : Led} {rvs : List Value} {rs : List Row} {m0 : Str → Option Value} {oL : Obj} (h : Obj.IsDictOf (PySem.intKind PG w) oL []) : LastIv w LL cs rvs rs m0 (enumItems 0 rvs) m0 ((LL, oL) :: cs) := by
  refine ⟨0, m0 (Str.ofString "row"), m0 (Str.ofString "at"), oL, [], [], rfl, ?_, rfl, h, .nil, rfl, Nat.le_refl _⟩
  funext y
  split
  · rename_i e; subst e; rfl
  · split
    · rename_i e; subst e; rfl
    · rfl
theorem map_over2 {x y : Str} {u1 u2 v1 v2 : Option Value} {m0 : Str → Option Value} : (fun z => if z = x then v1 else if z = y then v2 else if z = x then u1 else if z = y then u2 else m0 z) = fun z => if z = x then v1 else if z = y then v2 else m0 z := by
  funext z
  split
  · rfl
  · split <;> rfl
theorem lastIv_step {w : World} {LL : Addr} {cs : Led} {rvs : List Value} {rs : List Row} {m0 m' : Str → Option Value} {oL : Obj} {i : Nat} {u1 u2 : Option Value} {kvs : List (Int × Value)} {xs : List (Int × Nat)}
    (hm : m' = fun y => if y = Str.ofString "row" then u1 else if y = Str.ofString "at" then u2 else m0 y) (hd : Obj.IsDictOf (PySem.intKind PG w) oL kvs) (hk : KvR (fun v (i : Nat) => ∃ t, v = .int (i : Int) t) kvs xs) (hl : lastG (i + 1) (rs.drop (i + 1)) xs = lastX rs) (hx : xs.length ≤ i + 1) :
    LastIv w LL cs rvs rs m0 (enumItems (i + 1) (rvs.drop (i + 1))) m' ((LL, oL) :: cs) := ⟨_, _, _, _, _, _, rfl, hm, rfl, hd, hk, hl, hx⟩
theorem tup_item {prog : Program} {w : World} {A : Around} {E : Value → Shared → Prop} {s : Shared} {h₀ : Heap} {L t : Addr} {news : Led} {value slice : PySem.Expr} {l : List Value} {n j : Nat} {k : Int} {u : Tok} {x : Value} {Q : Value → Shared → Prop}
    (N : News h₀ L s.heap news) (hm : (t, ({ cls := .type "tuple", data := .seq l.toArray n } : Obj)) ∈ news) (hlo : -(2 ^ 63) ≤ k) (hhi : k < 2 ^ 63) (hj : seqIndex? k l.length = some j) (hx : l[j]? = some x) (h : Q x s)
    (hs : subscripted slice false (.ref t) (.int k u) = operate [.ref t, .int k u] (getItem (.ref t) (.int k u)) := by with_unfolding_all rfl) :
    wpAny (model prog w) A (subscriptTail value slice (.ref t) (.int k u)) Q E s := item_tupleT ⟨_, (N _ hm).1, rfl, n, rfl⟩ hlo hhi hj hx h hs
theorem last_off {I LL : Addr} {o o' : Obj} {cs : Led} (h : ∀ p ∈ (LL, o) :: cs, p.1 < I) : (∀ q ∈ (LL, o') :: cs, q.1 ≠ I) ∧ ∀ q ∈ (LL, o') :: cs, q.1 ≠ I + 1 := by
  have z : ∀ q ∈ (LL, o') :: cs, q.1 < I := fun q hq => by
    rcases List.mem_cons.mp hq with rfl | hq
    · exact h (LL, o) (.head _)
    · exact h _ (.tail _ hq)
  exact ⟨fun q hq => Nat.ne_of_lt (z q hq), fun q hq => Nat.ne_of_lt (Nat.lt_succ_of_lt (z q hq))⟩
theorem last_pack {h₀ h : Heap} {L PP : Addr} {y R oP x1 x2 x3 x4 x5 x6 : Addr × Obj} {fz : Led} (N : News h₀ L h (y :: L8 R oP x1 x2 x3 x4 x5 x6 fz)) (hy : @LT.lt Nat _ PP y.1) (hfz : ∀ q ∈ fz, @LT.lt Nat _ PP q.1) :
    ∃ fz' : Led, News h₀ L h (L8 R oP x1 x2 x3 x4 x5 x6 fz') ∧ (∀ q ∈ fz', @LT.lt Nat _ PP q.1) ∧ y ∈ fz' ∧ ∀ q ∈ fz, q ∈ fz' := by
  refine ⟨y :: fz, news_sub' N fun q hq => ?_, List.forall_mem_cons.mpr ⟨hy, hfz⟩, .head _, fun q hq => .tail _ hq⟩
  simp only [L8, List.mem_cons] at hq ⊢
  grind
end Mine
end

/-! Use4 -/
section
open PySem PySem.W PyProof.Rows
set_option maxRecDepth 100000
set_option maxHeartbeats 8000000
namespace Mine
theorem lastG_len : ∀ (rs : List Row) (i : Nat) (xs : List (Int × Nat)), (lastG i rs xs).length ≤ xs.length + rs.length
  | [], _, xs => Nat.le_refl _
  | r :: rs, i, xs => by
    rw [lastG]
    refine Nat.le_trans (lastG_len rs _ _) ?_
    rw [List.length_cons]
    have h : (if 0 < r.num then st xs r.num i else xs).length ≤ xs.length + 1 := by
      split
      · exact st_len _ _ _
      · exact Nat.le_succ _
    omega
theorem lastX_len (rs : List Row) : (lastX rs).length ≤ rs.length := by
  have := lastG_len rs 0 []
  simpa [lastX] using this
theorem sorted_eq {a b : List Int} (p : a.Perm b) (ha : a.Pairwise (· ≤ ·)) (hb : b.Pairwise (· ≤ ·)) : a = b :=
  p.eq_of_pairwise (fun _ _ _ _ h1 h2 => Int.le_antisymm h1 h2) ha hb
theorem datAll_ints {l : Led} : ∀ {vs : List Value} {ns : List Int}, IntsAre vs ns → DatAll l vs (ns.map Dat.int)
  | _, _, .nil => .nil
  | _, _, .cons k t r => .cons (.int k t) (datAll_ints r)
theorem ne_ints {prog : Program} {w : World} {A : Around} {E : Value → Shared → Prop} {s : Shared} {h₀ : Heap} {L a b : Addr} {news : Led} {xs ys : List Value} {ns : List Int} {ka kb : Nat} {Q : Value → Shared → Prop} (N : News h₀ L s.heap news) (ma : (a, listOf xs.toArray ka) ∈ news) (mb : (b, listOf ys.toArray kb) ∈ news)
    (ha : IntsAre xs ns) (hb : IntsAre ys ns) (hu : A.units + 64 < cLine) (h : Q (.bool false) s) : wpAny (model prog w) A (compareOp .NotEq (.ref a) (.ref b)) Q E s :=
  kqd_ne N ma rfl rfl (datAll_ints (l := []) ha) (fun _ h => nomatch h) mb rfl rfl (datAll_ints (l := []) hb) (fun _ h => nomatch h)
    (fun d hd => by obtain ⟨k, _, rfl⟩ := List.mem_map.mp hd; rfl) (fun d hd => by obtain ⟨k, _, rfl⟩ := List.mem_map.mp hd; rfl) hu (by simpa using h)
end Mine
end

/-! Use5 -/
section
open PySem PySem.W PyProof.Rows
set_option maxRecDepth 100000
set_option maxHeartbeats 8000000
namespace Mine
section
variable {prog : Program} {w : World} {A : Around} {h₀ : Heap} {L : Addr} {m : Str → Option Value} {env : Env} {elt : Expr} {x : Str} {scope : Scope} {cl : List (Str × Addr)} {s : Shared} {S : Led → Prop} {P : Nat → Value → Prop} {Fin : List Value → Led → Prop}
/-- a comprehension's turns, by an own invariant -/
theorem comp_ind {n : Nat} (Inv : Nat → List Value → Led → Prop)
    (step : ∀ i ys news, i < n → Inv i ys news → ∀ v I oI C oC D m₂ h tk (E' : Value → Shared → Prop), P i v → LCg.NsObj oC m₂ → m₂ x = some v → Fr h₀ L h m → News h₀ L h ((I, oI) :: (C, oC) :: (D, LCg.lst ys) :: news) → LCg.Off3 I C D news → ((@Ne Nat I C) ∧ (@Ne Nat I D) ∧ (@Ne Nat C D)) →
      wpAny (model prog w) A (eval elt (compEnvC scope cl C env)) (LCg.CompEnd h₀ L m { s with heap := h, toks := tk } I oI C oC D (LCg.lst ys) S (fun y news' => Inv (i + 1) (ys ++ [y]) news')) E' { s with heap := h, toks := tk })
    (done : ∀ ys news, Inv n ys news → Fin ys news) :
    ∀ k i ys news, i + k = n → Inv i ys news → LCg.CompRest prog w A h₀ L m env elt x scope cl s S P Fin k i ys news
  | 0, i, ys, news, e, h => LCg.CompRest.zero (done ys news (by rw [← e]; exact h))
  | k + 1, i, ys, news, e, h => LCg.CompRest.succ fun v I oI C oC D m₂ h' tk E' hP hC hx F N off ne =>
    wpAny_mono (step i ys news (by omega) h v I oI C oC D m₂ h' tk E' hP hC hx F N off ne) (fun y s₂ he => by
      obtain ⟨h2, tk2, news2, e2, F2, N2, o2, hS, r⟩ := he
      exact ⟨h2, tk2, news2, e2, F2, N2, o2, hS, comp_ind Inv step done k (i + 1) _ _ (by omega) r⟩) fun _ _ e => e
end
/-- the datum of the row that stands last for the number k -/
def datOf (rs : List Row) (k : Int) : Dat :=
  match gt (lastX rs) k with
  | some i => match rs[i]? with
    | some r => .tuple [.int r.gen, TD r.k]
    | none => .none
  | none => .none
theorem datOf_eq {rs : List Row} {k : Int} {i : Nat} {r : Row} (h : gt (lastX rs) k = some i) (hr : rs[i]? = some r) : datOf rs k = .tuple [.int r.gen, TD r.k] := by
  unfold datOf
  rw [h]
  dsimp only
  rw [hr]
theorem ints_get {vs : List Value} {ns : List Int} (h : IntsAre vs ns) : ∀ {i : Nat} {v : Value}, vs[i]? = some v → ∃ k t, ns[i]? = some k ∧ v = .int k t := by
  induction h with
  | nil => intro i v e; simp at e
  | cons k t r ih =>
    intro i v e
    cases i with
    | zero => simp at e; exact ⟨k, t, by simp, e.symm⟩
    | succ i =>
      obtain ⟨k', t', h1, h2⟩ := ih (i := i) (v := v) (by simpa using e)
      exact ⟨k', t', by simpa using h1, h2⟩
theorem gt_of_mem {α : Type} {xs : List (Int × α)} {k : Int} (h : k ∈ xs.map (·.1)) : ∃ x, gt xs k = some x := by
  obtain ⟨p, hp, rfl⟩ := List.mem_map.mp h
  unfold gt
  cases e : xs.find? fun q => q.1 = p.1 with
  | some q => exact ⟨_, rfl⟩
  | none =>
    have := List.find?_eq_none.mp e p hp
    simp at this
structure CInv (PP : Addr) (b3 b2 b1 R oP x1 x2 x3 x4 x5 x6 : Addr × Obj) (fz : Led) (ds : List Dat) (i : Nat) (ys : List Value) (nw : Led) : Prop where
  ex : ∃ tl : Led, nw = b3 :: b2 :: b1 :: L8 R oP x1 x2 x3 x4 x5 x6 (fz ++ tl) ∧ DatAll tl ys (ds.take i) ∧ ∀ q ∈ tl, @LT.lt Nat _ PP q.1
theorem cinv_init {PP : Addr} {b3 b2 b1 R oP x1 x2 x3 x4 x5 x6 : Addr × Obj} {fz : Led} {ds : List Dat} : CInv PP b3 b2 b1 R oP x1 x2 x3 x4 x5 x6 fz ds 0 [] (b3 :: b2 :: b1 :: L8 R oP x1 x2 x3 x4 x5 x6 fz) := ⟨[], by rw [List.append_nil], .nil, fun _ h => nomatch h⟩
end Mine
end

/-! EqB -/
section
open PySem PySem.W PyProof.Rows
set_option maxRecDepth 100000
set_option maxHeartbeats 8000000
namespace Mine
open PySem.SeqAt PySem.MeetsSeq
def dok : Nat → Dat → Bool
  | _, .int _ => true
  | _, .str _ => true
  | _, .bytes _ => true
  | n + 1, .tuple ds => ds.all (dok n)
  | _, _ => false
theorem eqAt_bytes {A : Around} {s : Shared} (b : Array UInt8) (t u : Tok) : EqAt A s (.bytes b t) (.bytes b u) true := fun prog w E Q h => by
  unfold eqBool
  refine wpAny_holding ?_
  refine wpAny_ite_split (fun hab => ?_) (fun _ => ?_)
  · exact wpAny_bind (wpAny_rule (wpAny_pure h))
  · exact wpAny_bind (eq_bytes (wpAny_truthy_bool (by simpa using h)))
theorem datAll_get {l : Led} : ∀ {vs : List Value} {ds : List Dat}, DatAll l vs ds → ∀ (j : Nat) (h : j < vs.length), ∃ d, d ∈ ds ∧ ds[j]? = some d ∧ DatIn l vs[j] d
  | _, _, .nil, _, h => absurd h (Nat.not_lt_zero _)
  | _, _, .cons (d := d) x r, 0, h => ⟨d, .head _, rfl, x⟩
  | _, _, .cons x r, j + 1, h => by
    obtain ⟨d, h1, h2, h3⟩ := datAll_get r j (Nat.lt_of_succ_lt_succ h)
    exact ⟨d, .tail _ h1, h2, h3⟩
theorem all_true : ∀ n : Nat, (List.range n).all (fun _ => true) = true := fun n => by simp
theorem eqAt_dat {s : Shared} {h₀ : Heap} {L : Addr} {news : Led} (N : News h₀ L s.heap news) : ∀ (n : Nat) (A : Around) (v u : Value) (d : Dat), dok n d = true → DatIn news v d → DatIn news u d → A.units + n < cLine → EqAt A s v u true
  | _, A, _, _, .int i, _, .int _ t, .int _ t', _ => by simpa using EqAt.int_int (A := A) (s := s) i t i t'
  | _, A, _, _, .str i, _, .str _ t, .str _ t', _ => by simpa using EqAt.str_str (A := A) (s := s) i t i t'
  | _, A, _, _, .bytes i, _, .bytes _ t, .bytes _ t', _ => eqAt_bytes i t t'
  | n + 1, A, _, _, .tuple ds, hk, .tuple (a := a) (vs := vs) hm r, .tuple (a := b) (vs := us) hm' r', hu => by
    have hu' : A.in1.units + n < cLine := by
      show A.units + 1 + n < cLine
      omega
    by_cases hab : a = b
    · subst hab; exact EqAt.same _
    · have l1 := r.length
      have l2 := r'.length
      refine EqAt.of_refs hab ?_
      have := RcAt.tuples (A := A) (s := s) (l := a) (b := b) (items := vs.toArray) (items2 := us.toArray) (e := fun _ => true) ⟨_, N.get hm, rfl, _, rfl⟩ ⟨_, N.get hm', rfl, _, rfl⟩ (by omega) (fun j j1 j2 => ?_)
      · rw [all_true, List.size_toArray, List.size_toArray, l1, l2] at this
        simpa using this
      · obtain ⟨d, h1, h2, h3⟩ := datAll_get r j (by simpa using j1)
        obtain ⟨d', k1, k2, k3⟩ := datAll_get r' j (by simpa using j2)
        rw [h2] at k2
        cases k2
        exact eqAt_dat N n A.in1 _ _ d (List.all_eq_true.mp hk d h1) (by simpa using h3) (by simpa using k3) hu'
  | 0, _, _, _, .tuple _, hk, _, _, _ => by cases hk
  | _, _, _, _, .none, hk, _, _, _ => by simp [dok] at hk
  | _, _, _, _, .bool _, hk, _, _, _ => by simp [dok] at hk
  | _, _, _, _, .list _, hk, _, _, _ => by simp [dok] at hk
theorem ne_dats {prog : Program} {w : World} {A : Around} {E : Value → Shared → Prop} {s : Shared} {h₀ : Heap} {L a b : Addr} {news n₁ n₂ : Led} {xs ys : List Value} {ds : List Dat} {ka kb : Nat} {Q : Value → Shared → Prop} (N : News h₀ L s.heap news) (ma : (a, listOf xs.toArray ka) ∈ news) (mb : (b, listOf ys.toArray kb) ∈ news)
    (Da : DatAll n₁ xs ds) (sa : ∀ p ∈ n₁, p ∈ news) (Db : DatAll n₂ ys ds) (sb : ∀ p ∈ n₂, p ∈ news) (hk : ∀ d ∈ ds, dok 8 d = true) (hu : A.units + 64 < cLine) (h : Q (.bool false) s) : wpAny (model prog w) A (compareOp .NotEq (.ref a) (.ref b)) Q E s := by
  have l1 := Da.length
  have l2 := Db.length
  have := RcNeAt.lists (A := A) (s := s) (l := a) (b := b) (items := xs.toArray) (items2 := ys.toArray) (e := fun _ => true) ⟨_, N.get ma, rfl, _, rfl⟩ ⟨_, N.get mb, rfl, _, rfl⟩ (by simp; omega) (by omega) (fun j j1 j2 => ?_)
  · rw [all_true] at this
    exact this prog w E Q h
  · obtain ⟨d, h1, h2, h3⟩ := datAll_get (Da.mono sa) j (by simpa using j1)
    obtain ⟨d', k1, k2, k3⟩ := datAll_get (Db.mono sb) j (by simpa using j2)
    rw [h2] at k2
    cases k2
    exact eqAt_dat N 8 A.in1 _ _ d (hk d h1) (by simpa using h3) (by simpa using k3) (by show A.units + 1 + 8 < cLine; omega)
theorem dok_TD (k : VK) : dok 7 (TD k) = true := by cases k <;> rfl
end Mine
end

/-! Use6 -/
section
open PySem PySem.W PyProof.Rows
set_option maxRecDepth 100000
set_option maxHeartbeats 8000000
namespace Mine
theorem cinv_end {h₀ g h' : Heap} {L : Addr} {m : Str → Option Value} {s₁ : Shared} {I C D : Addr} {oI oC : Obj} {PP : Addr} {oPP : Obj} {b3 b2 b1 R x1 x2 x3 x4 x5 x6 : Addr × Obj} {fz tl tl' : Led} {ds : List Dat} {i : Nat} {ys : List Value} {S : Led → Prop} {tk : Nat} {gen : Int} {tt : Tok} {v : Value} {d : Dat} {T : Addr} {n : Nat}
    (F : Fr h₀ L h' m) (N : News h₀ L h' ((T, ({ cls := .type "tuple", data := .seq [.int gen tt, v].toArray n } : Obj)) :: (I, oI) :: (C, oC) :: (D, LCg.lst ys) :: b3 :: b2 :: b1 :: L8 R (PP, oPP) x1 x2 x3 x4 x5 x6 (fz ++ tl ++ tl')))
    (N0 : News h₀ L g ((I, oI) :: (C, oC) :: (D, LCg.lst ys) :: b3 :: b2 :: b1 :: L8 R (PP, oPP) x1 x2 x3 x4 x5 x6 (fz ++ tl ++ tl'))) (hT : T = g.objs.size)
    (hA : Above tl' ((I, oI) :: (C, oC) :: (D, LCg.lst ys) :: b3 :: b2 :: b1 :: L8 R (PP, oPP) x1 x2 x3 x4 x5 x6 (fz ++ tl))) (off : LCg.Off3 I C D (b3 :: b2 :: b1 :: L8 R (PP, oPP) x1 x2 x3 x4 x5 x6 (fz ++ tl)))
    (hS : ∀ l, S (b3 :: l)) (hdat : DatAll tl ys (ds.take i)) (htl : ∀ q ∈ tl, @LT.lt Nat _ PP q.1) (hd : DatIn tl' v d) (hi : ds[i]? = some (.tuple [.int gen, d])) :
    LCg.CompEnd h₀ L m s₁ I oI C oC D (LCg.lst ys) S (fun y news' => CInv PP b3 b2 b1 R (PP, oPP) x1 x2 x3 x4 x5 x6 fz ds (i + 1) (ys ++ [y]) news') (.ref T) { s₁ with heap := h', toks := tk } := by
  have hlt := fun q hq => Heap.lt_size (N0 q hq).1
  rw [← hT] at hlt
  refine LCg.CompEnd.intro F N (b3 :: b2 :: b1 :: L8 R (PP, oPP) x1 x2 x3 x4 x5 x6 (fz ++ (tl ++ tl' ++ [(T, ({ cls := .type "tuple", data := .seq [.int gen tt, v].toArray n } : Obj))]))) (fun q hq => ?_) ?_ (hS _) ⟨tl ++ tl' ++ [(T, ({ cls := .type "tuple", data := .seq [.int gen tt, v].toArray n } : Obj))], rfl, ?_, ?_⟩
  · simp only [L8, List.mem_cons, List.mem_append, List.not_mem_nil, or_false] at hq ⊢
    grind
  · have o2 : LCg.Off3 I C D (tl' ++ [(T, ({ cls := .type "tuple", data := .seq [.int gen tt, v].toArray n } : Obj))]) := LCg.Off3.of fun q hq => by
      rcases List.mem_append.mp hq with hq | hq
      · obtain ⟨hI, hC, hD, _⟩ := hA q hq
        exact ⟨Nat.ne_of_gt hI, Nat.ne_of_gt hC, Nat.ne_of_gt hD⟩
      · rw [List.mem_singleton.mp hq]
        exact ⟨Nat.ne_of_gt (hlt _ (.head _)), Nat.ne_of_gt (hlt _ (.tail _ (.head _))), Nat.ne_of_gt (hlt _ (.tail _ (.tail _ (.head _))))⟩
    have := off3_app off o2
    simpa only [L8, List.cons_append, List.append_assoc] using this
  · rw [take_snoc hi]
    refine DatAll.append (hdat.mono fun q hq => List.mem_append_left _ (List.mem_append_left _ hq)) (.one ?_)
    exact DatIn.tuple (List.mem_append_right _ (.head _)) (.cons (.int _ _) (.cons (hd.mono fun q hq => List.mem_append_left _ (List.mem_append_right _ hq)) .nil))
  · intro q hq
    rcases List.mem_append.mp hq with hq | hq
    · rcases List.mem_append.mp hq with hq | hq
      · exact htl q hq
      · exact (hA q hq).2.2.2.2.2.2.2.1
    · rw [List.mem_singleton.mp hq]
      exact hlt _ (.tail _ (.tail _ (.tail _ (.tail _ (.tail _ (.tail _ (.tail _ (.head _))))))))
theorem item_nat {prog : Program} {w : World} {A : Around} {E : Value → Shared → Prop} {s : Shared} {h₀ : Heap} {L l : Addr} {news : Led} {value slice : PySem.Expr} {vs : List Value} {n j : Nat} {u : Tok} {x : Value} {Q : Value → Shared → Prop}
    (N : News h₀ L s.heap news) (hm : (l, listOf vs.toArray n) ∈ news) (hx : vs[j]? = some x) (hb : vs.length < 2 ^ 62) (h : Q x s)
    (hs : subscripted slice false (.ref l) (.int (j : Int) u) = operate [.ref l, .int (j : Int) u] (getItem (.ref l) (.int (j : Int) u)) := by with_unfolding_all rfl) :
    wpAny (model prog w) A (subscriptTail value slice (.ref l) (.int (j : Int) u)) Q E s :=
  item_at N hm (Int.natCast_nonneg _) (by have := (List.getElem?_eq_some_iff.mp hx).1; omega) hb (fun i v hv hi => by
    have e : i = j := by omega
    rw [e, hx] at hv
    cases hv
    exact h) hs
theorem map_get {α β : Type} {f : α → β} {xs : List α} {i : Nat} {x : α} (h : xs[i]? = some x) : (xs.map f)[i]? = some (f x) := by simp [h]
end Mine
end

/-! DP -/
section
open PySem PySem.W PyProof.Rows
set_option maxRecDepth 100000
set_option maxHeartbeats 8000000
namespace Mine
/-! dict(a list of (int, value) pairs) -/
theorem f_plain_update_loop : plainId "dict.update.loop" = true := by decide +kernel
theorem f_entry_update_loop : entryFor table "dict.update.loop" = some Builtin.«dict.update.loop» := entryFor_of_tree (by kernel_rfl)
theorem f_list_keys : typeLookup (.type "list") "keys" = pure none := am_miss_of_fast (by kernel_rfl)
section
variable {prog : Program} {w : World} {A : Around} {E : Value → Shared → Prop} {s : Shared}
theorem no_keys {a : Addr} {o : Obj} {xs : Array Value} {k : Nat} {Q : Option Value → Shared → Prop}
    (hx : s.heap.get? a = some o) (hc : o.cls = .type "list") (hdat : o.data = .seq xs k) (hd : o.dict = none) (hA : A.handled = none)
    (h : ∀ h' tk, (∀ b o, s.heap.get? b = some o → h'.get? b = some o) → Q none { s with heap := h', toks := tk }) :
    wpAny (model prog w) A (getAttr? (.ref a) "keys") Q E s := by
  obtain ⟨c, dct, dat, sl⟩ := o
  simp only at hc hdat hd
  subst hc hdat hd
  obtain ⟨hp, g, d, tk, os⟩ := s
  have hT : ∀ tk', (⟨hp, g, d, tk', os⟩ : Shared).TypeIs (.ref a) "list" := fun _ => ⟨_, hx, rfl⟩
  have f1 := sub_AttributeError
  have f3 := F.slot_list_getattribute.lookup
  have f4 := F.slot_list_getattribute.bind (.ref a)
  have f5 := am_list_getattr_none
  have f6 := f_list_keys
  unfold getAttr? getAttrBy? getAttrBy
  repeat (any_goals (first | assumption | exact hT _ | ((with_reducible show wpAny _ _ (call (Value.builtin "list.__getattribute__") _ _) _ _ _); refine call_meets F.slot_list_getattribute (hT _) am_entry_list_getattribute (F.args_list_getattribute_2 _ _) (meets_getattribute_miss_list a xs k sl _ _ f6 (by decide) (by size_fits)) ⟨hx, hA, fun h' tk' e hx' => ?_⟩) | wp_step))
  obtain ⟨t', u', he⟩ := hx'.there
  show wpAny _ _ (getattributeRaised _ _ _ _ _ _ _) _ _ _
  unfold getattributeRaised
  repeat (any_goals (first | assumption | wp_step))
  exact h _ _ hx'.keeps
end
theorem dict_at {prog : Program} {w : World} {K : Type} [DecidableEq K] {knd : KeyKind prog w K} {h h' : Heap} {a : Addr} {kvs : List (K × Value)} (hm : h.DictOf knd a kvs) (e : ∀ o, h.get? a = some o → h'.get? a = some o) : h'.DictOf knd a kvs :=
  let ⟨o, es, ep, ho, r⟩ := hm; ⟨o, es, ep, e o ho, r⟩
/-- the pair (k, x) lies at v -/
structure PrIn (l : List (Addr × Obj)) (v : Value) (p : Int × Value) : Prop where
  ex : ∃ (a : Addr) (n : Nat) (t : Tok), v = .ref a ∧ (a, ({ cls := .type "tuple", data := .seq [.int p.1 t, p.2].toArray n } : Obj)) ∈ l
section
variable {prog : Program} {w : World} {A : Around} {R : Result → Shared → Prop} {I d src : Addr} {vs : List Value} {kvs : List (Int × Value)} {l : List (Addr × Obj)}
theorem upd_loop (hh : A.handled = none) (hn : vs.length ≤ 64) (hdI : d ≠ I) (hds : d ≠ src) (hIs : src ≠ I) (hld : ∀ q ∈ l, q.1 ≠ d) (hlI : ∀ q ∈ l, q.1 ≠ I) (hA : All2 (PrIn l) vs kvs) :
    ∀ (k i : Nat) (s : Shared) (j : Int) (u : Tok), vs.length - i = k → i ≤ vs.length → s.heap.IsListIter I src i → s.heap.IsList src vs.toArray → (∀ q ∈ l, s.heap.get? q.1 = some q.2) → s.heap.DictOf (PySem.intKind prog w) d (merged [] (kvs.take i)) →
    (∀ h' tk, (∀ b o, b ≠ d → b ≠ I → s.heap.get? b = some o → h'.get? b = some o) → h'.DictOf (PySem.intKind prog w) d (merged [] kvs) → R (.ok (.ret .none)) { s with heap := h', toks := tk }) →
    codeAny (model prog w) A (.builtin "dict.update.loop" ⟨[.ref d, .ref I, .int j u, .none], []⟩) R s := by
  have W := Walks.list (prog := prog) (w := w) (A := A.in1) hh I src hIs vs.toArray
  have hlen := hA.length
  intro k
  induction k with
  | zero =>
    intro i s j u hk hi hit hl hq hd hR
    have hin : i = vs.length := by omega
    subst hin
    refine codeAny_builtin f_entry_update_loop ?_
    rw [Around.under_plainId f_plain_update_loop _]
    show wpAny _ A.in1 (pyNext (.ref I) >>= _) _ _ s
    refine wpAny_bind (W.done s _ _ (by rw [List.size_toArray]; exact ⟨hit, hl⟩) fun h' tk hm => ?_)
    have hd' : s.heap.DictOf (PySem.intKind prog w) d (merged [] kvs) := by rwa [hlen, List.take_length] at hd
    refine wpAny_bind (wpAny_pure ?_)
    exact wpAny_pure (hR h' tk (fun b o _ hb e => hm b o (by simpa using hb) e) (dict_at hd' fun o e => hm d o (by simpa using hdI) e))
  | succ k ih =>
    intro i s j u hk hi hit hl hq hd hR
    have hlt : i < vs.length := by omega
    refine codeAny_builtin f_entry_update_loop ?_
    rw [Around.under_plainId f_plain_update_loop _]
    show wpAny _ A.in1 (pyNext (.ref I) >>= _) _ _ s
    refine wpAny_bind (W.item i s _ _ (by rw [List.size_toArray]; exact hlt) ⟨hit, hl⟩ fun v h' tk hv st hm => ?_)
    have hkv : ∃ p, kvs[i]? = some p := ⟨kvs[i]'(by omega), by simp [hlen ▸ hlt]⟩
    obtain ⟨p, hp⟩ := hkv
    obtain ⟨v', hv', hpr⟩ := hA.get hp
    have hvv : v = v' := by
      rw [List.getElem?_toArray] at hv
      rw [hv] at hv'
      exact Option.some.inj hv'
    subst hvv
    obtain ⟨a, n, t, rfl, ha⟩ := hpr.ex
    have ha' : h'.get? a = some { cls := .type "tuple", data := .seq [.int p.1 t, p.2].toArray n } := hm a _ (by simpa using hlI _ ha) (hq _ ha)
    have hd' : h'.DictOf (PySem.intKind prog w) d (merged [] (kvs.take i)) := dict_at hd fun o e => hm d o (by simpa using hdI) e
    refine wpAny_bind (wpAny_holding ?_)
    refine wpAny_bind (wpAny_tryCatch ?_)
    unfold Builtin.Dict.pairItems
    refine wpAny_bind (wpAny_typeOf (T := "tuple") ⟨_, ha', rfl⟩ ?_)
    rw [if_pos (by decide)]
    refine wpAny_bind (wpAny_seqItems ha' rfl ?_)
    refine wpAny_pure ?_
    show wpAny _ _ (holding _ (dictSet d (.int p.1 t) p.2)) _ _ _
    refine wpAny_holding ?_
    have hle : (merged [] (kvs.take i)).length ≤ sizeLine := by
      have e1 := merged_length_le ([] : List (Int × Value)) (kvs.take i)
      rw [List.length_take] at e1
      rw [sizeLine_eq]
      simp only [List.length_nil] at e1
      omega
    refine wpAny_dictSet_pairs (k := p.1) (by simp [PySem.intKind, Value.isInt]) hd' (fun h'' hd'' hs => ?_) hle
    refine wpAny_pure ⟨plainId_quiet f_plain_update_loop _, ih (i + 1) _ _ _ (by omega) hlt (st.1.at fun o e => hs.extBut I o hdI.symm e) (st.2.at fun o e => hs.extBut src o hds.symm e) (fun q hq' => hs.extBut _ _ (hld q hq') (hm _ _ (by simpa using hlI q hq') (hq q hq'))) ?_ fun h3 tk3 hm3 hd3 => ?_⟩
    · rw [merged_take_succ [] kvs i p hp]; exact hd''
    · exact hR h3 tk3 (fun b o hb hb' e => hm3 b o hb hb' (hs.extBut b o hb (hm b o (by simpa using hb') e))) hd3
end
section
variable {prog : Program} {w : World} {A : Around} {E : Value → Shared → Prop} {s : Shared} {h₀ : Heap} {L src : Addr} {m : Str → Option Value} {news : List (Addr × Obj)} {vs : List Value} {kvs : List (Int × Value)} {n : Nat}
theorem dict_of_pairs {Q : Value → Shared → Prop} (hh : A.handled = none) (F : Fr h₀ L s.heap m) (N : News h₀ L s.heap news) (hbig : h₀.NoLimit) (hm : (src, listOf vs.toArray n) ∈ news) (hA : All2 (PrIn news) vs kvs) (hn : vs.length ≤ 64)
    (k : ∀ (d : Addr) h' o tk, Fr h₀ L h' m → News h₀ L h' ((d, o) :: news) → (∀ p ∈ news, p.1 < d) → (d == sysModules) = false → o.IsDictOf (PySem.intKind prog w) (merged [] kvs) → Q (.ref d) { s with heap := h', toks := tk }) :
    wpAny (model prog w) A (call (.type "dict") [.ref src]) Q E s := by
  refine callType_codes (Q₁ := fun obj s₁ => obj = .ref s.heap.objs.size ∧ s₁ = { s with heap := s.heap.push { cls := .type "dict", data := .dict #[] } }) PySem.F.kt_called_dict (PySem.F.kt_typeCall_dict_1 _) PySem.F.entry_dict_init (kt_code_dict_new _ ⟨rfl, rfl⟩) ?_
  rintro obj s₁ ⟨rfl, rfl⟩
  have hnew : (s.heap.push { cls := .type "dict", data := .dict #[] }).DictOf (PySem.intKind prog w) s.heap.objs.size [] := Heap.DictOf.new s.heap
  refine ⟨hnew.typeIs, PySem.F.args_dict_init_2 _ _, ?_⟩
  have hsrc : (s.heap.push { cls := .type "dict", data := .dict #[] }).get? src = some (listOf vs.toArray n) := Heap.get?_push_of_some _ (N _ hm).1
  have hlt : ∀ q ∈ news, q.1 < s.heap.objs.size := fun q hq => Heap.lt_size (N q hq).1
  unfold Builtin.«dict.__init__»
  refine wpAny_bind ?_
  unfold Builtin.Dict.selfAndRest
  refine wpAny_bind (wpAny_notOrdered_dict hnew.typeIs ?_)
  show wpAny _ _ (pure (s.heap.objs.size, [Value.ref src])) _ _ _
  refine wpAny_pure ?_
  show wpAny _ _ (Builtin.Dict.updateFrom "dict.__init__" s.heap.objs.size (.ref src) [] .none) _ _ _
  unfold Builtin.Dict.updateFrom
  refine wpAny_bind (wpAny_typeOf (T := "list") ⟨_, hsrc, rfl⟩ ?_)
  rw [if_pos (by decide)]
  refine wpAny_bind ?_
  refine no_keys hsrc rfl rfl rfl hh fun h1 tk1 hk1 => ?_
  rw [if_pos (by rfl)]
  refine wpAny_bind (wpAny_rule ?_)
  have hl1 : h1.IsList src vs.toArray := ⟨_, hk1 _ _ hsrc, rfl, _, rfl⟩
  refine wpAny_bind (wpAny_pyIter_list hl1 ?_)
  have hd1 := dict_at hnew (fun o e => hk1 _ o e)
  have hs1 : s.heap.objs.size < h1.objs.size := by obtain ⟨o, _, _, ho, _⟩ := hd1; exact Heap.lt_size ho
  refine wpAny_pure ⟨plainId_quiet f_plain_update_loop _, upd_loop (A := A.in1) hh hn (Nat.ne_of_lt hs1) (Nat.ne_of_gt (hlt _ hm)) (Nat.ne_of_lt (Nat.lt_trans (hlt _ hm) hs1)) (fun q hq => Nat.ne_of_lt (hlt q hq)) (fun q hq => Nat.ne_of_lt (Nat.lt_trans (hlt q hq) hs1)) hA vs.length 0 _ 0 0 rfl (Nat.zero_le _) ⟨_, Heap.get?_push_size _ rfl, rfl, rfl⟩ (hl1.push _) (fun q hq => Heap.get?_push_of_some _ (hk1 _ _ (Heap.get?_push_of_some _ (N q hq).1))) (hd1.push _) fun h2 tk2 hk2 hd2 => ?_⟩
  have keep : ∀ b o, s.heap.get? b = some o → h2.get? b = some o := fun b o e => by
    have hb : b < s.heap.objs.size := Heap.lt_size e
    exact hk2 b o (Nat.ne_of_lt hb) (Nat.ne_of_lt (Nat.lt_trans hb hs1)) (Heap.get?_push_of_some _ (hk1 _ _ (Heap.get?_push_of_some _ e)))
  obtain ⟨o', ho', hd'⟩ := Heap.dictOf_iff.mp hd2
  exact ⟨rfl, k _ h2 o' tk2 (F.keeps keep) (news_pushed F N keep ho' rfl) hlt (F.notModules (modules_low hbig)) hd'⟩
end
end Mine
end

/-! LCD -/
section
open PySem PySem.W PyProof.Rows PySem.Calls PyProof.V PySem.Spec PyProof.Rows.LCg PyProof.Rows.LCt
set_option maxRecDepth 100000
set_option maxHeartbeats 8000000
namespace Mine
/-! a list comprehension with one test over the keys of an int dict -/
def CompSrcD (prog : Program) (w : World) (A : Around) (h₀ : Heap) (L : Addr) (m : Str → Option Value) (env : Env) (ct elt : Expr) (x : Str) (scope : Scope) (cl : List (Str × Addr)) (Fin : Shared → List Value → List (Addr × Obj) → Prop) (xv : Value) (s₁ : Shared) : Prop :=
  ∃ (d : Addr) (od : Obj) (kvs : List (Int × Value)) (news : List (Addr × Obj)), xv = .ref d ∧ A.handled = none ∧ (d == sysModules) = false ∧ Fr h₀ L s₁.heap m ∧ News h₀ L s₁.heap news ∧ (d, od) ∈ news ∧ od.IsDictOf (PySem.intKind prog w) kvs ∧ kvs.length ≤ sizeLine ∧
    ∀ s₂ : Shared, (∃ h, s₂ = { s₁ with heap := h }) → CompRestT prog w A h₀ L m env ct elt x scope cl s₂ (fun nw => (d, od) ∈ nw) (fun i v => ∃ k y t, kvs[i]? = some (k, y) ∧ v = .int k t) (Fin s₂) kvs.length 0 [] news
section
variable {prog : Program} {w : World} {A : Around} {E : Value → Shared → Prop} {s : Shared} {h₀ : Heap} {L : Addr} {m : Str → Option Value} {env : Env}
theorem walks_keys (hh : A.handled = none) (I d : Addr) (hne : d ≠ I) (kvs : List (Int × Value)) (ep : Nat) :
    Walks prog w A I [I, d] [I] kvs.length (fun i v => ∃ k y t, kvs[i]? = some (k, y) ∧ v = .int k t) (fun i h => h.IsKeyIter I d i kvs.length ep ∧ h.DictAt (PySem.intKind prog w) d kvs ep) :=
  let W := Walks.dictKeys (prog := prog) (w := w) (knd := PySem.intKind prog w) hh I d hne kvs ep
  { sub := W.sub, frame := W.frame, done := W.done, self := W.self
    item := fun i s Q E hi st hQ => W.item i s Q E hi st fun v h' tk hv st' hm => hQ v h' tk (by
      obtain ⟨k, y, hk, hi⟩ := hv
      obtain ⟨t, rfl⟩ := Value.isInt_shape hi
      exact ⟨k, y, t, hk, rfl⟩) st' hm }
theorem ListComp_TD {ct elt iter : Expr} {x : Str} {px : Pos} {scope : Scope} {cl : List (Str × Addr)} {pos : Pos} {Q : Value → Shared → Prop} (F₀ : Fr h₀ L s.heap m)
    (hclos : closureFor scope env = pure cl) (hcell : ∀ y ∈ scope.names, y.2 ≠ .cell) (hkind : scope.kind = .function)
    (hnames : ∀ y ∈ scope.names, y.2 = .local → scope.names.lookup y.1 = some .local) (hx : scope.names.lookup x = some .local)
    (h : wpAny (model prog w) A (eval iter env) (CompSrcD prog w A h₀ L m env ct elt x scope cl (fun s₂ => FinE h₀ L m s₂ Q)) E s)
    (hs : ∀ x, foldedSetIterable iter env x = pure x := by intro _; rfl) :
    wpAny (model prog w) A (eval (.ListComp elt [⟨.Name x px, iter, [ct], 0⟩] scope pos) env) Q E s := by
  rw [eval_ListComp]
  refine wpAny_comprehension_free (use := none) rfl hs hclos hkind hnames (wpAny_mono h (fun xv s₁ h₁ => ?_) fun _ _ e => e)
  obtain ⟨d, od, kvs, news, rfl, hh, lo, F, N, hm, hd, hsz, R⟩ := h₁
  have hdo : s₁.heap.DictOf (PySem.intKind prog w) d kvs := Heap.dictOf_iff.mpr ⟨od, (N _ hm).1, hd⟩
  obtain ⟨ep, hat⟩ := hdo.dictAt
  have hlt : d < s₁.heap.objs.size := hat.lt_size
  have hat' : ∀ h : Heap, h.get? d = some od → h.DictAt (PySem.intKind prog w) d kvs ep := fun h e => by
    obtain ⟨o, es, ho, r⟩ := id hat
    rw [(N _ hm).1] at ho
    cases ho
    exact ⟨od, es, e, r⟩
  refine wpAny_pyIter_dict lo hat ?_
  have up : ∀ b o, s₁.heap.get? b = some o → (s₁.heap.push { cls := .type "dict_keyiterator", data := .fields #[.ref d, .int 0 0, .int kvs.length 0, .int ep 0] }).get? b = some o := fun b o e => Heap.get?_push_of_some _ e
  refine block_T (walks_keys hh s₁.heap.objs.size d (Nat.ne_of_lt hlt) kvs ep) hsz (fun i h st => by obtain ⟨o, e, _⟩ := st.1; exact ⟨o, e⟩) ?_ hcell hkind hx ⟨⟨_, Heap.get?_push_size _ rfl, rfl, rfl⟩, hat.push _⟩ (fun b hb => ?_)
    (F.keeps up) (N.grown up) (Nat.ne_of_lt F.ns.lt) (next_is_new F) (fun p hp => Nat.ne_of_lt (Heap.lt_size (N p hp).1)) hm (R _ ⟨_, rfl⟩) ?_
  · intro i h h' o nw st e e' _ N' hm'
    refine ⟨by obtain ⟨o', q, r⟩ := st.1; rw [e] at q; cases q; exact ⟨o, e', r⟩, ?_⟩
    exact hat' _ (N' _ hm').1
  · show b < (s₁.heap.push _).objs.size
    rw [Heap.size_push]
    rcases List.mem_cons.mp hb with rfl | hb
    · exact Nat.lt_succ_self _
    · rw [List.mem_singleton.mp hb]; exact Nat.lt_succ_of_lt hlt
  · intro D C h' tk m' ys news' F' N' o1 hn hC₀ hD₀ hCL hDL hCD offC fin
    refine ⟨m', hn, fun h'' hs'' => fin D h'' tk (F'.change hs'' hCL hC₀) (fun p hp => ?_) o1⟩
    refine ⟨hs''.extBut _ _ ?_ (N' p hp).1, (N' p hp).2⟩
    rcases List.mem_cons.mp hp with rfl | hp
    · exact Ne.symm hCD
    · exact offC p hp
end
section
variable {prog : Program} {w : World} {A : Around} {h₀ : Heap} {L : Addr} {m : Str → Option Value} {env : Env} {ct elt : Expr} {x : Str} {scope : Scope} {cl : List (Str × Addr)} {s : Shared} {S : List (Addr × Obj) → Prop} {P : Nat → Value → Prop} {Fin : List Value → List (Addr × Obj) → Prop}
theorem compT_ind {n : Nat} (Inv : Nat → List Value → List (Addr × Obj) → Prop)
    (step : ∀ i ys news, i < n → Inv i ys news → ∀ v I oI C oC D m₂ h tk (E' : Value → Shared → Prop), P i v → LCg.NsObj oC m₂ → m₂ x = some v → Fr h₀ L h m → News h₀ L h ((I, oI) :: (C, oC) :: (D, LCg.lst ys) :: news) → LCg.Off3 I C D news → ((@Ne Nat I C) ∧ (@Ne Nat I D) ∧ (@Ne Nat C D)) →
      wpAny (model prog w) A (isTrue ct (compEnvC scope cl C env) (eval ct (compEnvC scope cl C env))) (fun b s' => if b = true then wpAny (model prog w) A (eval elt (compEnvC scope cl C env)) (LCg.CompEnd h₀ L m { s with heap := h, toks := tk } I oI C oC D (LCg.lst ys) S (fun y news' => Inv (i + 1) (ys ++ [y]) news')) E' s'
        else LCg.CompEnd h₀ L m { s with heap := h, toks := tk } I oI C oC D (LCg.lst ys) S (fun _ news' => Inv (i + 1) ys news') Value.none s') E' { s with heap := h, toks := tk })
    (done : ∀ ys news, Inv n ys news → Fin ys news) : ∀ (k i : Nat) (ys : List Value) (news : List (Addr × Obj)), i + k = n → Inv i ys news → LCt.CompRestT prog w A h₀ L m env ct elt x scope cl s S P Fin k i ys news
  | 0, i, ys, news, e, h => LCt.CompRestT.zero (done ys news (by rw [← e]; exact h))
  | k + 1, i, ys, news, e, h => LCt.CompRestT.succ fun v I oI C oC D m₂ h' tk E' hP hC hx F N off ne =>
    wpAny_mono (step i ys news (by omega) h v I oI C oC D m₂ h' tk E' hP hC hx F N off ne) (fun b s₂ hq => by
      cases b with
      | true =>
        simp only [if_true] at hq ⊢
        refine wpAny_mono hq (fun y s₃ hr => ?_) fun _ _ e => e
        obtain ⟨h2, tk2, nw, e2, F', N', off', hS, hr'⟩ := hr
        exact ⟨h2, tk2, nw, e2, F', N', off', hS, compT_ind Inv step done k (i + 1) _ _ (by omega) hr'⟩
      | false =>
        simp only [Bool.false_eq_true, if_false] at hq ⊢
        obtain ⟨h2, tk2, nw, e2, F', N', off', hS, hr'⟩ := hq
        exact ⟨h2, tk2, nw, e2, F', N', off', hS, compT_ind Inv step done k (i + 1) _ _ (by omega) hr'⟩) fun _ _ e => e
end
end Mine
end

/-! Plain -/
section
open PySem PySem.W PyProof.Rows
set_option maxRecDepth 100000
set_option maxHeartbeats 8000000
namespace Mine
/-! the plain law: what last_catalog answers is what the loop over the rows calls due -/
theorem gt_nil {α : Type} (n : Int) : gt ([] : List (Int × α)) n = none := rfl
theorem gt_cons {α : Type} (p : Int × α) (xs : List (Int × α)) (n : Int) : gt (p :: xs) n = if p.1 = n then some p.2 else gt xs n := by
  unfold gt
  rw [List.find?_cons]
  by_cases h : p.1 = n <;> simp [h]
theorem gt_app {α : Type} (xs ys : List (Int × α)) (n : Int) : gt (xs ++ ys) n = (gt xs n).or (gt ys n) := by
  induction xs with
  | nil => rw [List.nil_append, gt_nil]; rfl
  | cons p xs ih =>
    rw [List.cons_append, gt_cons, gt_cons, ih]
    split <;> rfl
theorem gt_put {α : Type} (xs : List (Int × α)) (k n : Int) (x : α) : gt (xs.map fun p => if p.1 = k then (p.1, x) else p) n = if n = k then (gt xs n).map (fun _ => x) else gt xs n := by
  induction xs with
  | nil => rw [List.map_nil, gt_nil]; split <;> rfl
  | cons p xs ih =>
    rw [List.map_cons, gt_cons, gt_cons, ih]
    by_cases h : p.1 = k
    · rw [if_pos h]
      by_cases h2 : n = k
      · subst h2; simp [h]
      · have : ¬ p.1 = n := fun e => h2 (e.symm.trans h)
        simp [h2, this]
    · rw [if_neg h]
      by_cases h2 : n = k
      · subst h2; simp [h]
      · simp [h2]
theorem gt_none_of_any {α : Type} {xs : List (Int × α)} {k : Int} (h : xs.any (fun p => p.1 = k) = false) : gt xs k = none := by
  unfold gt
  rw [List.find?_eq_none.mpr]
  · rfl
  · intro q hq hk
    have := List.any_eq_false.mp h q hq
    exact this hk
theorem gt_some_of_any {α : Type} {xs : List (Int × α)} {k : Int} (h : xs.any (fun p => p.1 = k) = true) : (gt xs k).isSome = true := by
  obtain ⟨q, hq, hk⟩ := List.any_eq_true.mp h
  unfold gt
  rw [Option.isSome_map, List.find?_isSome]
  exact ⟨q, hq, hk⟩
theorem gt_st {α : Type} (xs : List (Int × α)) (k n : Int) (x : α) : gt (st xs k x) n = if n = k then some x else gt xs n := by
  unfold st
  cases h : xs.any (fun p => p.1 = k) with
  | true =>
    rw [if_pos rfl, gt_put]
    by_cases h2 : n = k
    · subst h2
      rw [if_pos rfl, if_pos rfl]
      have := gt_some_of_any h
      cases e : gt xs n with
      | none => rw [e] at this; cases this
      | some v => rfl
    · rw [if_neg h2, if_neg h2]
  | false =>
    rw [if_neg Bool.false_ne_true, gt_app, gt_cons, gt_nil]
    by_cases h2 : n = k
    · subst h2
      rw [gt_none_of_any h]; simp
    · have : ¬ k = n := fun e => h2 e.symm
      rw [if_neg h2, if_neg this]; simp
theorem lastG_off {n : Int} : ∀ (rs : List Row) (i : Nat) (xs : List (Int × Nat)), (∀ r ∈ rs, r.num ≠ n) → gt (lastG i rs xs) n = gt xs n
  | [], _, _, _ => rfl
  | r :: rs, i, xs, h => by
    rw [lastG, lastG_off rs _ _ fun r' hr => h r' (.tail _ hr)]
    split
    · rw [gt_st, if_neg fun e => h r (.head _) e.symm]
    · rfl
theorem lastG_ge {n : Int} (hn : 0 < n) : ∀ (rs : List Row) (i : Nat) (xs : List (Int × Nat)), (∃ r ∈ rs, r.num = n) → ∃ j, i ≤ j ∧ gt (lastG i rs xs) n = some j
  | [], _, _, ⟨_, h, _⟩ => nomatch h
  | r :: rs, i, xs, h => by
    rw [lastG]
    by_cases h2 : ∃ r ∈ rs, r.num = n
    · obtain ⟨j, hj, e⟩ := lastG_ge hn rs (i + 1) (if 0 < r.num then st xs r.num i else xs) h2
      exact ⟨j, Nat.le_of_succ_le hj, e⟩
    · obtain ⟨r', hr', e⟩ := h
      rcases List.mem_cons.mp hr' with rfl | hr'
      · rw [lastG_off rs _ _ fun r2 h3 e2 => h2 ⟨r2, h3, e2⟩, if_pos (e.symm ▸ hn), gt_st, if_pos e.symm]
        exact ⟨i, Nat.le_refl _, rfl⟩
      · exact absurd ⟨r', hr', e⟩ h2
theorem lastG_append : ∀ (rs ts : List Row) (i : Nat) (xs : List (Int × Nat)), lastG i (rs ++ ts) xs = lastG (i + rs.length) ts (lastG i rs xs)
  | [], _, _, _ => rfl
  | r :: rs, ts, i, xs => by
    rw [List.cons_append, lastG, lastG, lastG_append rs ts, List.length_cons]
    congr 1
    omega
theorem lastX_at {rs ts : List Row} {r : Row} (h : 0 < r.num) : gt (lastX (rs ++ r :: ts)) r.num = some rs.length ↔ ∀ r' ∈ ts, r'.num ≠ r.num := by
  have e : lastX (rs ++ r :: ts) = lastG (rs.length + 1) ts (st (lastG 0 rs []) r.num rs.length) := by
    rw [lastX, lastG_append, lastG, if_pos h, Nat.zero_add]
  rw [e]
  constructor
  · intro h2 r' hr' e'
    obtain ⟨j, hj, e2⟩ := lastG_ge h ts (rs.length + 1) (st (lastG 0 rs []) r.num rs.length) ⟨r', hr', e'⟩
    rw [e2] at h2
    cases h2
    omega
  · intro h2
    rw [lastG_off ts _ _ h2, gt_st, if_pos rfl]
theorem lastX_some {rs : List Row} {n : Int} (hn : 0 < n) (h : ∃ r ∈ rs, r.num = n) : (gt (lastX rs) n).isSome = true := by
  obtain ⟨j, _, e⟩ := lastG_ge hn rs 0 [] h
  rw [lastX, e]; rfl
theorem lastG_pos : ∀ (rs : List Row) (i : Nat) (xs : List (Int × Nat)), (∀ p ∈ xs, 0 < p.1) → ∀ p ∈ lastG i rs xs, 0 < p.1
  | [], _, _, h => h
  | r :: rs, i, xs, h => by
    rw [lastG]
    refine lastG_pos rs _ _ ?_
    split
    · rename_i h0
      intro p hp
      unfold st at hp
      split at hp
      · obtain ⟨q, hq, rfl⟩ := List.mem_map.mp hp
        split
        · exact h q hq
        · exact h q hq
      · rcases List.mem_append.mp hp with hp | hp
        · exact h p hp
        · rw [List.mem_singleton.mp hp]; exact h0
    · exact h
theorem lastX_pos {rs : List Row} : ∀ p ∈ lastX rs, 0 < p.1 := lastG_pos rs 0 [] fun _ h => nomatch h
/-- what the law's loop calls due -/
def dueF (g : Int → Option Nat) (gone : Int) (kn : KN) : Nat → List Row → Option Row → Option Row
  | _, [], d => d
  | i, r :: rs, d => dueF g gone kn (i + 1) rs (if 0 < r.num ∧ r.num ≠ gone ∧ g r.num = some i ∧ isT r.k kn = true then some r else d)
theorem dueF_snoc {g : Int → Option Nat} {gone : Int} {kn : KN} {r : Row} : ∀ (rs : List Row) (i : Nat) (d : Option Row), dueF g gone kn i (rs ++ [r]) d = if 0 < r.num ∧ r.num ≠ gone ∧ g r.num = some (i + rs.length) ∧ isT r.k kn = true then some r else dueF g gone kn i rs d
  | [], _, _ => rfl
  | q :: rs, i, d => by
    rw [List.cons_append, dueF, dueF_snoc rs, dueF, List.length_cons]
    have : i + 1 + rs.length = i + (rs.length + 1) := by omega
    rw [this]
theorem isT_isD {k : VK} {kn : KN} (h : isT k kn = true) : isD k = true := by cases k <;> first | rfl | cases h
theorem cat_due_aux {inT : Int → Bool} {gone : Int} {kn : KN} {all : List Row} (hin : ∀ r ∈ all, (inT r.num = true ↔ 0 < r.num ∧ r.num ≠ gone)) :
    ∀ (rv ts : List Row) (xs : List (Int × Unit)), all = rv.reverse ++ ts → (∀ n : Int, (gt xs n).isSome = true ↔ inT n = true ∧ ∃ r ∈ ts, r.num = n) → lastCat inT kn rv xs = dueF (gt (lastX all)) gone kn 0 rv.reverse none
  | [], _, _, _, _ => rfl
  | r :: rv, ts, xs, ha, hx => by
    have ha' : all = rv.reverse ++ r :: ts := by rw [ha, List.reverse_cons, List.append_assoc]; rfl
    have hr : r ∈ all := by rw [ha']; exact List.mem_append_right _ (.head _)
    have hL : 0 < r.num → (gt (lastX all) r.num = some rv.reverse.length ↔ ∀ r' ∈ ts, r'.num ≠ r.num) := fun h => by rw [ha']; exact lastX_at h
    rw [List.reverse_cons, dueF_snoc, Nat.zero_add]
    have next : ∀ xs' : List (Int × Unit), (∀ n : Int, (gt xs' n).isSome = true ↔ inT n = true ∧ ∃ q ∈ r :: ts, q.num = n) → lastCat inT kn rv xs' = dueF (gt (lastX all)) gone kn 0 rv.reverse none :=
      fun xs' h => cat_due_aux hin rv (r :: ts) xs' ha' h
    cases h1 : inT r.num with
    | false =>
      rw [lastCat_skip (.inl h1), if_neg fun h => by rw [(hin r hr).mpr ⟨h.1, h.2.1⟩] at h1; cases h1]
      refine next _ fun n => (hx n).trans ⟨fun ⟨a, q, b, c⟩ => ⟨a, q, .tail _ b, c⟩, fun ⟨a, q, b, c⟩ => ⟨a, q, ?_, c⟩⟩
      rcases List.mem_cons.mp b with rfl | b
      · rw [c] at h1; rw [h1] at a; cases a
      · exact b
    | true =>
      have hp := (hin r hr).mp h1
      cases h2 : (gt xs r.num).isSome with
      | true =>
        obtain ⟨_, q, hq, e⟩ := (hx _).mp h2
        rw [lastCat_skip (.inr h2), if_neg fun h => (hL hp.1).mp h.2.2.1 q hq e]
        refine next _ fun n => (hx n).trans ⟨fun ⟨a, q, b, c⟩ => ⟨a, q, .tail _ b, c⟩, fun ⟨a, q', b, c⟩ => ⟨a, ?_⟩⟩
        rcases List.mem_cons.mp b with rfl | b
        · exact ⟨q, hq, e.trans c⟩
        · exact ⟨q', b, c⟩
      | false =>
        have hno : ∀ r' ∈ ts, r'.num ≠ r.num := fun r' h' e => by
          have := (hx r.num).mpr ⟨h1, r', h', e⟩
          rw [this] at h2; cases h2
        cases h3 : isT r.k kn with
        | true => rw [lastCat_found h1 h2 (isT_isD h3) h3, if_pos ⟨hp.1, hp.2, (hL hp.1).mpr hno, rfl⟩]
        | false =>
          rw [lastCat_seen h1 h2 (.inr h3), if_neg fun h => by cases h.2.2.2]
          refine next _ fun n => ?_
          rw [gt_st]
          by_cases hn : n = r.num
          · subst hn
            rw [if_pos rfl]
            exact ⟨fun _ => ⟨h1, r, .head _, rfl⟩, fun _ => rfl⟩
          · rw [if_neg hn]
            refine (hx n).trans ⟨fun ⟨a, q, b, c⟩ => ⟨a, q, .tail _ b, c⟩, fun ⟨a, q, b, c⟩ => ⟨a, q, ?_, c⟩⟩
            rcases List.mem_cons.mp b with rfl | b
            · exact absurd c.symm hn
            · exact b
theorem cat_due {inT : Int → Bool} {gone : Int} {kn : KN} {all : List Row} (hin : ∀ r ∈ all, (inT r.num = true ↔ 0 < r.num ∧ r.num ≠ gone)) : lastCat inT kn all.reverse [] = dueF (gt (lastX all)) gone kn 0 all none := by
  have := cat_due_aux (kn := kn) hin all.reverse [] [] (by simp) (fun n => by rw [gt_nil]; simp)
  rw [List.reverse_reverse] at this
  exact this
end Mine
end

/-! Use7 -/
section
open PySem PySem.W PyProof.Rows
set_option maxRecDepth 100000
set_option maxHeartbeats 8000000
namespace Mine
/-! the table without `gone`, with 9 -/
theorem vat_stored (kvs : List (Int × Value)) (k n : Int) (v : Value) : valueAt (PySem.stored kvs k v) n = if n = k then some v else valueAt kvs n := gt_st kvs k n v
theorem vat_merged {n : Int} : ∀ (more acc : List (Int × Value)), (valueAt (merged acc more) n).isSome = true ↔ (valueAt acc n).isSome = true ∨ n ∈ more.map (·.1)
  | [], acc => by simp [merged]
  | p :: more, acc => by
    have e : merged acc (p :: more) = merged (PySem.stored acc p.1 p.2) more := rfl
    rw [e, vat_merged more, vat_stored, List.map_cons, List.mem_cons]
    by_cases h : n = p.1
    · simp [h]
    · simp [h]
theorem gt_mem {α : Type} {xs : List (Int × α)} {k : Int} (h : (gt xs k).isSome = true) : k ∈ xs.map (·.1) := by
  unfold gt at h
  rw [Option.isSome_map] at h
  rw [List.find?_isSome] at h
  obtain ⟨p, hp, hk⟩ := h
  exact List.mem_map.mpr ⟨p, hp, by simpa using hk⟩
/-- the pairs without `gone` -/
def less (kvs : List (Int × Value)) (gone : Int) : List (Int × Value) := kvs.filter fun p => decide (p.1 ≠ gone)
theorem less_len (kvs : List (Int × Value)) (gone : Int) : (less kvs gone).length ≤ kvs.length := List.length_filter_le _ _
theorem merged_len (kvs : List (Int × Value)) : (merged [] kvs).length ≤ kvs.length := by
  have := merged_length_le ([] : List (Int × Value)) kvs
  simpa using this
theorem less_mem {kvs : List (Int × Value)} {gone n : Int} : n ∈ (less kvs gone).map (·.1) ↔ n ∈ kvs.map (·.1) ∧ n ≠ gone := by
  unfold less
  simp only [List.mem_map, List.mem_filter, decide_eq_true_eq]
  constructor
  · rintro ⟨p, ⟨h1, h2⟩, rfl⟩
    exact ⟨⟨p, h1, rfl⟩, h2⟩
  · rintro ⟨⟨p, h1, rfl⟩, h2⟩
    exact ⟨p, ⟨h1, h2⟩, rfl⟩
theorem inT_table {rs : List Row} {kvsT : List (Int × Value)} {gone : Int} {v : Value} (hk : kvsT.map (·.1) = (lastX rs).map (·.1)) (hok : ∀ r ∈ rs, r.Ok) : ∀ r ∈ rs, ((fun k => (valueAt (PySem.stored (merged [] (less kvsT gone)) 9 v) k).isSome) r.num = true ↔ 0 < r.num ∧ r.num ≠ gone) := by
  intro r hr
  have h4 := (hok r hr).2.1
  dsimp only
  rw [vat_stored, if_neg (by omega), vat_merged, less_mem, hk]
  constructor
  · rintro (h | ⟨h1, h2⟩)
    · cases h
    · obtain ⟨p, hp, e⟩ := List.mem_map.mp h1
      exact ⟨e ▸ lastX_pos p hp, h2⟩
  · rintro ⟨h1, h2⟩
    exact .inr ⟨gt_mem (lastX_some h1 ⟨r, hr, rfl⟩), h2⟩
theorem less_snoc {kvs : List (Int × Value)} {gone : Int} {i : Nat} {k : Int} {y : Value} (h : kvs[i]? = some (k, y)) : less (kvs.take (i + 1)) gone = if k ≠ gone then less (kvs.take i) gone ++ [(k, y)] else less (kvs.take i) gone := by
  rw [take_snoc h]
  unfold less
  rw [List.filter_append]
  by_cases e : k = gone
  · simp [e]
  · simp [e]
end Mine
end

/-! Use8 -/
section
open PySem PySem.W PyProof.Rows
set_option maxRecDepth 100000
set_option maxHeartbeats 8000000
namespace Mine
theorem eq_dats {prog : Program} {w : World} {A : Around} {E : Value → Shared → Prop} {s : Shared} {h₀ : Heap} {L a b : Addr} {news n₁ n₂ : Led} {d e : Dat} {c : Bool} {Q : Value → Shared → Prop} (N : News h₀ L s.heap news)
    (Da : DatIn n₁ (.ref a) d) (sa : ∀ p ∈ n₁, p ∈ news) (Db : DatIn n₂ (.ref b) e) (sb : ∀ p ∈ n₂, p ∈ news) (ha : kqdOk 8 d = true) (hb : kqdOk 8 e = true) (hu : A.units + 64 < cLine) (hc : PyData.eqv (kqdP d) (kqdP e) = c) (h : Q (.bool c) s) :
    wpAny (model prog w) A (compareOp .Eq (.ref a) (.ref b)) Q E s := by
  obtain ⟨as, ra⟩ := kqd_in N 8 (Da.mono sa) ha
  obtain ⟨bs, rb⟩ := kqd_in N 8 (Db.mono sb) hb
  have la := kqd_lay 8 d ha
  have lb := kqd_lay 8 e hb
  refine eq_dataH ra rb ?_ ?_ hu (by rw [hc]; exact h)
  · unfold SeqAt.shaped; rw [la.1, Bool.true_and]; exact decide_eq_true (Nat.le_trans la.2 (by decide))
  · unfold SeqAt.shaped; rw [lb.1, Bool.true_and]; exact decide_eq_true (Nat.le_trans lb.2 (by decide))
/-- a statement that ends with the name x bound to a bool -/
structure SetB (x : Str) (b : Bool) (h₀ : Heap) (L : Addr) (m : Str → Option Value) (news : Led) (s : Shared) (f : Flow) (s' : Shared) : Prop where
  next : f = .next
  here : KJoinAt h₀ L (fun y => if y = x then some (.bool b) else m y) news s s'
theorem setB_of {x : Str} {b b' : Bool} {h₀ h : Heap} {L : Addr} {m : Str → Option Value} {news l : Led} {s : Shared} {tk : Nat} (F : Fr h₀ L h (fun y => if y = x then some (.bool b') else m y)) (N : News h₀ L h l) (hs : ∀ q ∈ news, q ∈ l) (e : b' = b) : SetB x b h₀ L m news s .next { s with heap := h, toks := tk } :=
  ⟨rfl, ⟨⟨h, tk, rfl, e ▸ F, news_sub' N hs⟩⟩⟩
theorem cut_set {M : Model} {A : Around} {E : Value → Shared → Prop} {s : Shared} {env : Env} {st : Stmt} {Q : Flow → Shared → Prop} (x : Str) (b : Bool) (h₀ : Heap) (L : Addr) (m : Str → Option Value) (news : Led)
    (h : wpAny M A (exec st env) (SetB x b h₀ L m news s) E s)
    (k : ∀ h tk, Fr h₀ L h (fun y => if y = x then some (.bool b) else m y) → News h₀ L h news → Q .next { s with heap := h, toks := tk }) : wpAny M A (exec st env) Q E s := by
  refine wpAny_mono h (fun f s₂ hq => ?_) fun _ _ e => e
  obtain ⟨rfl, ⟨h', tk, rfl, F, N⟩⟩ := hq
  exact k h' tk F N
/-- the datum that told makes of known_type -/
def KD : KN → Dat
  | .cat => .tuple [.str (Str.ofString "name"), .str (Str.ofString "Catalog")]
  | .nx => .tuple [.str (Str.ofString "name"), .str (Str.ofString "X")]
  | .seven => .tuple [.str (Str.ofString "int"), .int 7]
theorem told_kn {w : World} {loose : List Str} {mean : ExcName → Option Value} {mg mb : Str → Option Value} {news : Led} {v : Value} {k : KN} (h : KnV w news v k) :
    Pure1 w loose mean mg mb 265 6 96 news [v] (fun tl r => DatIn tl r (KD k)) := by
  cases h with
  | cat a => exact (told_name a).weak (by decide) (by decide)
  | nx a => exact (told_name a).weak (by decide) (by decide)
  | seven => exact told_int.weak (by decide) (by decide)
theorem KnV.form {w : World} {l : Led} {v : Value} {k : KN} (h : KnV w l v k) : (∃ x, v = .ref x) ∨ ∃ t, v = .int 7 t := by
  cases h with
  | cat a => exact .inl ⟨_, rfl⟩
  | nx a => exact .inl ⟨_, rfl⟩
  | seven => exact .inr ⟨_, rfl⟩
end Mine
end

/-! Use9 -/
section
open PySem PySem.W PyProof.Rows
set_option maxRecDepth 100000
set_option maxHeartbeats 8000000
namespace Mine
theorem PrIn.mono {l l' : Led} (hs : ∀ q ∈ l, q ∈ l') {v : Value} {p : Int × Value} (h : PrIn l v p) : PrIn l' v p := let ⟨a, n, t, e, h1⟩ := h.ex; ⟨⟨a, n, t, e, hs _ h1⟩⟩
/-- the invariant of the pairs' list -/
structure DInv (PP : Addr) (R oP x1 x2 x3 x4 x5 x6 : Addr × Obj) (fz : Led) (kvs : List (Int × Value)) (gone : Int) (i : Nat) (ys : List Value) (nw : Led) : Prop where
  ex : ∃ tl : Led, nw = L8 R oP x1 x2 x3 x4 x5 x6 (fz ++ tl) ∧ All2 (PrIn (fz ++ tl)) ys (less (kvs.take i) gone) ∧ ∀ q ∈ tl, @LT.lt Nat _ PP q.1
theorem dinv_init {PP : Addr} {R oP x1 x2 x3 x4 x5 x6 : Addr × Obj} {fz : Led} {kvs : List (Int × Value)} {gone : Int} : DInv PP R oP x1 x2 x3 x4 x5 x6 fz kvs gone 0 [] (L8 R oP x1 x2 x3 x4 x5 x6 fz) :=
  ⟨[], by rw [List.append_nil], .nil, fun _ h => nomatch h⟩
theorem dinv_yes {h₀ g h' : Heap} {L : Addr} {m : Str → Option Value} {s₁ : Shared} {I C D : Addr} {oI oC : Obj} {PP : Addr} {oPP : Obj} {R x1 x2 x3 x4 x5 x6 : Addr × Obj} {fz tl : Led} {kvs : List (Int × Value)} {gone : Int} {i : Nat} {ys : List Value} {tk : Nat} {k : Int} {tt : Tok} {v : Value} {T TA : Addr} {oTA : Obj} {n : Nat}
    (F : Fr h₀ L h' m) (N : News h₀ L h' ((T, ({ cls := .type "tuple", data := .seq [.int k tt, v].toArray n } : Obj)) :: (I, oI) :: (C, oC) :: (D, LCg.lst ys) :: L8 R (PP, oPP) x1 x2 x3 x4 x5 x6 (fz ++ tl)))
    (N0 : News h₀ L g ((I, oI) :: (C, oC) :: (D, LCg.lst ys) :: L8 R (PP, oPP) x1 x2 x3 x4 x5 x6 (fz ++ tl))) (hT : T = g.objs.size) (off : LCg.Off3 I C D (L8 R (PP, oPP) x1 x2 x3 x4 x5 x6 (fz ++ tl)))
    (hS : (TA, oTA) ∈ fz) (hA : All2 (PrIn (fz ++ tl)) ys (less (kvs.take i) gone)) (htl : ∀ q ∈ tl, @LT.lt Nat _ PP q.1) (hi : kvs[i]? = some (k, v)) (hne : k ≠ gone) :
    LCg.CompEnd h₀ L m s₁ I oI C oC D (LCg.lst ys) (fun nw => (TA, oTA) ∈ nw) (fun y news' => DInv PP R (PP, oPP) x1 x2 x3 x4 x5 x6 fz kvs gone (i + 1) (ys ++ [y]) news') (.ref T) { s₁ with heap := h', toks := tk } := by
  have hlt := fun q hq => Heap.lt_size (N0 q hq).1
  rw [← hT] at hlt
  have mono : ∀ q ∈ fz ++ tl, q ∈ fz ++ (tl ++ [(T, ({ cls := .type "tuple", data := .seq [.int k tt, v].toArray n } : Obj))]) := fun q hq => by rw [← List.append_assoc]; exact List.mem_append_left _ hq
  refine LCg.CompEnd.intro F N (L8 R (PP, oPP) x1 x2 x3 x4 x5 x6 (fz ++ (tl ++ [(T, ({ cls := .type "tuple", data := .seq [.int k tt, v].toArray n } : Obj))]))) (fun q hq => ?_) ?_ ?_ ⟨_, rfl, ?_, ?_⟩
  · simp only [L8, List.mem_cons, List.mem_append, List.not_mem_nil, or_false] at hq ⊢
    grind
  · have o2 : LCg.Off3 I C D [(T, ({ cls := .type "tuple", data := .seq [.int k tt, v].toArray n } : Obj))] := LCg.Off3.of fun q hq => by
      rw [List.mem_singleton.mp hq]
      exact ⟨Nat.ne_of_gt (hlt _ (.head _)), Nat.ne_of_gt (hlt _ (.tail _ (.head _))), Nat.ne_of_gt (hlt _ (.tail _ (.tail _ (.head _))))⟩
    have := off3_app off o2
    simpa only [L8, List.cons_append, List.append_assoc] using this
  · exact .tail _ (.tail _ (.tail _ (.tail _ (.tail _ (.tail _ (.tail _ (.tail _ (List.mem_append_left _ hS))))))))
  · rw [less_snoc hi, if_pos hne]
    exact (hA.mono fun _ _ h => h.mono mono).snoc ⟨⟨T, n, tt, rfl, List.mem_append_right _ (List.mem_append_right _ (.head _))⟩⟩
  · intro q hq
    rcases List.mem_append.mp hq with hq | hq
    · exact htl q hq
    · rw [List.mem_singleton.mp hq]
      exact hlt _ (.tail _ (.tail _ (.tail _ (.tail _ (.head _)))))
theorem dinv_no {h₀ h' : Heap} {L : Addr} {m : Str → Option Value} {s₁ : Shared} {I C D : Addr} {oI oC : Obj} {PP : Addr} {oPP : Obj} {R x1 x2 x3 x4 x5 x6 : Addr × Obj} {fz tl : Led} {kvs : List (Int × Value)} {gone : Int} {i : Nat} {ys : List Value} {tk : Nat} {k : Int} {v y : Value} {TA : Addr} {oTA : Obj}
    (F : Fr h₀ L h' m) (N : News h₀ L h' ((I, oI) :: (C, oC) :: (D, LCg.lst ys) :: L8 R (PP, oPP) x1 x2 x3 x4 x5 x6 (fz ++ tl))) (off : LCg.Off3 I C D (L8 R (PP, oPP) x1 x2 x3 x4 x5 x6 (fz ++ tl)))
    (hS : (TA, oTA) ∈ fz) (hA : All2 (PrIn (fz ++ tl)) ys (less (kvs.take i) gone)) (htl : ∀ q ∈ tl, @LT.lt Nat _ PP q.1) (hi : kvs[i]? = some (k, v)) (hne : k = gone) :
    LCg.CompEnd h₀ L m s₁ I oI C oC D (LCg.lst ys) (fun nw => (TA, oTA) ∈ nw) (fun _ news' => DInv PP R (PP, oPP) x1 x2 x3 x4 x5 x6 fz kvs gone (i + 1) ys news') y { s₁ with heap := h', toks := tk } :=
  LCg.CompEnd.intro F N (L8 R (PP, oPP) x1 x2 x3 x4 x5 x6 (fz ++ tl)) (fun _ hq => hq) off (.tail _ (.tail _ (.tail _ (.tail _ (.tail _ (.tail _ (.tail _ (.tail _ (List.mem_append_left _ hS))))))))) ⟨tl, rfl, by rw [less_snoc hi, if_neg fun h => h hne]; exact hA, htl⟩
theorem nodup_of {w : World} {o : Obj} {kvs : List (Int × Value)} (h : Obj.IsDictOf (PySem.intKind PG w) o kvs) : (kvs.map (·.1)).Nodup := let ⟨_, _, _, _, _, _, h⟩ := h; h
theorem pairs_len {l : Led} {ys : List Value} {kvs : List (Int × Value)} {gone : Int} (h : All2 (PrIn l) ys (less kvs gone)) (hk : kvs.length < 64) : ys.length ≤ 64 := by
  have h1 := h.length
  have h2 := less_len kvs gone
  omega
end Mine
end

/-! Use10 -/
section
open PySem PySem.W PyProof.Rows
set_option maxRecDepth 100000
set_option maxHeartbeats 8000000
namespace Mine
theorem cut_setF {M : Model} {A : Around} {E : Value → Shared → Prop} {s : Shared} {env : Env} {st : Stmt} {Q : Flow → Shared → Prop} {h₀ : Heap} {L : Addr} {m : Str → Option Value} {news : Led} (x : Str) (b : Bool) (F : Fr h₀ L s.heap m) (N : News h₀ L s.heap news)
    (h : wpAny M A (exec st env) (SetB x b h₀ L m news s) E s)
    (k : ∀ h tk, Fr h₀ L h (fun y => if y = x then some (.bool b) else m y) → News h₀ L h news → Q .next { s with heap := h, toks := tk }) : wpAny M A (exec st env) Q E s := cut_set x b h₀ L m news h k
/-- a statement that ends and leaves all as it stood -/
structure SkipAt (h₀ : Heap) (L : Addr) (m : Str → Option Value) (news : Led) (s : Shared) (f : Flow) (s' : Shared) : Prop where
  next : f = .next
  here : KJoinAt h₀ L m news s s'
theorem skip_of {h₀ h : Heap} {L : Addr} {m : Str → Option Value} {news l : Led} {s : Shared} {tk : Nat} (F : Fr h₀ L h m) (N : News h₀ L h l) (hs : ∀ q ∈ news, q ∈ l) : SkipAt h₀ L m news s .next { s with heap := h, toks := tk } :=
  ⟨rfl, ⟨⟨h, tk, rfl, F, news_sub' N hs⟩⟩⟩
theorem cut_skip {M : Model} {A : Around} {E : Value → Shared → Prop} {s : Shared} {env : Env} {st : Stmt} {Q : Flow → Shared → Prop} {h₀ : Heap} {L : Addr} {m : Str → Option Value} {news : Led} (F : Fr h₀ L s.heap m) (N : News h₀ L s.heap news)
    (h : wpAny M A (exec st env) (SkipAt h₀ L m news s) E s)
    (k : ∀ h tk, Fr h₀ L h m → News h₀ L h news → Q .next { s with heap := h, toks := tk }) : wpAny M A (exec st env) Q E s := by
  refine wpAny_mono h (fun f s₂ hq => ?_) fun _ _ e => e
  obtain ⟨rfl, ⟨h', tk, rfl, F, N⟩⟩ := hq
  exact k h' tk F N
theorem sh_pack {w : World} {h₀ h : Heap} {L sh d tr T2 : Addr} {otr : Obj} {t t' : Tok} {R oP x1 x2 x3 x4 x5 x6 : Addr × Obj} {fz : Led}
    (N : News h₀ L h ((sh, instObj 351 d) :: (d, dictOf [⟨PyData.keyHash w.params (Str.ofString "table"), .str (Str.ofString "table") t, .ref T2⟩, ⟨PyData.keyHash w.params (Str.ofString "trailer"), .str (Str.ofString "trailer") t', .ref tr⟩] 2) :: (tr, otr) :: R :: oP :: x1 :: x2 :: x3 :: x4 :: x5 :: x6 :: fz)) :
    ∃ fz' : Led, News h₀ L h (R :: x3 :: x5 :: fz') ∧ ShIn w fz' sh T2 ∧ ∀ q ∈ fz, q ∈ fz' := by
  refine ⟨_ :: _ :: oP :: x1 :: x2 :: x4 :: x6 :: fz, news_sub' N fun q hq => ?_, ⟨⟨d, tr, t, t', .head _, .tail _ (.head _)⟩⟩, fun q hq => .tail _ (.tail _ (.tail _ (.tail _ (.tail _ (.tail _ (.tail _ hq))))))⟩
  simp only [List.mem_cons] at hq ⊢
  grind
inductive DueV (l : Led) : Value → Option Row → Prop
  | none : DueV l .none none
  | some {a : Addr} {n : Nat} {t u : Tok} {r : Row} : (a, ({ cls := .type "tuple", data := .seq [.int r.num t, .int r.gen u].toArray n } : Obj)) ∈ l → DueV l (.ref a) (some r)
theorem DueV.mono {l l' : Led} (hs : ∀ q ∈ l, q ∈ l') {v : Value} {d : Option Row} (h : DueV l v d) : DueV l' v d := by
  cases h with
  | none => exact .none
  | some h => exact .some (hs _ h)
structure MainIv (I : Addr) (cs : List (Addr × Obj)) (fz : Led) (rvs : List Value) (rs : List Row) (gone : Int) (kn : KN) (m0 : Str → Option Value) (its : List Itm) (m : Str → Option Value) (l : Led) : Prop where
  ex : ∃ (i : Nat) (u1 u2 u3 u4 u5 u6 u7 : Option Value) (dv : Value) (tl : Led) (d : Option Row), its = enumItems i (rvs.drop i) ∧
    m = (fun y => if y = Str.ofString "due" then some dv else if y = Str.ofString "is_told" then u7 else if y = Str.ofString "is_standing" then u6 else if y = Str.ofString "value" then u5 else if y = Str.ofString "generation" then u4 else if y = Str.ofString "number" then u3 else if y = Str.ofString "row" then u2 else if y = Str.ofString "at" then u1 else m0 y) ∧
    l = cs ++ (fz ++ tl) ∧ DueV tl dv d ∧ dueF (gt (lastX rs)) gone kn i (rs.drop i) d = dueF (gt (lastX rs)) gone kn 0 rs none ∧ ∀ q ∈ tl, q.1 ≠ I ∧ q.1 ≠ I + 1
theorem if_same {α : Type} {c : Prop} [Decidable c] {a : α} {b : α} (h : c → a = b) : (if c then b else a) = a := by
  by_cases hc : c
  · rw [if_pos hc, h hc]
  · rw [if_neg hc]
theorem main_init {I : Addr} {cs : List (Addr × Obj)} {fz : Led} {rvs : List Value} {rs : List Row} {gone : Int} {kn : KN} {m0 : Str → Option Value} : MainIv I cs fz rvs rs gone kn m0 (enumItems 0 rvs) (fun y => if y = Str.ofString "due" then some Value.none else m0 y) (cs ++ fz) := by
  refine ⟨0, m0 (Str.ofString "at"), m0 (Str.ofString "row"), m0 (Str.ofString "number"), m0 (Str.ofString "generation"), m0 (Str.ofString "value"), m0 (Str.ofString "is_standing"), m0 (Str.ofString "is_told"), .none, [], none, rfl, ?_, by rw [List.append_nil], .none, rfl, fun _ h => nomatch h⟩
  funext y
  by_cases h0 : y = Str.ofString "due"
  · rw [if_pos h0, if_pos h0]
  rw [if_neg h0, if_neg h0]
  symm
  have e1 : (if y = Str.ofString "at" then m0 (Str.ofString "at") else m0 y) = m0 y := if_same fun h => by rw [h]
  rw [e1]
  have e2 : (if y = Str.ofString "row" then m0 (Str.ofString "row") else m0 y) = m0 y := if_same fun h => by rw [h]
  rw [e2]
  have e3 : (if y = Str.ofString "number" then m0 (Str.ofString "number") else m0 y) = m0 y := if_same fun h => by rw [h]
  rw [e3]
  have e4 : (if y = Str.ofString "generation" then m0 (Str.ofString "generation") else m0 y) = m0 y := if_same fun h => by rw [h]
  rw [e4]
  have e5 : (if y = Str.ofString "value" then m0 (Str.ofString "value") else m0 y) = m0 y := if_same fun h => by rw [h]
  rw [e5]
  have e6 : (if y = Str.ofString "is_standing" then m0 (Str.ofString "is_standing") else m0 y) = m0 y := if_same fun h => by rw [h]
  rw [e6]
  have e7 : (if y = Str.ofString "is_told" then m0 (Str.ofString "is_told") else m0 y) = m0 y := if_same fun h => by rw [h]
  rw [e7]
section
variable {x0 x1 x2 x3 x4 x5 x6 x7 : Str} {d d' u1 u2 u3 u4 u5 u6 u7 v1 v2 v3 v4 v5 v6 v7 : Option Value} {m0 : Str → Option Value}
/-- due not stored in this turn -/
theorem map_turn (h1 : x0 ≠ x1) (h2 : x0 ≠ x2) (h3 : x0 ≠ x3) (h4 : x0 ≠ x4) (h5 : x0 ≠ x5) (h6 : x0 ≠ x6) (h7 : x0 ≠ x7) :
    (fun y => if y = x7 then v7 else if y = x6 then v6 else if y = x5 then v5 else if y = x4 then v4 else if y = x3 then v3 else if y = x2 then v2 else if y = x1 then v1 else if y = x0 then d else if y = x7 then u7 else if y = x6 then u6 else if y = x5 then u5 else if y = x4 then u4 else if y = x3 then u3 else if y = x2 then u2 else if y = x1 then u1 else m0 y)
      = fun y => if y = x0 then d else if y = x7 then v7 else if y = x6 then v6 else if y = x5 then v5 else if y = x4 then v4 else if y = x3 then v3 else if y = x2 then v2 else if y = x1 then v1 else m0 y := by
  funext y
  by_cases h0 : y = x0
  · subst h0
    rw [if_neg h1, if_neg h2, if_neg h3, if_neg h4, if_neg h5, if_neg h6, if_neg h7, if_pos rfl, if_pos rfl] <;> assumption
  · rw [if_neg h0, if_neg h0]
    by_cases e7 : y = x7
    · rw [if_pos e7, if_pos e7]
    rw [if_neg e7, if_neg e7, if_neg e7]
    by_cases e6 : y = x6
    · rw [if_pos e6, if_pos e6]
    rw [if_neg e6, if_neg e6, if_neg e6]
    by_cases e5 : y = x5
    · rw [if_pos e5, if_pos e5]
    rw [if_neg e5, if_neg e5, if_neg e5]
    by_cases e4 : y = x4
    · rw [if_pos e4, if_pos e4]
    rw [if_neg e4, if_neg e4, if_neg e4]
    by_cases e3 : y = x3
    · rw [if_pos e3, if_pos e3]
    rw [if_neg e3, if_neg e3, if_neg e3]
    by_cases e2 : y = x2
    · rw [if_pos e2, if_pos e2]
    rw [if_neg e2, if_neg e2, if_neg e2]
    by_cases e1 : y = x1
    · rw [if_pos e1, if_pos e1]
    rw [if_neg e1, if_neg e1, if_neg e1]
theorem map_put {x : Str} {m m' : Str → Option Value} (h : m = m') : (fun y => if y = x then d else m y) = fun y => if y = x then d else m' y := by rw [h]
theorem map_put2 {x : Str} {d d' : Option Value} {m : Str → Option Value} : (fun y => if y = x then d else if y = x then d' else m y) = fun y => if y = x then d else m y := by
  funext y
  split <;> rfl
end
theorem main_end {I : Addr} {cs : List (Addr × Obj)} {fz tl : Led} {rvs : List Value} {rs : List Row} {gone : Int} {kn : KN} {m0 m' : Str → Option Value} {i : Nat} {u1 u2 u3 u4 u5 u6 u7 : Option Value} {dv : Value} {d : Option Row}
    (hm : m' = (fun y => if y = Str.ofString "due" then some dv else if y = Str.ofString "is_told" then u7 else if y = Str.ofString "is_standing" then u6 else if y = Str.ofString "value" then u5 else if y = Str.ofString "generation" then u4 else if y = Str.ofString "number" then u3 else if y = Str.ofString "row" then u2 else if y = Str.ofString "at" then u1 else m0 y))
    (hd : DueV tl dv d) (hdue : dueF (gt (lastX rs)) gone kn (i + 1) (rs.drop (i + 1)) d = dueF (gt (lastX rs)) gone kn 0 rs none) (off : ∀ q ∈ tl, q.1 ≠ I ∧ q.1 ≠ I + 1) :
    MainIv I cs fz rvs rs gone kn m0 (enumItems (i + 1) (rvs.drop (i + 1))) m' (cs ++ (fz ++ tl)) := ⟨i + 1, u1, u2, u3, u4, u5, u6, u7, dv, tl, d, rfl, hm, rfl, hd, hdue, off⟩
theorem due_yes {rs : List Row} {rr : Row} {gone : Int} {kn : KN} {i : Nat} {d res : Option Row} (hr : rs[i]? = some rr) (h : dueF (gt (lastX rs)) gone kn i (rs.drop i) d = res) (hc : decide (0 < rr.num ∧ rr.num ≠ gone ∧ gt (lastX rs) rr.num = some i) = true) (ht : isT rr.k kn = true) : dueF (gt (lastX rs)) gone kn (i + 1) (rs.drop (i + 1)) (some rr) = res := by
  rw [drop_step hr, dueF, if_pos ⟨(of_decide_eq_true hc).1, (of_decide_eq_true hc).2.1, (of_decide_eq_true hc).2.2, ht⟩] at h
  exact h
theorem due_no {rs : List Row} {rr : Row} {gone : Int} {kn : KN} {i : Nat} {d res : Option Row} (hr : rs[i]? = some rr) (h : dueF (gt (lastX rs)) gone kn i (rs.drop i) d = res) (hc : decide (0 < rr.num ∧ rr.num ≠ gone ∧ gt (lastX rs) rr.num = some i) = false ∨ isT rr.k kn = false) : dueF (gt (lastX rs)) gone kn (i + 1) (rs.drop (i + 1)) d = res := by
  rw [drop_step hr, dueF, if_neg] at h
  · exact h
  · rintro ⟨a, b, c, e⟩
    rcases hc with hc | hc
    · exact of_decide_eq_false hc ⟨a, b, c⟩
    · rw [hc] at e; cases e
end Mine
end

/-! Use11 -/
section
open PySem PySem.W PyProof.Rows
set_option maxRecDepth 100000
set_option maxHeartbeats 8000000
namespace Mine
theorem stand_eq {g : Option Nat} {n gone : Int} {j i : Nat} (h1 : 0 < n) (h2 : n ≠ gone) (h3 : g = some j) : ((j : Int) == (i : Int)) = decide (0 < n ∧ n ≠ gone ∧ g = some i) := by
  subst h3
  by_cases h : j = i
  · subst h; simp [h1, h2]
  · have : ¬ (j : Int) = (i : Int) := fun e => h (Int.ofNat.inj e)
    simp [h, this]
theorem stand_gone {g : Option Nat} {n gone : Int} {i : Nat} (h : n = gone) : (n != gone) = decide (0 < n ∧ n ≠ gone ∧ g = some i) := by
  subst h; simp
theorem stand_zero {g : Option Nat} {n gone : Int} {i : Nat} (h : ¬ 0 < n) : decide (0 < n) = decide (0 < n ∧ n ≠ gone ∧ g = some i) := by
  simp [h]
theorem VIn.form5 {w : World} {l : Led} {v : Value} {k : VK} (h : VIn w l v k) : (∃ t, v = .int 3 t ∧ isD k = false ∧ ∀ kn, isT k kn = false) ∨
    (∃ x o kvs, v = .ref x ∧ (x, o) ∈ l ∧ Obj.IsDictOf (PySem.strKind PG w) o kvs ∧ (x == sysModules) = false ∧ isD k = true ∧ (valueAt kvs (Str.ofString "K")).isSome = true ∧ ∀ kn, isT k kn = true) ∨
    (∃ x o kvs, v = .ref x ∧ (x, o) ∈ l ∧ Obj.IsDictOf (PySem.strKind PG w) o kvs ∧ (x == sysModules) = false ∧ isD k = true ∧ (valueAt kvs (Str.ofString "K")).isSome = false ∧ kqdOk 8 (TD k) = true ∧ PyData.eqv (kqdP (TD k)) (kqdP (TD .ref9)) = (k == .ref9) ∧ ∀ kn, isT k kn = (k == .ref9 && kn == .cat)) ∨
    (∃ x d od, v = .ref x ∧ (x, instObj 171 d) ∈ l ∧ (d, od) ∈ l ∧ isD k = false ∧ ∀ kn, isT k kn = false) ∨ (∃ x d od, v = .ref x ∧ (x, instObj 214 d) ∈ l ∧ (d, od) ∈ l ∧ isD k = false ∧ ∀ kn, isT k kn = false) := by
  cases h with
  | cat a b => obtain ⟨o, h1, h2, h3⟩ := a.ex; exact .inr (.inl ⟨_, o, _, rfl, h1, h2, h3, rfl, rfl, fun _ => rfl⟩)
  | ref9 a b => obtain ⟨o, h1, h2, h3⟩ := a.ex; exact .inr (.inr (.inl ⟨_, o, _, rfl, h1, h2, h3, rfl, rfl, by decide +kernel, by decide +kernel, fun _ => rfl⟩))
  | int3 => exact .inl ⟨_, rfl, rfl, fun _ => rfl⟩
  | pages a b => obtain ⟨o, h1, h2, h3⟩ := a.ex; exact .inr (.inr (.inl ⟨_, o, _, rfl, h1, h2, h3, rfl, rfl, by decide +kernel, by decide +kernel, fun _ => rfl⟩))
  | strm a b c => obtain ⟨d, t, t', t'', h1, h2⟩ := a.ex; exact .inr (.inr (.inr (.inr ⟨_, d, _, rfl, h1, h2, rfl, fun _ => rfl⟩)))
  | empty a => obtain ⟨o, h1, h2, h3⟩ := a.ex; exact .inr (.inr (.inl ⟨_, o, _, rfl, h1, h2, h3, rfl, rfl, by decide +kernel, by decide +kernel, fun _ => rfl⟩))
  | nam a => obtain ⟨d, t, t', h1, h2⟩ := a.ex; exact .inr (.inr (.inr (.inl ⟨_, d, _, rfl, h1, h2, rfl, fun _ => rfl⟩)))
theorem kd_eqv : ∀ k : KN, kqdOk 8 (KD k) = true ∧ PyData.eqv (kqdP (KD k)) (kqdP (TD .nam)) = (k == .cat) := by
  intro k
  cases k <;> exact ⟨by decide +kernel, by decide +kernel⟩
theorem ok_ref9 : kqdOk 8 (TD .ref9) = true := by decide +kernel
theorem ok_nam : kqdOk 8 (TD .nam) = true := by decide +kernel
theorem td_ref {l : Led} {v : Value} {k : VK} (h : DatIn l v (TD k)) : ∃ a, v = .ref a := by
  cases k <;> (cases h; exact ⟨_, rfl⟩)
theorem kd_ref {l : Led} {v : Value} {k : KN} (h : DatIn l v (KD k)) : ∃ a, v = .ref a := by
  cases k <;> (cases h; exact ⟨_, rfl⟩)
end Mine
end

/-! Use12 -/
section
open PySem PySem.W PyProof.Rows
set_option maxRecDepth 100000
set_option maxHeartbeats 8000000
namespace Mine
theorem inl8 {a b c1 c2 c3 q : Addr × Obj} {fz tl : Led} (h : q ∈ fz) : q ∈ a :: b :: c1 :: c2 :: c3 :: (fz ++ tl) := .tail _ (.tail _ (.tail _ (.tail _ (.tail _ (List.mem_append_left _ h)))))
theorem sub10 {a b c1 c2 c3 : Addr × Obj} {fz tl r : Led} : ∀ q ∈ a :: b :: c1 :: c2 :: c3 :: (fz ++ tl), q ∈ a :: b :: c1 :: c2 :: c3 :: (fz ++ (tl ++ r)) := by
  intro q hq
  rw [← List.append_assoc]
  exact List.mem_append_left r hq
theorem main_off {I : Addr} {c1 c2 c3 : Addr × Obj} {fz tl : Led} (h : ∀ p ∈ c1 :: c2 :: c3 :: fz, p.1 < I) (htl : ∀ q ∈ tl, q.1 ≠ I ∧ q.1 ≠ I + 1) : (∀ q ∈ [c1, c2, c3] ++ (fz ++ tl), q.1 ≠ I) ∧ ∀ q ∈ [c1, c2, c3] ++ (fz ++ tl), q.1 ≠ I + 1 := by
  have z : ∀ q ∈ [c1, c2, c3] ++ (fz ++ tl), q.1 ≠ I ∧ q.1 ≠ I + 1 := fun q hq => by
    rw [← List.append_assoc] at hq
    rcases List.mem_append.mp hq with hq | hq
    · have := h q hq
      exact ⟨Nat.ne_of_lt this, Nat.ne_of_lt (Nat.lt_succ_of_lt this)⟩
    · exact htl q hq
  exact ⟨fun q hq => (z q hq).1, fun q hq => (z q hq).2⟩
theorem due_news {h₀ h : Heap} {L : Addr} {T J I : Addr × Obj} {c1 c2 c3 : Addr × Obj} {fz tl : Led} (N : News h₀ L h (T :: J :: I :: c1 :: c2 :: c3 :: (fz ++ tl))) : News h₀ L h (J :: I :: ([c1, c2, c3] ++ (fz ++ (tl ++ [T])))) := news_sub' N fun q hq => by
  simp only [List.mem_cons, List.mem_append, List.not_mem_nil, or_false] at hq ⊢
  grind
theorem due_off {I : Addr} {g h₀ : Heap} {L : Addr} {T : Addr} {oT oJ oI : Obj} {tl l : Led} (N : News h₀ L g ((I + 1, oJ) :: (I, oI) :: l)) (hT : T = g.objs.size) (htl : ∀ q ∈ tl, q.1 ≠ I ∧ q.1 ≠ I + 1) : ∀ q ∈ tl ++ [(T, oT)], q.1 ≠ I ∧ q.1 ≠ I + 1 := fun q hq => by
  rcases List.mem_append.mp hq with hq | hq
  · exact htl q hq
  · rw [List.mem_singleton.mp hq, hT]
    exact ⟨Nat.ne_of_gt (Heap.lt_size (N (I, oI) (.tail _ (.head _))).1), Nat.ne_of_gt (Heap.lt_size (N (I + 1, oJ) (.head _)).1)⟩
theorem due_done {g : Int → Option Nat} {gone : Int} {kn : KN} {rs : List Row} {i : Nat} {d : Option Row} {res : Option Row} (hi : rs.length ≤ i) (h : dueF g gone kn i (rs.drop i) d = res) : d = res := by
  rw [List.drop_eq_nil_of_le hi, dueF] at h
  exact h
end Mine
end

/-! Hide -/
section
namespace Mine
/-- a hypothesis that no search takes for another -/
structure Hide (P : Prop) : Prop where
  out : P
end Mine
end

/-! S1 -/
section
open PySem PySem.W PyProof.Rows
set_option maxRecDepth 100000
set_option maxHeartbeats 8000000
namespace Mine
local macro_rules | `(tactic| walk_at "call ref") => `(tactic| (k_here; (with_reducible show wpAny _ _ (call (Value.ref 409) [_, _]) _ _ _); refine Halt.out ?_))
local macro_rules | `(tactic| walk_at "exec For Name Call cons nil") => `(tactic| (k_here; (rename Fr _ _ _ _ => lF'); (with_unfolding_all refine' For_turns lF' ?_; k_whole)))
local macro_rules | `(tactic| k_qdec) => `(tactic| decide +kernel)
noncomputable def st1 : {P : Prop // Hide P → PySem.Challenge.rw_og0166_01.Holds} := by
  refine' ⟨_, fun hHide => ?main⟩
  case main =>
    refine hd ?_
    w_strict (
      k_go0
      all_goals try k_fold
      k_steps
      unfold Halt
      rename_i hI8 hL8 CC h5 tk1 o1 h4 tk0 t0 PP h3 l1a h2 tkb RR h1 l1b h0 oR F1 N1 dR
      obtain ⟨ns, hI, hns⟩ : ∃ ns, IntsAre ys ns ∧ ns.length ≤ 60 := ⟨_, hI8, Nat.le_trans (Nat.le_of_eq (List.length_map ..)) (List.length_take_le ..)⟩
      generalize hbb : Int.fmod _ 997 = bb at N1
      have hb0 : 0 ≤ bb := hbb ▸ Int.fmod_nonneg_of_pos _ (by decide)
      have hb1 : bb ≤ 997 := hbb ▸ Int.le_of_lt (Int.fmod_lt_of_pos _ (by decide))
      clear hbb hI8 hL8
      rename Glob _ _ _ _ _ _ _ _ => hz1
      rename BMod _ _ _ _ _ => hz2
      rename ReadsAll _ _ _ _ => hz3
      rename Heap.IsList _ _ _ => hz4
      clear hz1 hz2 hz3 hz4
      rename Heap.CodeRec _ _ _ => zc1
      clear zc1
      rename Hook.says _ _ _ => zc2
      clear zc2
      rename World => w
      revert w ys CC PP RR l1b F1 bb N1 hb1
      repeat (rename _ => zz9; revert zz9)
      exact Hide.out)
end Mine
end

/-! S2 -/
section
open PySem PySem.W PyProof.Rows
set_option maxRecDepth 100000
set_option maxHeartbeats 8000000
namespace Mine
theorem fill_frag10 : PySem.Challenge.rw_og0166_01 = PySem.Challenge.rw_og0166_01 ∧ hd.heap_1 = hd.heap_1 := by
  w_top off
  k_fill
  exact ⟨rfl, rfl⟩
local macro_rules | `(tactic| k_all) => `(tactic| with_reducible assumption)
local macro_rules | `(tactic| k_ne) => `(tactic| with_reducible assumption)
local macro_rules | `(tactic| k_mem) => `(tactic| first | assumption | exact List.Mem.head _ | (refine' List.Mem.tail _ ?_; k_mem) | (refine List.mem_append_left _ ?_; k_mem) | (refine List.mem_append_right _ ?_; k_mem))
local macro_rules | `(tactic| k_room) => `(tactic| ktr_room)
local macro_rules | `(tactic| k_units) => `(tactic| ktr_units)
local macro_rules | `(tactic| walk_at "pyIter ref") => `(tactic| (k_here; refine Halt.out ?_))
local macro_rules | `(tactic| walk_at "exec For Name Call cons nil") => `(tactic| (k_here; (rename Fr _ _ _ _ => lF'); (with_unfolding_all refine' For_turns lF' ?_; k_whole)))
local macro_rules | `(tactic| walk_at "call type:range") => `(tactic| (k_here; (rename Fr _ _ _ _ => F'); (rename News _ _ _ _ => N'); (with_unfolding_all refine range1_rows F' N' ?_); intro h' tk' t1' u1' v1' R' F' N' K'))
local macro_rules | `(tactic| walk_at "call ref") => `(tactic| (k_here; (with_reducible show wpAny _ _ (call (Value.ref 409) [Value.ref _, Value.int _ _]) _ _ _); k_dflt (refine' draw_use ?B ?F ?X ?N ?T ?K ?U ?c ?i ?len ?s0 ?s1 ?b0 ?b1 ?m0 ?m1 ?cp ?dp ?un ?_; (case B => k_asm); (case F => k_asm); (case X => k_asm); (case N => k_asm); (case T => k_asm); (case K => first | exact rfl | assumption); (case U => k_updF); (case c => k_mem); (case i => assumption); (case len => assumption); (case s0 => omega); (case s1 => omega); (case b0 => assumption); (case b1 => assumption); (case m0 => decide); (case m1 => decide); (case cp => k_ne); (case dp => ktr_room); (case un => ktr_units); k_whole); intro r9 t9 t9' n9 h9 tk9 hr9 hr9' F9 N9; (try dsimp only at N9); (try dsimp only); (try k_fold)))
local macro_rules | `(tactic| walk_at "call ref") => `(tactic| (k_here; (with_reducible show wpAny _ _ (call (Value.ref 416) [Value.ref _]) _ _ _); k_dflt (refine' val_use ?B ?F ?X ?N ?T ?K ?U ?c ?i ?len ?s0 ?s1 ?b0 ?b1 ?cp ?dp ?un ?_; (case B => k_asm); (case F => k_asm); (case X => k_asm); (case N => k_asm); (case T => k_asm); (case K => first | exact rfl | assumption); (case U => k_updF); (case c => k_mem); (case i => assumption); (case len => assumption); (case s0 => omega); (case s1 => omega); (case b0 => assumption); (case b1 => assumption); (case cp => k_ne); (case dp => ktr_room); (case un => ktr_units); k_whole); refine Halt.out ?_))
local macro_rules | `(tactic| walk_at "call builtin:list.append") => `(tactic| (k_here; (with_reducible show wpAny _ _ (call (Value.builtin _) [Value.ref _, _]) _ _ _); k_dflt (refine' append_K ?k1 ?k2 ?k3 ?_ ?z; (case k1 => k_asm); (case k2 => k_asm); (case k3 => k_upd); (case z => rw [List.size_toArray, sizeLine_eq]; omega); k_whole); intro h' F' N'))
noncomputable def st2 : {P : Prop // Hide P → st1.1} := by
  refine' ⟨_, fun hHide => ?main⟩
  case main =>
    intro zzf
    set_option tactic.hygienic false in intros
    k_steps
    unfold Halt
    rename IsRange _ _ _ _ _ _ _ _ => hrg
    rename (0 : Int) ≤ _ => hk0
    rename _ < (8 : Int) => hk8
    obtain ⟨k, rfl⟩ := Int.eq_ofNat_of_zero_le hk0
    obtain ⟨hk1, hk2⟩ := range_ok k (by omega)
    rename Fr _ _ _ _ => F2
    rename News _ _ _ _ => N2
    with_unfolding_all refine iter_rangeTurns (by rfl) hrg hk1 hk2 F2 N2 ?_
    intro I hI2
    refine items_ind (RowsInv w RR PP CC I bb ?tb k ?cs ?m0) ?step ?done _ _ _ ?init
    case init => exact rows_init (spot := 0 + 1) (by decide) (by decide)
    case step =>
      rintro a r m l ⟨i0, n0, u, spot, t', n'', nR, rvs, rs, fz, e1, hn0, rfl, rfl, hs0, hs1, hall, hok, hfz⟩ v h tk ha F3
      obtain ⟨n1, rfl, rfl, rfl⟩ := rangeItms_cons e1
      obtain ⟨tt, rfl⟩ := ha
      have hRI : @LT.lt Nat _ RR I := hI2 _ (.head _)
      have hIR : I ≠ RR := Nat.ne_of_gt hRI
      have hIP : I ≠ PP := Nat.ne_of_gt (Nat.lt_trans l1b.1 hRI)
      have hfzR : ∀ q ∈ fz, q.1 ≠ RR := fun q hq => Nat.ne_of_gt (Nat.lt_trans hRI (hfz q hq))
      have hfzP : ∀ q ∈ fz, q.1 ≠ PP := fun q hq => Nat.ne_of_gt (Nat.lt_trans (Nat.lt_trans l1b.1 hRI) (hfz q hq))
      ktu_objs
      k_steps
      unfold Halt
      intro vv kk new spot2 t2' n2 h9 tk9 hq1 hq2 hvv hkk hnew F9 N9
      try simp only [List.cons_append, List.nil_append, List.append_assoc] at N9
      have hnI : ∀ q ∈ new, I < q.1 := fun q hq => hnew.lt q hq _ (.head _)
      have hfnR : ∀ q ∈ fz ++ new, q.1 ≠ RR := fun q hq => (List.mem_append.mp hq).elim (hfzR q) fun hq => Nat.ne_of_gt (Nat.lt_trans hRI (hnI q hq))
      have hfnP : ∀ q ∈ fz ++ new, q.1 ≠ PP := fun q hq => (List.mem_append.mp hq).elim (hfzP q) fun hq => Nat.ne_of_gt (Nat.lt_trans (Nat.lt_trans l1b.1 hRI) (hnI q hq))
      have hrl : rvs.length ≤ 8 := by have := hall.length; omega
      rcases hvv.form with ⟨x, rfl⟩ | ⟨t, rfl⟩
      all_goals
        k_steps
        rename News _ _ _ (_ :: _ :: _ :: _) => N9
        simp only [List.push_toArray] at N9
        obtain ⟨y9, ey9⟩ := news_split N9
        refine' unrEnd1 (by assumption) ?N ?off ⟨trivial, rows_step (t' := t2') (n'' := n2) (nR := nR + 1) (spot := spot2) (r := Row.mk _ _ kk) (y := y9) (fz := fz) (new := new) hn0 map_over ?h0 ?h1 hall hok hfz hnI ey9 ?hy hvv ⟨by assumption, by assumption, by assumption, by assumption, hkk⟩⟩
        case h0 => omega
        case h1 => omega
        case hy =>
          rename I < _ ∧ _ => hl
          exact hl.1
        case N =>
          rw [ey9]
          exact news_sub' N9 rows_sub
        case off =>
          refine rows_off hI2 rfl rfl ?_
          rw [ey9]
          intro q hq
          rcases List.mem_append.mp hq with h | h
          · exact (List.mem_append.mp h).elim (hfz q) (hnI q)
          · rw [List.mem_singleton.mp h]
            rename I < _ ∧ _ => hl
            exact hl.1
    case done =>
      rintro m l ⟨i0, n0, u, spot, t', n'', nR, rvs, rs, fz, e1, hn0, rfl, rfl, hs0, hs1, hall, hok, hfz⟩ h tk F3 N3
      obtain rfl := rangeItms_nil e1
      clear e1
      have hrs8 : rs.length < 8 := by omega
      have hRI : @LT.lt Nat _ RR I := hI2 _ (.head _)
      have hfzR : ∀ q ∈ fz, q.1 ≠ RR := fun q hq => Nat.ne_of_gt (Nat.lt_trans hRI (hfz q hq))
      have hfzP : ∀ q ∈ fz, q.1 ≠ PP := fun q hq => Nat.ne_of_gt (Nat.lt_trans (Nat.lt_trans l1b.1 hRI) (hfz q hq))
      have hfzQ : ∀ q ∈ fz, @LT.lt Nat _ PP q.1 := fun q hq => Nat.lt_trans (Nat.lt_trans l1b.1 hRI) (hfz q hq)
      clear hn0 F2 N2 F1 N1 hfz hrg hfzR hfzP
      simp only [List.cons_append, List.nil_append] at N3
      revert w ys PP RR hb1 hk1 spot nR rvs rs hs0 hs1 hall hok N3 hrs8 hRI hfzQ
      repeat (rename _ => zz9; revert zz9)
      exact Hide.out
end Mine
end

/-! S3 -/
section
open PySem PySem.W PyProof.Rows
set_option maxRecDepth 100000
set_option maxHeartbeats 8000000
namespace Mine
theorem fill_frag11 : PySem.Challenge.rw_og0166_01 = PySem.Challenge.rw_og0166_01 ∧ hd.heap_1 = hd.heap_1 := by
  w_top off
  k_fill
  exact ⟨rfl, rfl⟩
local macro_rules | `(tactic| k_all) => `(tactic| (refine ne_of_below (by assumption) ?_; omega))
local macro_rules | `(tactic| k_all) => `(tactic| with_reducible assumption)
local macro_rules | `(tactic| k_ne) => `(tactic| with_reducible assumption)
local macro_rules | `(tactic| k_mem) => `(tactic| first | assumption | exact List.Mem.head _ | (refine' List.Mem.tail _ ?_; k_mem) | (refine List.mem_append_left _ ?_; k_mem) | (refine List.mem_append_right _ ?_; k_mem))
local macro_rules | `(tactic| k_room) => `(tactic| ktr_room)
local macro_rules | `(tactic| k_units) => `(tactic| ktr_units)
local macro_rules | `(tactic| walk_at "exec Assign cons ListComp") => `(tactic| (k_here; refine Halt.out ?_))
local macro_rules | `(tactic| walk_at "subscriptTail") => `(tactic| (k_here; (with_reducible show wpAny _ _ (subscriptTail _ _ (Value.ref _) (Value.int _ _)) _ _ _); refine Halt.out ?_))
local macro_rules | `(tactic| walk_at "call ref") => `(tactic| (k_here; (with_reducible show wpAny _ _ (call (Value.ref 409) [Value.ref _, Value.int _ _]) _ _ _); refine Halt.out ?_))
noncomputable def st3 : {P : Prop // Hide P → st2.1} := by
  refine' ⟨_, fun hHide => ?main⟩
  case main =>
    intro zzf
    set_option tactic.hygienic false in intros
    k_steps
    unfold Halt
    rename News _ _ _ (_ :: _ :: _ :: _ :: _ :: (RR, _) :: _) => Nc
    rename News _ _ _ (_ :: _ :: _ :: _ :: (RR, _) :: _) => Np
    have hlt9 := fun q hq => Heap.lt_size (Np q hq).1
    obtain ⟨fz2, hfs, y1, y2, y3, y4, y5, hfzQ2, N5⟩ := pack5 (PP := PP) Nc (hlt9 (PP, _) (.tail _ (.tail _ (.tail _ (.tail _ (.tail _ (.head _))))))) (by dsimp only; omega) (by dsimp only; omega) (by dsimp only; omega) (by dsimp only; omega) hfzQ
    clear Nc Np hlt9
    refine' draw_use ?B ?F ?X ?N ?T ?K ?U ?c ?i ?len ?s0 ?s1 ?b0 ?b1 ?m0 ?m1 ?cp ?dp ?un ?_
    case B => k_asm
    case F => k_asm
    case X => k_asm
    case N => exact N5
    case T => k_asm
    case K => first | exact rfl | assumption
    case U => k_updF
    case c => k_mem
    case i => assumption
    case len => assumption
    case s0 => omega
    case s1 => omega
    case b0 => assumption
    case b1 => assumption
    case m0 => decide
    case m1 => decide
    case cp => k_ne
    case dp => ktr_room
    case un => ktr_units
    clear N5
    intro r9 t9 t9' n9 h9 tk9 hr9 hr9' F9 N9
    try dsimp only at N9
    try dsimp only
    try k_fold
    k_steps
    unfold Halt
    have hall2 : All2 (RowIn w fz2) rvs rs := hall.mono fun _ _ h => h.mono hfs
    refine item_at (vs := [_, _, _]) N9 (by k_mem) hr9 (by simp only [List.length_cons, List.length_nil]; omega) (by simp) ?_
    intro j kv hj hk
    have hkn : ∃ kn, KnV w fz2 kv kn := by
      rcases j with _ | _ | _ | j
      · cases hj; exact ⟨_, .cat ⟨⟨_, _, _, y4, y5⟩⟩⟩
      · cases hj; exact ⟨_, .nx ⟨⟨_, _, _, y2, y3⟩⟩⟩
      · cases hj; exact ⟨_, .seven⟩
      · simp at hj
    obtain ⟨kn, hkn⟩ := hkn
    clear hj hk j y1 y2 y3 y4 y5 hall hfzQ hfs
    clear hr9 hr9'
    have hs0' : 0 ≤ spot + 1 := by omega
    have hs1' : spot + 1 ≤ 50 := by omega
    generalize spot + 1 = spot3 at *
    clear hs0 hs1
    k_steps
    revert w ys PP RR hb1 hk1 nR rvs rs hok hrs8 hRI fz2 hfzQ2 hall2 kv kn hkn
    repeat (rename _ => zz9; revert zz9)
    exact Hide.out
end Mine
end

/-! S9 -/
section
open PySem PySem.W PyProof.Rows
set_option maxRecDepth 100000
set_option maxHeartbeats 8000000
namespace Mine
theorem fill_frag12 : PySem.Challenge.rw_og0166_01 = PySem.Challenge.rw_og0166_01 ∧ hd.heap_1 = hd.heap_1 := by
  w_top off
  k_fill
  exact ⟨rfl, rfl⟩
local macro_rules | `(tactic| k_all) => `(tactic| (refine ne_of_below (by assumption) ?_; omega))
local macro_rules | `(tactic| k_all) => `(tactic| with_reducible assumption)
local macro_rules | `(tactic| k_ne) => `(tactic| with_reducible assumption)
local macro_rules | `(tactic| k_mem) => `(tactic| first | assumption | exact List.Mem.head _ | (refine' List.Mem.tail _ ?_; k_mem) | (refine List.mem_append_left _ ?_; k_mem) | (refine List.mem_append_right _ ?_; k_mem))
local macro_rules | `(tactic| walk_at "call type:enumerate") => `(tactic| (k_here; refine Halt.out ?_))
local macro_rules | `(tactic| walk_at "call ref") => `(tactic| (k_here; (with_reducible show wpAny _ _ (call (Value.ref 377) _) _ _ _); k_dflt (refine' call_cls ?k1 ?k2 ?k3 ?k4 ?k5 ?k6 ?_; (case k1 => k_asm); (case k2 => k_asm); (case k3 => k_asm); (case k4 => k_is); (case k5 => k_is); (case k6 => k_is); k_whole; intro x' d' h' F' N' l1 l2; (try k_lt l1); (try k_lt2 l2); (try k_sweep); k_enter)))
local macro_rules | `(tactic| walk_at "exec For Tuple Call") => `(tactic| (k_here; (rename Fr _ _ _ _ => lF'); (with_unfolding_all refine' For_turns lF' ?_; k_whole)))
local macro_rules | `(tactic| walk_at "setItem ref int") => `(tactic| (k_here; k_dflt (refine' kda_set (knd := PySem.intKind _ _) ?F ?N ?U ?d (intKind_is _ _ _ _) ?z ?_; (case F => k_asm); (case N => k_asm); (case U => k_updF); (case d => assumption); (case z => rw [sizeLine_eq]; omega)); intro h' o' F' N' hd'; (try dsimp only at N')))
local macro_rules | `(tactic| walk_at "subscriptTail") => `(tactic| (k_here; (with_reducible show wpAny _ _ (subscriptTail _ _ (Value.ref _) (Value.int _ _)) _ _ _); k_dflt (refine' tup_item (l := [_, _, _]) ?N ?m ?lo ?hi ?j ?x ?_; (case N => k_asm); (case m => k_mem); (case lo => decide); (case hi => decide); (case j => exact rfl); (case x => exact rfl); k_whole)))
local macro_rules | `(tactic| walk_at "subscriptTail Name Constant ref int") => `(tactic| (k_here; (with_reducible show wpAny _ _ (subscriptTail _ _ (Value.ref _) (Value.int _ _)) _ _ _); k_dflt (refine' tup_item (l := [_, _, _]) ?N ?m ?lo ?hi ?j ?x ?_; (case N => k_asm); (case m => k_mem); (case lo => decide); (case hi => decide); (case j => exact rfl); (case x => exact rfl); k_whole)))
local macro_rules | `(tactic| walk_at "call ref") => `(tactic| (k_here; (with_reducible show wpAny _ _ (call (Value.ref 388) [_]) _ _ _); refine Halt.out ?_))
local macro_rules | `(tactic| walk_at "call builtin:sorted") => `(tactic| (k_here; refine Halt.out ?_))
local macro_rules | `(tactic| walk_at "compareOp NotEq ref ref") => `(tactic| (k_here; refine Halt.out ?_))
local macro_rules | `(tactic| walk_at "eval ListComp") => `(tactic| (k_here; refine Halt.out ?_))
local macro_rules | `(tactic| walk_at "CompEnd") => `(tactic| (refine Halt.out ?_))
local macro_rules | `(tactic| walk_at "subscriptTail Name Name ref int") => `(tactic| (k_here; (with_reducible show wpAny _ _ (subscriptTail _ _ (Value.ref _) (Value.int _ _)) _ _ _); (k_dflt (refine' item_idict ?N ?m ?hd ?hv ?_; (case N => k_asm); (case m => k_mem); (case hd => assumption); (case hv => assumption); k_whole))))
local macro_rules | `(tactic| walk_at "subscriptTail Subscript Name Name Constant ref int") => `(tactic| (k_here; (with_reducible show wpAny _ _ (subscriptTail _ _ (Value.ref _) (Value.int _ _)) _ _ _); (k_dflt (refine' tup_item (l := [_, _]) ?N ?m ?lo ?hi ?j ?x ?_; (case N => k_asm); (case m => k_mem); (case lo => decide); (case hi => decide); (case j => exact rfl); (case x => exact rfl); k_whole))))
local macro_rules | `(tactic| walk_at "call ref") => `(tactic| (k_here; (with_reducible show wpAny _ _ (call (Value.ref 265) [_]) _ _ _); k_dflt (refine' pure1_use ?C ?B ?F ?X ?N ?T ?K ?dp ?un ?_; (case B => k_asm); (case F => k_asm); (case X => k_asm); (case N => k_asm); (case T => k_asm); (case K => first | exact rfl | assumption); (case C => refine told_val (VIn.mono ?_ (by assumption)); (intro q9 h9; repeat (first | exact h9 | refine List.mem_cons_of_mem _ ?_ | refine List.mem_append_left _ ?_))); (case dp => ktr_room); (case un => ktr_units); k_whole); intro r9 tl9 h9 tk9 hR9 hA9 F9 N9; (try simp only [List.append_nil, List.cons_append] at N9); (try dsimp only); (try k_fold)))
local macro_rules | `(tactic| walk_at "call ref") => `(tactic| (k_here; (with_reducible show wpAny _ _ (call (Value.ref 409) [_, _]) _ _ _); refine Halt.out ?_))
local macro_rules | `(tactic| walk_at "subscriptTail Name Subscript ref int") => `(tactic| (k_here; (with_reducible show wpAny _ _ (subscriptTail _ _ (Value.ref _) (Value.int _ _)) _ _ _); (k_dflt (refine' item_nat ?N ?m ?hx ?hb ?_; (case N => k_asm); (case m => k_mem); (case hx => assumption); (case hb => assumption); k_whole))))
local macro_rules | `(tactic| walk_at "subscriptTail Subscript Name Subscript Constant ref int") => `(tactic| (k_here; (with_reducible show wpAny _ _ (subscriptTail _ _ (Value.ref _) (Value.int _ _)) _ _ _); (k_dflt (refine' tup_item (l := [_, _, _]) ?N ?m ?lo ?hi ?j ?x ?_; (case N => k_asm); (case m => k_mem); (case lo => decide); (case hi => decide); (case j => exact rfl); (case x => exact rfl); k_whole))))
theorem news_d2 {h₀ h : Heap} {L : Addr} {a b c d : Addr × Obj} {l : Led} (N : News h₀ L h (a :: b :: c :: d :: l)) : News h₀ L h (a :: b :: l) := news_sub' N fun q hq => by
  rcases List.mem_cons.mp hq with rfl | hq
  · exact .head _
  · rcases List.mem_cons.mp hq with rfl | hq
    · exact .tail _ (.head _)
    · exact .tail _ (.tail _ (.tail _ (.tail _ hq)))
theorem dok_all {w : World} {l : Led} {rs : List Row} {ns : List Int} {kvsT : List (Int × Value)} (hTk : KvR (fun v i => ∃ r, rs[i]? = some r ∧ TupIn w l v r) kvsT (lastX rs)) (hp : ns.Perm (kvsT.map (·.1))) : ∀ d ∈ ns.map (datOf rs), dok 8 d = true := by
  intro d hd
  obtain ⟨k, hk, rfl⟩ := List.mem_map.mp hd
  obtain ⟨j, hj⟩ := gt_of_mem (xs := lastX rs) (k := k) (by rw [← hTk.keys]; exact hp.mem_iff.mp hk)
  rcases hTk.at (k := k) with ⟨_, e2⟩ | ⟨vt, j', hvt, e2, rr, hrr, htup⟩
  · rw [e2] at hj; cases hj
  rw [datOf_eq e2 hrr]
  simp only [dok, List.all_cons, List.all_nil, dok_TD, Bool.and_self]
theorem news_pk {h₀ h : Heap} {L : Addr} {a b c d : Addr × Obj} {R oP x1 x2 x3 x4 x5 x6 : Addr × Obj} {fz tl9 tl tl2 : Led} (N : News h₀ L h (a :: b :: c :: d :: R :: oP :: x1 :: x2 :: x3 :: x4 :: x5 :: x6 :: (fz ++ tl9 ++ tl ++ tl2))) : News h₀ L h (R :: oP :: x1 :: x2 :: x3 :: x4 :: x5 :: x6 :: (fz ++ tl9)) := news_sub' N fun q hq => by
  simp only [List.mem_cons, List.mem_append] at hq ⊢
  grind
noncomputable def st9 : {P : Prop // Hide P → st3.1} := by
  refine' ⟨_, fun hHide => ?main⟩
  case main =>
    intro zzf
    set_option tactic.hygienic false in intros
    unfold Halt
    rename Fr _ _ _ _ => F4
    rename News _ _ _ _ => N4
    refine Assign_ListComp_E (F₀ := F4) (by rfl) (by with_unfolding_all rfl) (by with_unfolding_all rfl) (by decide) (by rfl) (by decide) (by rfl) (by rfl) (by rfl) (by rfl) (by decide) (by rfl) (by rfl) ?_
    k_steps
    unfold Halt
    have hrl : rvs.length = rs.length := hall2.length
    refine src_enum (PcInv w _ _ _ _ _ _ _ _ fz2 rs) (by rfl) F4 N4 (.head _) (by rw [sizeLine_eq]; omega) (fun li _ => pc_init) ?step ?fin
    case step =>
      intro li g hli i v ys nw hv hInv hlp
      obtain ⟨pz, rfl, hA, hpz⟩ := hInv
      obtain ⟨rr, hr, hrow⟩ := hall2.get2 hv
      obtain ⟨ra, rn, rt, ru, vv, rfl, hm, hvv⟩ := hrow.ex
      refine ⟨ra, _, .int rr.num rt, .int rr.gen ru, vv, rn, rfl, List.mem_append_right [_, _, _, _, _, _, _, _] (List.mem_append_left _ hm), rfl, rfl, ?_⟩
      intro oe ol C oC D m₂ h tk tt E' hC hxa hx1 hx2 hx3 F5 N5 off5 hlt
      simp only [L8] at N5
      rcases hvv.form with ⟨x, rfl⟩ | ⟨t3, rfl⟩
      all_goals
        k_steps
        exact pc_end (by assumption) (by assumption) off5 (by assumption) (by assumption) hlp hA hpz hr hvv
    case fin =>
      intro li g yp nw hli hInv
      obtain ⟨pz, rfl, hA, hpz⟩ := hInv
      rw [hrl, List.take_length] at hA
      intro D9 h9 tk9 hlD9 F9 N9 off9
      have hPli : @LT.lt Nat _ PP li := hli _ (.tail _ (.head _))
      obtain ⟨fz3, N3, hfzQ3, hPm, hpcs, hrows, hkn3⟩ := pc_pack (PP := PP) N9 (Nat.lt_trans hPli (Nat.lt_trans (Nat.lt_succ_self _) hlD9)) hfzQ2 (fun q hq => Nat.lt_trans hPli (Nat.lt_trans (Nat.lt_succ_self _) (hpz q hq))) hA hall2 hkn
      clear hA hpz hall2 hkn hfzQ2 N9 off9 hlD9 F4 N4 hPli hli
      simp only [L8] at N3
      k_steps
      unfold Halt
      rename RR < _ ∧ _ => l1L
      rename Addr => LL
      have hLs : (LL == sysModules) = false := by assumption
      have hLf : ∀ q ∈ fz3, q.1 ≠ LL := fun q hq => Nat.ne_of_lt (allLt_mem l1L.2.2.2.2.2.2.2.2 q hq)
      refine ktu_enum (lo := listOf rvs.toArray nR) (vs := rvs) (xs := enumItems 0 rvs) (n := nR) (by rfl) (by assumption) (by assumption) (.tail _ (.head _)) rfl rfl rfl ?_
      intro I hI2
      refine items_ind (LastIv w LL ?cs rvs rs ?m0) ?step ?done _ _ _ ?init
      case init => exact lastIv_init (by assumption)
      case step =>
        rintro a r m l ⟨i, u1, u2, oL, kvs, xs, e1, rfl, rfl, hd1, hkv, hlx, hxl⟩ v h tk ha F5
        obtain ⟨v0, hv0, rfl, rfl⟩ := enum_cons e1
        obtain ⟨TT, tt, rfl, htt⟩ := ha
        obtain ⟨rr, hr, hrow⟩ := hrows.get2 hv0
        obtain ⟨ra, rn, rt, ru, vv, rfl, hmr, hvv⟩ := hrow.ex
        have hLI : @LT.lt Nat _ LL I := hI2 _ (.head _)
        have hRI : @LT.lt Nat _ RR I := hI2 _ (.tail _ (.head _))
        have hkl : kvs.length ≤ 8 := by
          have h1 := hkv.length
          have h2 := (List.getElem?_eq_some_iff.mp hr).1
          omega
        have hdr := drop_step hr
        ktu_objs
        k_steps
        · rename _ < rr.num => hpos
          refine' unrEnd2 (by assumption) (by assumption) (last_off hI2).1 (last_off hI2).2 ⟨⟨.tail _ (.head _), trivial⟩, lastIv_step (xs := st xs rr.num i) map_over2 (by assumption) (KvR.stored hkv ⟨_, rfl⟩) ?lg (Nat.le_trans (st_len _ _ _) (Nat.succ_le_succ hxl))⟩
          case lg => rw [hdr] at hlx; simpa only [lastG, if_pos hpos] using hlx
        · rename ¬ _ < rr.num => hpos
          refine' unrEnd2 (by assumption) (by assumption) (last_off hI2).1 (last_off hI2).2 ⟨⟨.tail _ (.head _), trivial⟩, lastIv_step map_over2 hd1 hkv ?lg (Nat.le_succ_of_le hxl)⟩
          case lg => rw [hdr] at hlx; simpa only [lastG, if_neg hpos] using hlx
      case done =>
        rintro m l ⟨i, u1, u2, oL, kvsL, xs, e1, rfl, rfl, hdL, hkvL, hlx, hxl⟩ h tk F5 N5
        have hn := enum_nil e1
        rw [hrl] at hn
        rw [List.drop_eq_nil_of_le hn] at hlx
        obtain rfl : xs = lastX rs := hlx
        obtain ⟨fz4, N6, hfzQ4, hLm, hfs4⟩ := last_pack (PP := PP) N5 l1L.2.1 hfzQ3
        have hPm4 := hfs4 _ hPm
        have hpcs4 : All2 (PcIn w fz4) yp rs := hpcs.mono fun _ _ h => h.mono hfs4
        have hrows4 : All2 (RowIn w fz4) rvs rs := hrows.mono fun _ _ h => h.mono hfs4
        have hkn4 := hkn3.mono hfs4
        clear hPm hpcs hrows hkn3 hfzQ3 hfs4 N5 hLf hI2 hn hxl e1
        simp only [L8] at N6
        k_steps
        unfold Halt
        refine' pure1_use (table_spec2 (n0 := fz4) ?m ?sub hpcs4 (by omega)) ?B ?F ?X ?N ?T ?K ?dp ?un ?_
        case B => k_asm
        case F => k_asm
        case X => k_asm
        case N => exact N6
        case T => k_asm
        case K => exact rfl
        case m => k_mem
        case sub => exact fun q hq => .tail _ (.tail _ (.tail _ (.tail _ (.tail _ (.tail _ (.tail _ (.tail _ hq)))))))
        case dp => ktr_room
        case un => ktr_units
        intro r9 tl9 h9t tk9t hR9 hA9 F9t N9t
        obtain ⟨TA, oTA, kvsT, rfl, hTm, hTd, hTs, hTk⟩ := hR9
        have hfzQ5 : ∀ q ∈ fz4 ++ tl9, @LT.lt Nat _ PP q.1 := fun q hq => (List.mem_append.mp hq).elim (hfzQ4 q) fun hq => hA9.lt q hq (PP, _) (.tail _ (.head _))
        simp only [List.cons_append] at N9t
        clear N6
        try dsimp only
        try k_fold
        k_steps
        unfold Halt
        have hlx : (lastX rs).length ≤ 8 := Nat.le_trans (lastX_len rs) (by omega)
        have hlT : kvsT.length < 64 := by have := hTk.length; omega
        have hlL : kvsL.length < 64 := by have := hkvL.length; omega
        rename Fr _ _ _ _ => F7
        rename News _ _ _ _ => N7
        refine sorted_idict (by rfl) F7 N7 (by k_mem) hTd hTs hlT ?_
        intro B1 vs1 ns1 e1 hh1 tkk1 hI1 hp1 hs1 FF1 NN1 lB1
        k_steps
        unfold Halt
        rename Fr _ _ _ _ => F8
        rename News _ _ _ _ => N8
        refine sorted_idict (by rfl) F8 N8 (by k_mem) hdL hLs hlL ?_
        intro B2 vs2 ns2 e2 hh2 tkk2 hI2' hp2 hs2 FF2 NN2 lB2
        k_steps
        unfold Halt
        have hns12 : ns1 = ns2 := sorted_eq (hp1.trans (by rw [hTk.keys, ← hkvL.keys]; exact hp2.symm)) hs1 hs2
        subst hns12
        refine ne_ints (by assumption) (List.Mem.tail _ (.head _)) (.head _) hI1 hI2' (Nat.le_of_ble_eq_true rfl) ?_
        k_steps
        unfold Halt
        rename Fr _ _ _ _ => F10
        refine LCg.ListComp_U (F₀ := F10) (by with_unfolding_all rfl) (by decide) (by rfl) (by decide) (by rfl) ?_
        k_steps
        unfold Halt
        rename Fr _ _ _ _ => F11
        rename News _ _ _ _ => N11
        refine sorted_idict (by rfl) F11 N11 (by k_mem) hTd hTs hlT ?_
        intro B3 vs3 ns3 e3 hh3 tkk3 hI3 hp3 hs3 FF3 NN3 lB3
        have hns3 : ns3 = ns1 := sorted_eq (hp3.trans hp1.symm) hs3 hs1
        subst hns3
        refine LCg.CompSrc.ledger (by rfl) FF3 NN3 (.head _) (by rw [sizeLine_eq, List.size_toArray, hI3.length]; have := hp3.length_eq; rw [List.length_map] at this; omega) ?_
        intro g3
        refine comp_ind (CInv PP _ _ _ _ _ _ _ _ _ _ _ (fz4 ++ tl9) (ns3.map (datOf rs))) ?step ?done _ 0 [] _ (Nat.zero_add _) cinv_init
        case step =>
          rintro i yy nw hi ⟨tl, rfl, hdat, htl⟩ v I oI C oC D m₂ h tk E' hP hC hx F12 N12 off ne
          obtain ⟨kk, kt, hk1, rfl⟩ := ints_get hI3 (by simpa using hP)
          have hkm : kk ∈ (lastX rs).map (·.1) := by rw [← hTk.keys]; exact hp3.mem_iff.mp (List.mem_of_getElem? hk1)
          obtain ⟨j, hj⟩ := gt_of_mem hkm
          rcases hTk.at (k := kk) with ⟨_, e2⟩ | ⟨vt, j', hvt, e2, rr, hrr, htup⟩
          · rw [e2] at hj; cases hj
          obtain ⟨ta, tn, tt, vv, rfl, hmt, hvv⟩ := htup.ex
          simp only [L8] at N12
          rcases hvv.form with ⟨x, rfl⟩ | ⟨t3, rfl⟩
          all_goals
            k_steps
            unfold Halt
            rename News _ _ _ (_ :: (I, _) :: _) => N13
            rename News _ _ _ ((I, _) :: _) => N14
            rename DatIn _ _ _ => hd9
            refine cinv_end (by assumption) N13 N14 rfl (by assumption) off (fun _ => Or.inr ⟨_, .head _, rfl, _, rfl⟩) hdat htl hd9 ?_
            exact (map_get hk1).trans (congrArg some (datOf_eq e2 hrr))
        case done =>
          rintro yy nw ⟨tl, rfl, hdat, htl⟩
          intro D1 hD1 tkD1 FD1 ND1 offD1
          rw [List.size_toArray, hI3.length, ← List.length_map (f := datOf rs), List.take_length] at hdat
          simp only [L8] at ND1
          clear FF3 NN3 N11 F11 N7 F7
          k_steps
          unfold Halt
          have ND2 := news_d2 ND1
          clear ND1 N8 F8
          refine LCg.ListComp_U (F₀ := FD1) (by with_unfolding_all rfl) (by decide) (by rfl) (by decide) (by rfl) ?_
          k_steps
          unfold Halt
          rename Fr _ _ _ _ => F12
          rename News _ _ _ _ => N12
          refine sorted_idict (by rfl) F12 N12 (by k_mem) hdL hLs hlL ?_
          intro B4 vs4 ns4 e4 hh4 tkk4 hI4 hp4 hs4 FF4 NN4 lB4
          have hns4 : ns4 = ns3 := sorted_eq (hp4.trans hp2.symm) hs4 hs3
          subst hns4
          refine LCg.CompSrc.ledger (by rfl) FF4 NN4 (.head _) (by rw [sizeLine_eq, List.size_toArray, hI4.length]; have := hp4.length_eq; rw [List.length_map] at this; omega) ?_
          intro g4
          refine comp_ind (CInv PP _ _ _ _ _ _ _ _ _ _ _ (fz4 ++ tl9 ++ tl) (ns4.map (datOf rs))) ?step ?done _ 0 [] _ (Nat.zero_add _) cinv_init
          case step =>
            rintro i yy2 nw hi ⟨tl2, rfl, hdat2, htl2⟩ v I oI C oC D m₂ h tk E' hP hC hx F12 N12 off ne
            obtain ⟨kk, kt, hk1, rfl⟩ := ints_get hI4 (by simpa using hP)
            have hkm : kk ∈ (lastX rs).map (·.1) := by rw [← hkvL.keys]; exact hp4.mem_iff.mp (List.mem_of_getElem? hk1)
            obtain ⟨j, hj⟩ := gt_of_mem hkm
            rcases hTk.at (k := kk) with ⟨_, e2⟩ | ⟨vt, j', hvt, e2, rr, hrr, htup⟩
            · rw [e2] at hj; cases hj
            rcases hkvL.at (k := kk) with ⟨_, e3⟩ | ⟨vl, j2, hvl, e3, tl3, rfl⟩
            · rw [e3] at hj; cases hj
            obtain rfl : j' = j2 := Option.some.inj (e2.symm.trans e3)
            obtain ⟨va, hva, hrow⟩ := hrows4.get hrr
            obtain ⟨ra, rn, rt, ru, vv, rfl, hmr, hvv⟩ := hrow.ex
            have hrvb : rvs.length < 2 ^ 62 := by omega
            clear hj hkm hvt htup
            simp only [L8] at N12
            rcases hvv.form with ⟨x, rfl⟩ | ⟨t3, rfl⟩
            all_goals
              k_steps
              unfold Halt
              rename News _ _ _ (_ :: (I, _) :: _) => N13
              rename News _ _ _ ((I, _) :: _) => N14
              rename DatIn _ _ _ => hd9
              refine cinv_end (by assumption) N13 N14 rfl (by assumption) off (fun _ => Or.inr ⟨_, .head _, rfl, _, rfl⟩) hdat2 htl2 hd9 ?_
              exact (map_get hk1).trans (congrArg some (datOf_eq e2 hrr))
          case done =>
            rintro yy2 nw ⟨tl2, rfl, hdat2, htl2⟩
            intro D2 hD2 tkD2 FD2 ND2' offD2
            rw [List.size_toArray, hI4.length, ← List.length_map (f := datOf rs), List.take_length] at hdat2
            simp only [L8] at ND2'
            (try clear FF4 NN4); (try clear N12 F12); (try clear ND2); (try clear FD1)
            k_steps
            unfold Halt
            have ND3 := ND2'
            refine ne_dats ND2' (.tail _ (.tail _ (.head _))) (.head _) hdat (fun q hq => ?sa) hdat2 (fun q hq => ?sb) ?hk (Nat.le_of_ble_eq_true rfl) ?_
            case hk => exact dok_all hTk (by assumption)
            case sa => exact .tail _ (.tail _ (.tail _ (.tail _ (.tail _ (.tail _ (.tail _ (.tail _ (.tail _ (.tail _ (.tail _ (.tail _ (List.mem_append_left _ (List.mem_append_right _ hq)))))))))))))
            case sb => exact .tail _ (.tail _ (.tail _ (.tail _ (.tail _ (.tail _ (.tail _ (.tail _ (.tail _ (.tail _ (.tail _ (.tail _ (List.mem_append_right _ hq))))))))))))
            have ND4 := news_pk ND3
            clear ND3 ND2'
            have hTm5 : (TA, oTA) ∈ fz4 ++ tl9 := List.mem_append_right _ hTm
            have hPm5 := List.mem_append_left tl9 hPm4
            have hLm5 := List.mem_append_left tl9 hLm
            have hpcs5 : All2 (PcIn w (fz4 ++ tl9)) yp rs := hpcs4.mono fun _ _ h => h.mono fun q hq => List.mem_append_left _ hq
            have hrows5 : All2 (RowIn w (fz4 ++ tl9)) rvs rs := hrows4.mono fun _ _ h => h.mono fun q hq => List.mem_append_left _ hq
            have hkn5 : KnV w (fz4 ++ tl9) kv kn := hkn4.mono fun q hq => List.mem_append_left _ hq
            clear hTm hPm4 hLm hpcs4 hrows4 hkn4 hfzQ4 hA9 hdat hdat2 htl htl2 hI1 hI2' hI3 hI4 hp1 hp2 hp3 hp4 hs1 hs2 hs3 hs4 lB1 lB2 lB3 lB4 offD1 offD2
            generalize fz4 ++ tl9 = fz5 at *
            k_steps
            unfold Halt
            refine' draw_use ?B ?F ?X ?N ?T ?K ?U ?c ?i ?len ?s0 ?s1 ?b0 ?b1 ?d0 ?d1 ?cp ?dp ?un ?_
            case B => k_asm
            case F => k_asm
            case X => k_asm
            case N => k_asm
            case T => k_asm
            case K => exact rfl
            case U => k_updF
            case c => k_mem
            case i => assumption
            case len => assumption
            case s0 => omega
            case s1 => omega
            case b0 => assumption
            case b1 => assumption
            case d0 => decide
            case d1 => decide
            case cp => k_ne
            case dp => ktr_room
            case un => ktr_units
            clear ND4
            intro gone t9g t9g' n9g h9g tk9g hg0 hg4 F9g N9g
            try dsimp only at N9g
            try dsimp only
            try k_fold
            k_steps
            revert w PP hb1 hk1 nR rvs rs hok hrs8 kv kn hrl yp F5 hkvL TA oTA kvsT hTd hTs hlT yy tl fz5 hTk hfzQ5 hTm5 hPm5 hLm5 hpcs5 hrows5 hkn5 gone
            repeat (rename _ => zz9; revert zz9)
            exact Hide.out
end Mine
end

/-! S10 -/
section
open PySem PySem.W PyProof.Rows
set_option maxRecDepth 100000
set_option maxHeartbeats 8000000
namespace Mine
theorem fill_frag19 : PySem.Challenge.rw_og0166_01 = PySem.Challenge.rw_og0166_01 ∧ hd.heap_1 = hd.heap_1 := by
  w_top off
  k_fill
  exact ⟨rfl, rfl⟩
local macro_rules | `(tactic| k_all) => `(tactic| (refine ne_of_below (by assumption) ?_; omega))
local macro_rules | `(tactic| k_all) => `(tactic| with_reducible assumption)
local macro_rules | `(tactic| k_ne) => `(tactic| with_reducible assumption)
local macro_rules | `(tactic| k_mem) => `(tactic| first | assumption | exact List.Mem.head _ | (refine' List.Mem.tail _ ?_; k_mem) | (refine List.mem_append_left _ ?_; k_mem) | (refine List.mem_append_right _ ?_; k_mem))
local macro_rules | `(tactic| walk_at "call type:dict") => `(tactic| (k_here; refine Halt.out ?_))
local macro_rules | `(tactic| walk_at "eval ListComp") => `(tactic| (k_here; refine Halt.out ?_))
local macro_rules | `(tactic| walk_at "setItem ref int") => `(tactic| (k_here; refine Halt.out ?_))
local macro_rules | `(tactic| walk_at "call type:enumerate") => `(tactic| (k_here; refine Halt.out ?_))
local macro_rules | `(tactic| walk_at "exec For Tuple Call") => `(tactic| (k_here; (rename Fr _ _ _ _ => lF'); (with_unfolding_all refine' For_turns lF' ?_; k_whole)))
local macro_rules | `(tactic| walk_at "CompEnd") => `(tactic| (refine Halt.out ?_))
local macro_rules | `(tactic| walk_at "CompSrcD") => `(tactic| (refine Halt.out ?_))
local macro_rules | `(tactic| walk_at "subscriptTail Name Name ref int") => `(tactic| (k_here; (with_reducible show wpAny _ _ (subscriptTail _ _ (Value.ref _) (Value.int _ _)) _ _ _); (k_dflt (refine' item_idict ?N ?m ?hd ?hv ?_; (case N => k_asm); (case m => k_mem); (case hd => assumption); (case hv => assumption); k_whole))))
theorem news_d1 {h₀ h : Heap} {L : Addr} {a b : Addr × Obj} {l : Led} (N : News h₀ L h (a :: b :: l)) : News h₀ L h (a :: l) := news_sub' N fun q hq => by
  rcases List.mem_cons.mp hq with rfl | hq
  · exact .head _
  · exact .tail _ (.tail _ hq)
theorem lT2_of {T2 : Addr} {a R oP x1 x2 x3 x4 x5 x6 : Addr × Obj} {fz : Led} (h : ∀ q ∈ a :: R :: oP :: x1 :: x2 :: x3 :: x4 :: x5 :: x6 :: fz, q.1 < T2) : ∀ q ∈ [R, oP, x1, x2, x3, x4, x5, x6], q.1 < T2 := fun q hq => h q (.tail _ (List.mem_append_left fz hq))
theorem tab_pack {w : World} {h₀ h : Heap} {L tp T2 : Addr} {o9 : Obj} {tt : Tok} {nt : Nat} {kv : Value} {kn : KN} {R oP x1 x2 x3 x4 x5 x6 : Addr × Obj} {fz : Led} {kvs : List (Int × Value)} (N : News h₀ L h ((tp, ({ cls := .type "tuple", data := .seq [.int 0 tt, kv].toArray nt } : Obj)) :: (T2, o9) :: R :: oP :: x1 :: x2 :: x3 :: x4 :: x5 :: x6 :: fz))
    (hd : Obj.IsDictOf (PySem.intKind PG w) o9 (PySem.stored kvs 9 (.ref tp))) (hs : (T2 == sysModules) = false) (hk : KnV w fz kv kn) :
    ∃ fz' : Led, News h₀ L h (R :: oP :: x1 :: x2 :: x3 :: x4 :: x5 :: x6 :: fz') ∧ TbIn w fz' T2 kn ∧ (T2, o9) ∈ fz' ∧ ∀ q ∈ fz, q ∈ fz' := by
  refine ⟨_ :: (T2, o9) :: fz, news_sub' N fun q hq => ?_, ⟨⟨o9, _, tp, tt, nt, kv, .tail _ (.head _), hd, hs, by rw [vat_stored, if_pos rfl], .head _, hk.mono fun q hq => .tail _ (.tail _ hq)⟩⟩, .tail _ (.head _), fun q hq => .tail _ (.tail _ hq)⟩
  simp only [List.mem_cons] at hq ⊢
  grind
noncomputable def st10 : {P : Prop // Hide P → st9.1} := by
  refine' ⟨_, fun hHide => ?main⟩
  case main =>
    intro zzf
    set_option tactic.hygienic false in intros
    rename Fr _ _ _ _ => FG
    rename News _ _ _ _ => NG
    refine ListComp_TD (F₀ := FG) (by with_unfolding_all rfl) (by decide) (by rfl) (by decide) (by rfl) ?_
    k_steps
    unfold Halt
    rename Fr _ _ _ _ => F12
    rename News _ _ _ _ => N12
    refine ⟨TA, oTA, kvsT, _, rfl, rfl, hTs, F12, N12, by k_mem, hTd, by rw [sizeLine_eq]; omega, ?_⟩
    rintro s₂ ⟨g10, rfl⟩
    refine compT_ind (DInv PP _ _ _ _ _ _ _ _ fz5 kvsT gone) ?step ?done _ 0 [] _ (Nat.zero_add _) dinv_init
    case step =>
      rintro i yy nw hi ⟨tl, rfl, hA, htl⟩ v I oI C oC D m₂ h tk E' hP hC hx F13 N13 off ne
      obtain ⟨k, y, kt, hk1, rfl⟩ := hP
      have hvk := valueAt_of_get (nodup_of hTd) hk1
      obtain ⟨b, _, _, rr, _, htup⟩ := hTk.get2 hk1
      obtain ⟨ta, tn, tt, vv, ey, hmt, hvv⟩ := htup.ex
      dsimp only at ey
      subst ey
      simp only [L8] at N13
      k_steps
      · unfold Halt
        rename News _ _ _ (_ :: (I, _) :: _) => N14
        rename News _ _ _ ((I, _) :: _) => N15
        exact dinv_yes (by assumption) N14 N15 rfl off hTm5 hA htl hk1 (by assumption)
      · unfold Halt
        exact dinv_no (by assumption) N13 off hTm5 hA htl hk1 (by assumption)
    case done =>
      rintro yy nw ⟨tl, rfl, hA, htl⟩
      intro D3 hD3 tkD3 FD3 ND3 offD3
      rw [List.take_length] at hA
      simp only [L8] at ND3
      (try clear FG NG); (try clear N12 F12)
      k_steps
      unfold Halt
      refine dict_of_pairs (by rfl) FD3 ND3 (Top.nolimit (by assumption)) (.head _) (hA.mono fun _ _ h => h.mono fun q hq => .tail _ (.tail _ (.tail _ (.tail _ (.tail _ (.tail _ (.tail _ (.tail _ (.tail _ hq))))))))) (pairs_len hA hlT) ?_
      intro T2 h2 o2 tk2 F2 N2 lT2 hT2s hT2d
      clear FD3 ND3
      have N3 := news_d1 N2
      have lT3 : ∀ q ∈ fz5 ++ tl, q.1 < T2 := fun q hq => lT2 _ (.tail _ (.tail _ (.tail _ (.tail _ (.tail _ (.tail _ (.tail _ (.tail _ (.tail _ hq)))))))))
      have lT4 := lT2_of lT2
      clear N2 lT2 offD3
      have hfzQ6 : ∀ q ∈ fz5 ++ tl, @LT.lt Nat _ PP q.1 := fun q hq => (List.mem_append.mp hq).elim (hfzQ5 q) (htl q)
      have hPm6 := List.mem_append_left tl hPm5
      have hLm6 := List.mem_append_left tl hLm5
      have hpcs6 : All2 (PcIn w (fz5 ++ tl)) yp rs := hpcs5.mono fun _ _ h => h.mono fun q hq => List.mem_append_left _ hq
      have hrows6 : All2 (RowIn w (fz5 ++ tl)) rvs rs := hrows5.mono fun _ _ h => h.mono fun q hq => List.mem_append_left _ hq
      have hkn6 : KnV w (fz5 ++ tl) kv kn := hkn5.mono fun q hq => List.mem_append_left _ hq
      have hkeys := hTk.keys
      have hsz2 : (merged [] (less kvsT gone)).length ≤ 100 := Nat.le_trans (merged_len _) (Nat.le_trans (less_len _ _) (by omega))
      clear hPm5 hLm5 hpcs5 hrows5 hkn5 hfzQ5 htl hTm5 hTk hA hTd hTs
      generalize fz5 ++ tl = fz6 at *
      have hT2f : ∀ q ∈ fz6, q.1 ≠ T2 := fun q hq => Nat.ne_of_lt (lT3 q hq)
      k_lt lT4
      k_steps
      unfold Halt
      rename Fr _ _ _ _ => F14
      rename News _ _ _ (_ :: (T2, _) :: _) => N14
      rename News _ _ _ ((T2, _) :: _) => N13
      have hsz : @LT.lt Nat _ T2 _ := Heap.lt_size (N13 (T2, o2) (.head _)).1
      refine' kda_set (knd := PySem.intKind _ _) F14 N14 ?U hT2d (intKind_is _ _ _ _) ?z ?_
      case U => k_updF
      case z => rw [sizeLine_eq]; omega
      intro h9s o9 F9s N9s hd9s
      try dsimp only at N9s
      obtain ⟨fz7, N9p, hTb, hT2m, hs7⟩ := tab_pack N9s hd9s hT2s hkn6
      have hPm7 := hs7 _ hPm6
      have hLm7 := hs7 _ hLm6
      have hpcs7 : All2 (PcIn w fz7) yp rs := hpcs6.mono fun _ _ h => h.mono hs7
      have hrows7 : All2 (RowIn w fz7) rvs rs := hrows6.mono fun _ _ h => h.mono hs7
      have hkn7 := hkn6.mono hs7
      clear hPm6 hLm6 hpcs6 hrows6 hkn6 hfzQ6 hT2f lT3 lT4 hs7 N9s N14 N13 hsz hT2d F14
      k_steps
      rename Fr _ _ _ _ => FZ9
      rename News _ _ _ _ => NZ9
      revert w hb1 nR rvs rs hok hrs8 kn hrl yp hkvL kvsT tl gone hT2s hkeys hd9s hTb hT2m hPm7 hLm7 hpcs7 hrows7 hkn7 FZ9 NZ9
      repeat (rename _ => zz9; revert zz9)
      exact Hide.out
end Mine
end

/-! S11 -/
section
open PySem PySem.W PyProof.Rows
set_option maxRecDepth 100000
set_option maxHeartbeats 8000000
namespace Mine
theorem fill_frag20 : PySem.Challenge.rw_og0166_01 = PySem.Challenge.rw_og0166_01 ∧ hd.heap_1 = hd.heap_1 := by
  w_top off
  k_fill
  exact ⟨rfl, rfl⟩
local macro_rules | `(tactic| k_all) => `(tactic| (refine ne_of_below (by assumption) ?_; omega))
local macro_rules | `(tactic| k_all) => `(tactic| with_reducible assumption)
local macro_rules | `(tactic| k_ne) => `(tactic| with_reducible assumption)
local macro_rules | `(tactic| k_mem) => `(tactic| first | assumption | exact List.Mem.head _ | (refine' List.Mem.tail _ ?_; k_mem) | (refine List.mem_append_left _ ?_; k_mem) | (refine List.mem_append_right _ ?_; k_mem))
local macro_rules | `(tactic| kit_at) => `(tactic| (refine' kitAt_N ?N ?m ?c; (case N => k_asm); (case m => k_mem); (case c => first | exact isDict_cls (by assumption) | exact rfl)))
local macro_rules | `(tactic| walk_at "compareOp In str ref") => `(tactic| (k_here; k_dflt (refine' kda_in (knd := PySem.strKind _ _) ?N ?m ?d ?lo (strKind_is _ _ _ _) _ ?v ?_; (case N => k_asm); (case m => k_mem); (case d => assumption); (case lo => assumption); (case v => assumption))))
local macro_rules | `(tactic| walk_at "call ref") => `(tactic| (k_here; (with_reducible show wpAny _ _ (call (Value.ref 242) _) _ _ _); k_dflt (refine' call_cls ?k1 ?k2 ?k3 ?k4 ?k5 ?k6 ?_; (case k1 => k_asm); (case k2 => k_asm); (case k3 => k_asm); (case k4 => k_is); (case k5 => k_is); (case k6 => k_is); k_whole; intro x' d' h' F' N' l1 l2; (try k_lt l1); (try k_lt2 l2); (try k_sweep); k_enter)))
local macro_rules | `(tactic| walk_at "call ref") => `(tactic| (k_here; (with_reducible show wpAny _ _ (call (Value.ref 171) _) _ _ _); k_dflt (refine' call_cls ?k1 ?k2 ?k3 ?k4 ?k5 ?k6 ?_; (case k1 => k_asm); (case k2 => k_asm); (case k3 => k_asm); (case k4 => k_is); (case k5 => k_is); (case k6 => k_is); k_whole; intro x' d' h' F' N' l1 l2; (try k_lt l1); (try k_lt2 l2); (try k_sweep); k_enter)))
local macro_rules | `(tactic| walk_at "exec Assign cons BoolOp") => `(tactic| (k_here; (fail_if_success (with_reducible show wpAny _ _ _ (SetB _ _ _ _ _ _ _) _ _)); refine Halt.out ?_))
local macro_rules | `(tactic| walk_at "exec If BoolOp") => `(tactic| (k_here; (fail_if_success (with_reducible show wpAny _ _ _ (SkipAt _ _ _ _ _) _ _)); refine Halt.out ?_))
local macro_rules | `(tactic| walk_at "subscriptTail Name Name ref int") => `(tactic| (k_here; (with_reducible show wpAny _ _ (subscriptTail _ _ (Value.ref _) (Value.int _ _)) _ _ _); (k_dflt (refine' item_idict ?N ?m ?hd ?hv ?_; (case N => k_asm); (case m => k_mem); (case hd => assumption); (case hv => assumption); k_whole))))
local macro_rules | `(tactic| walk_at "call ref") => `(tactic| (k_here; (with_reducible show wpAny _ _ (call (Value.ref 265) [_]) _ _ _); refine Halt.out ?_))
local macro_rules | `(tactic| walk_at "call ref") => `(tactic| (k_here; (with_reducible show wpAny _ _ (call (Value.ref 395) [_, _, _]) _ _ _); refine Halt.out ?_))
local macro_rules | `(tactic| walk_at "call builtin:isinstance") => `(tactic| (k_here; (with_reducible show wpAny _ _ (call _ [Value.ref _, Value.type _]) _ _ _); refine Halt.out ?_))
local macro_rules | `(tactic| walk_at "compareOp Eq ref ref") => `(tactic| (k_here; refine Halt.out ?_))
noncomputable def st11 : {P : Prop // Hide P → st10.1} := by
  refine' ⟨_, fun hHide => ?main⟩
  case main =>
    intro zzf
    set_option tactic.hygienic false in intros
    unfold Halt
    rename Fr _ _ _ _ => F15
    rename News _ _ _ _ => N15
    obtain ⟨fz8, N16, hSh, hs8⟩ := sh_pack N15
    have hTb8 := hTb.mono hs8
    have hT2m8 := hs8 _ hT2m
    have hPm8 := hs8 _ hPm7
    have hLm8 := hs8 _ hLm7
    have hpcs8 : All2 (PcIn w fz8) yp rs := hpcs7.mono fun _ _ h => h.mono hs8
    have hrows8 : All2 (RowIn w fz8) rvs rs := hrows7.mono fun _ _ h => h.mono hs8
    have hkn8 := hkn7.mono hs8
    clear hTb hT2m hPm7 hLm7 hpcs7 hrows7 hkn7 hs8 N15
    refine ktu_enum (lo := listOf rvs.toArray nR) (vs := rvs) (xs := enumItems 0 rvs) (n := nR) (by rfl) F15 N16 (.head _) rfl rfl rfl ?_
    intro I hI2
    refine items_ind (MainIv I [_, _, _] fz8 rvs rs gone kn _) ?step ?done _ _ _ main_init
    case step =>
      rintro a r m l ⟨i, u1, u2, u3, u4, u5, u6, u7, dv, tl, d, e1, rfl, rfl, hdv, hdue, htl⟩ v h tk ha F5
      obtain ⟨v0, hv0, rfl, rfl⟩ := enum_cons e1
      obtain ⟨TT, tt, rfl, htt⟩ := ha
      obtain ⟨rr, hr, hrow⟩ := hrows8.get2 hv0
      obtain ⟨ra, rn, rt, ru, vv, rfl, hmr, hvv⟩ := hrow.ex
      have hi8 := (List.getElem?_eq_some_iff.mp hr).1
      simp only [List.cons_append, List.nil_append]
      ktu_objs
      k_steps
      unfold Halt
      rename Fr _ _ _ _ => F17
      rename News _ _ _ _ => N17
      refine cut_setF (Str.ofString "is_standing") (decide (0 < rr.num ∧ rr.num ≠ gone ∧ gt (lastX rs) rr.num = some i)) F17 N17 ?cutA ?restA
      case cutA =>
        by_cases hp : 0 < rr.num
        · obtain ⟨j, hj⟩ := Option.isSome_iff_exists.mp (lastX_some hp ⟨rr, List.mem_of_getElem? hr, rfl⟩)
          rcases hkvL.at (k := rr.num) with ⟨_, e3⟩ | ⟨vl, j2, hvl, e3, tl3, rfl⟩
          · rw [e3] at hj; cases hj
          k_steps
          · exact setB_of (by assumption) (by assumption) (fun _ hq => hq) (stand_eq hp (by assumption) e3)
          · exact setB_of (by assumption) (by assumption) (fun _ hq => hq) (stand_gone (by assumption))
        · k_steps
          exact setB_of (by assumption) (by assumption) (fun _ hq => hq) (stand_zero hp)
      case restA =>
        generalize hAc : decide (0 < rr.num ∧ rr.num ≠ gone ∧ gt (lastX rs) rr.num = some i) = bA
        clear F17 N17
        intro hA tkA FA NA
        k_steps
        unfold Halt
        refine cut_setF (Str.ofString "is_told") (isT rr.k kn) FA NA ?cutB ?restB
        case cutB =>
          rcases hvv.form5 with ⟨t, rfl, hD, hT⟩ | ⟨x, o, kvs, rfl, hx1, hx2, hx3, hD, hK, hT⟩ | ⟨x, o, kvs, rfl, hx1, hx2, hx3, hD, hK, hok1, heq1, hT⟩ | ⟨x, dd, od, rfl, hx1, hx2, hD, hT⟩ | ⟨x, dd, od, rfl, hx1, hx2, hD, hT⟩
          · k_steps
            exact setB_of (by assumption) (by assumption) (fun _ hq => hq) (hT kn).symm
          · k_steps
            unfold Halt
            refine' kia_one kitx_dict ?X ?c ?ee ?nb ?_
            case c => exact kitAt_N (by k_asm) (inl8 hx1) (isDict_cls hx2)
            case X => k_in
            case ee => kit_is
            case nb => kit_nb
            intro _
            k_steps
            exact setB_of (by assumption) (by assumption) (fun _ hq => hq) (hT kn).symm
          · k_steps
            unfold Halt
            refine' kia_one kitx_dict ?X ?c ?ee ?nb ?_
            case c => exact kitAt_N (by k_asm) (inl8 hx1) (isDict_cls hx2)
            case X => k_in
            case ee => kit_is
            case nb => kit_nb
            intro _
            k_steps
            unfold Halt
            refine' pure1_use (told_val ?V) ?B ?F ?X ?N ?T ?K ?dp ?un ?_
            case B => k_asm
            case F => k_asm
            case X => k_asm
            case N => k_asm
            case T => k_asm
            case K => exact rfl
            case V => exact hvv.mono fun q h => inl8 h
            case dp => ktr_room
            case un => ktr_units
            intro rA tlrA hrA tkrA hRrA hArA FrA NrA
            simp only [List.cons_append, List.append_assoc] at NrA
            try dsimp only
            try k_fold
            obtain ⟨aA, rfl⟩ := td_ref hRrA
            k_steps
            unfold Halt
            refine' pure1_use (told_val ?V) ?B ?F ?X ?N ?T ?K ?dp ?un ?_
            case B => k_asm
            case F => k_asm
            case X => k_asm
            case N => k_asm
            case T => k_asm
            case K => exact rfl
            case V => exact .ref9 ⟨⟨_, by k_mem, by assumption, by assumption⟩⟩ ⟨⟨_, _, _, _, _, by k_mem, by k_mem⟩⟩
            case dp => ktr_room
            case un => ktr_units
            intro rB tlrB hrB tkrB hRrB hArB FrB NrB
            simp only [List.cons_append, List.append_assoc] at NrB
            try dsimp only
            try k_fold
            obtain ⟨aB, rfl⟩ := td_ref hRrB
            k_steps
            unfold Halt
            cases hb1 : (rr.k == VK.ref9) with
            | false =>
              rw [hb1] at heq1
              refine' eq_dats ?N hRrA ?sa hRrB ?sb hok1 ok_ref9 (Nat.le_of_ble_eq_true rfl) heq1 ?_
              case N => k_asm
              case sa => intro q9 h9; k_mem
              case sb => intro q9 h9; k_mem
              k_steps
              exact setB_of (by assumption) (by assumption) (fun q hq => .tail _ (.tail _ (.tail _ (sub10 q hq)))) (by rw [hT, hb1]; rfl)
            | true =>
              rw [hb1] at heq1
              refine' eq_dats ?N hRrA ?sa hRrB ?sb hok1 ok_ref9 (Nat.le_of_ble_eq_true rfl) heq1 ?_
              case N => k_asm
              case sa => intro q9 h9; k_mem
              case sb => intro q9 h9; k_mem
              k_steps
              unfold Halt
              refine' pure1_use (told_kn ?V) ?B ?F ?X ?N ?T ?K ?dp ?un ?_
              case B => k_asm
              case F => k_asm
              case X => k_asm
              case N => k_asm
              case T => k_asm
              case K => exact rfl
              case V => exact hkn8.mono fun q9 h9 => by k_mem
              case dp => ktr_room
              case un => ktr_units
              intro rC tlrC hrC tkrC hRrC hArC FrC NrC
              simp only [List.cons_append, List.append_assoc] at NrC
              try dsimp only
              try k_fold
              obtain ⟨aC, rfl⟩ := kd_ref hRrC
              k_steps
              unfold Halt
              refine' pure1_use (told_val ?V) ?B ?F ?X ?N ?T ?K ?dp ?un ?_
              case B => k_asm
              case F => k_asm
              case X => k_asm
              case N => k_asm
              case T => k_asm
              case K => exact rfl
              case V => exact .nam ⟨⟨_, _, _, by k_mem, by k_mem⟩⟩
              case dp => ktr_room
              case un => ktr_units
              intro rD tlrD hrD tkrD hRrD hArD FrD NrD
              simp only [List.cons_append, List.append_assoc] at NrD
              try dsimp only
              try k_fold
              obtain ⟨aD, rfl⟩ := td_ref hRrD
              k_steps
              unfold Halt
              refine' eq_dats ?N hRrC ?sa hRrD ?sb (kd_eqv kn).1 ok_nam (Nat.le_of_ble_eq_true rfl) (kd_eqv kn).2 ?_
              case N => k_asm
              case sa => intro q9 h9; k_mem
              case sb => intro q9 h9; k_mem
              k_steps
              exact setB_of (by assumption) (by assumption) (fun q hq => .tail _ (.tail _ (.tail _ (.tail _ (.tail _ (sub10 q hq)))))) (by rw [hT, hb1]; rfl)
          · k_steps
            unfold Halt
            refine' kia_one (kitx_own ?k4 ?k5 ?k6 ?k7 ?k8 ?k9) ?X ?I ?ee ?nb ?_
            case I => exact InstAt.of_news (by k_asm) (inl8 hx1) (inl8 hx2)
            case X => k_in
            case ee => kit_is
            case nb => kit_nb
            case k4 => k_is
            case k5 => k_is
            case k6 => k_is
            case k7 => k_is
            case k8 => k_is
            case k9 => k_is
            intro _
            k_steps
            exact setB_of (by assumption) (by assumption) (fun _ hq => hq) (hT kn).symm
          · k_steps
            unfold Halt
            refine' kia_one (kitx_own ?k4 ?k5 ?k6 ?k7 ?k8 ?k9) ?X ?I ?ee ?nb ?_
            case I => exact InstAt.of_news (by k_asm) (inl8 hx1) (inl8 hx2)
            case X => k_in
            case ee => kit_is
            case nb => kit_nb
            case k4 => k_is
            case k5 => k_is
            case k6 => k_is
            case k7 => k_is
            case k8 => k_is
            case k9 => k_is
            intro _
            k_steps
            exact setB_of (by assumption) (by assumption) (fun _ hq => hq) (hT kn).symm
        case restB =>
          generalize hBt : isT rr.k kn = bT
          clear FA NA
          intro hB tkB FB NB
          k_steps
          unfold Halt
          refine cut_skip FB NB ?cutC ?restC
          case cutC =>
            rcases hvv.form2 with ⟨t, rfl, hD⟩ | ⟨x, o, kvs, rfl, hx1, hx2, hD⟩ | ⟨x, dd, od, rfl, hx1, hx2, hD⟩ | ⟨x, dd, od, rfl, hx1, hx2, hD⟩
            · k_steps
              exact skip_of (by assumption) (by assumption) (fun _ hq => hq)
            · k_steps
              unfold Halt
              refine' kia_one kitx_dict ?X ?c ?ee ?nb ?_
              case c => exact kitAt_N (by k_asm) (inl8 hx1) (isDict_cls hx2)
              case X => k_in
              case ee => kit_is
              case nb => kit_nb
              intro _
              k_steps
              unfold Halt
              refine' pure1_use (is_type' ?V hSh hTb8 hvv hD hBt) ?B ?F ?X ?N ?T ?K ?dp ?un ?_
              case B => k_asm
              case F => k_asm
              case X => k_asm
              case N => k_asm
              case T => k_asm
              case K => exact rfl
              case V => exact fun q h => inl8 h
              case dp => ktr_room
              case un => ktr_units
              intro rE tlrE hrE tkrE hRrE hArE FrE NrE
              simp only [List.cons_append, List.append_assoc] at NrE
              try dsimp only
              try k_fold
              obtain ⟨eE1, eE2⟩ := hRrE
              subst eE1
              subst eE2
              simp only [List.append_nil] at NrE
              cases bT
              all_goals
                k_steps
                exact skip_of (by assumption) (by assumption) (fun _ hq => hq)
            · k_steps
              unfold Halt
              refine' kia_one (kitx_own ?k4 ?k5 ?k6 ?k7 ?k8 ?k9) ?X ?I ?ee ?nb ?_
              case I => exact InstAt.of_news (by k_asm) (inl8 hx1) (inl8 hx2)
              case X => k_in
              case ee => kit_is
              case nb => kit_nb
              case k4 => k_is
              case k5 => k_is
              case k6 => k_is
              case k7 => k_is
              case k8 => k_is
              case k9 => k_is
              intro _
              k_steps
              exact skip_of (by assumption) (by assumption) (fun _ hq => hq)
            · k_steps
              unfold Halt
              refine' kia_one (kitx_own ?k4 ?k5 ?k6 ?k7 ?k8 ?k9) ?X ?I ?ee ?nb ?_
              case I => exact InstAt.of_news (by k_asm) (inl8 hx1) (inl8 hx2)
              case X => k_in
              case ee => kit_is
              case nb => kit_nb
              case k4 => k_is
              case k5 => k_is
              case k6 => k_is
              case k7 => k_is
              case k8 => k_is
              case k9 => k_is
              intro _
              k_steps
              exact skip_of (by assumption) (by assumption) (fun _ hq => hq)
          case restC =>
            clear FB NB
            intro hC tkC FC NC
            k_steps
            unfold Halt
            refine wpAny_If ?_
            have hmo := main_off hI2 htl
            cases hbA : bA
            · subst hbA
              k_steps
              refine' unrEnd2 (by assumption) (by assumption) hmo.1 hmo.2 ⟨⟨.head _, trivial⟩, main_end (map_turn (by decide) (by decide) (by decide) (by decide) (by decide) (by decide) (by decide)) hdv (due_no hr hdue (.inl hAc)) htl⟩
            · cases hbT : bT
              · subst hbA
                subst hbT
                k_steps
                refine' unrEnd2 (by assumption) (by assumption) hmo.1 hmo.2 ⟨⟨.head _, trivial⟩, main_end (map_turn (by decide) (by decide) (by decide) (by decide) (by decide) (by decide) (by decide)) hdv (due_no hr hdue (.inr hBt)) htl⟩
              · subst hbA
                subst hbT
                have hoD := fun T o hT => due_off (T := T) (oT := o) NC hT htl
                k_steps
                rename News _ _ _ (_ :: (_, _) :: (I, _) :: _) => N18
                have hmD := fun T o hT => main_off hI2 (hoD T o hT)
                refine' unrEnd2 (by assumption) (due_news N18) (hmD _ _ rfl).1 (hmD _ _ rfl).2 ⟨⟨.head _, trivial⟩, main_end ((map_put (map_turn (by decide) (by decide) (by decide) (by decide) (by decide) (by decide) (by decide))).trans map_put2) (.some (List.mem_append_right _ (.head _))) (due_yes hr hdue hAc hBt) (hoD _ _ rfl)⟩
    case done =>
      rintro m l ⟨i, u1, u2, u3, u4, u5, u6, u7, dv, tl, d, e1, rfl, rfl, hdv, hdue, htl⟩ h tk F5 N5
      have hn := enum_nil e1
      rw [hrl] at hn
      have hdd := due_done hn hdue
      clear hn e1 hdue htl hI2 F15 N16
      simp only [List.cons_append, List.nil_append] at N5
      rename Fr _ _ _ _ => FZ9
      rename News _ _ _ _ => NZ9
      revert rs hok hrs8 kn yp kvsT gone hT2s hkeys hd9s hSh hTb8 hT2m8 hPm8 hpcs8 d hdv hdd FZ9 NZ9
      repeat (rename _ => zz9; revert zz9)
      exact Hide.out
end Mine
end

/-! S12 -/
section
open PySem PySem.W PyProof.Rows
set_option maxRecDepth 100000
set_option maxHeartbeats 8000000
namespace Mine
theorem fill_frag21 : PySem.Challenge.rw_og0166_01 = PySem.Challenge.rw_og0166_01 ∧ hd.heap_1 = hd.heap_1 := by
  w_top off
  k_fill
  exact ⟨rfl, rfl⟩
local macro_rules | `(tactic| k_all) => `(tactic| (refine ne_of_below (by assumption) ?_; omega))
local macro_rules | `(tactic| k_all) => `(tactic| with_reducible assumption)
local macro_rules | `(tactic| k_ne) => `(tactic| with_reducible assumption)
local macro_rules | `(tactic| k_mem) => `(tactic| first | assumption | exact List.Mem.head _ | (refine' List.Mem.tail _ ?_; k_mem) | (refine List.mem_append_left _ ?_; k_mem) | (refine List.mem_append_right _ ?_; k_mem))
local macro_rules | `(tactic| walk_at "call ref") => `(tactic| (k_here; (with_reducible show wpAny _ _ (call (Value.ref 402) [_, _]) _ _ _); refine Halt.out ?_))
local macro_rules | `(tactic| walk_at "compareOp Eq ref ref") => `(tactic| (k_here; refine Halt.out ?_))
theorem in8 {c1 c2 c3 q : Addr × Obj} {fz tl : Led} (h : q ∈ fz) : q ∈ c1 :: c2 :: c3 :: (fz ++ tl) := .tail _ (.tail _ (.tail _ (List.mem_append_left _ h)))
theorem fd_news {h₀ h : Heap} {L : Addr} {a b c : Addr × Obj} {c1 c2 c3 : Addr × Obj} {fz tl r : Led} (ha : a ∈ r) (hb : b ∈ r) (hc : c ∈ tl) (N : News h₀ L h (c1 :: c2 :: c3 :: (fz ++ (tl ++ r)))) : News h₀ L h (a :: b :: c :: c1 :: c2 :: c3 :: fz) := news_sub' N fun q hq => by
  simp only [List.mem_cons, List.mem_append] at hq ⊢
  grind
theorem s12 : st11.1 := by
  intro zzf
  set_option tactic.hygienic false in intros
  have hres := fun v => (cat_due (inT := fun k => (valueAt (PySem.stored (merged [] (less kvsT gone)) 9 v) k).isSome) (kn := kn) (inT_table (gone := gone) (v := v) hkeys hok)).trans hdd.symm
  k_steps
  unfold Halt
  refine' pure1_use (last_spec (ps := yp) (n := yp.length) (rs := rs) ?P ?A (Nat.le_of_lt hrs8) ?S ?Tb ?t1 hd9s hT2s) ?B ?F ?X ?N ?T ?K ?dp ?un ?_
  case B => k_asm
  case F => k_asm
  case X => k_asm
  case N => k_asm
  case T => k_asm
  case K => exact rfl
  case P => exact in8 hPm8
  case A => exact hpcs8.mono fun _ _ h => h.mono fun q hq => in8 hq
  case S => exact hSh.mono fun q hq => in8 hq
  case Tb => exact hTb8.mono fun q hq => in8 hq
  case t1 => exact in8 hT2m8
  case dp => ktr_room
  case un => ktr_units
  intro rL tlrL hrL tkrL hRrL hArL FrL NrL
  simp only [List.cons_append, List.append_assoc] at NrL
  try dsimp only
  try k_fold
  rw [hres] at hRrL
  clear hres hdd
  cases d with
  | none =>
    obtain rfl := hRrL
    cases hdv
    k_steps
  | some rr =>
    obtain ⟨aF, rfl, hRF⟩ := hRrL
    obtain ⟨dF, tF1, tF2, tF3, tF4, hF1, hF2⟩ := hRF.ex
    cases hdv with
    | some hdm =>
    have NF := fd_news hF1 hF2 hdm NrL
    clear NrL
    k_steps
    unfold Halt
    rename News _ _ _ (_ :: (aF, _) :: _) => NZ
    refine' eq_dats (d := .tuple [.int rr.num, .int rr.gen]) (e := .tuple [.int rr.num, .int rr.gen]) (c := true) NZ (.tuple (.head _) (.cons (.int _ _) (.cons (.int _ _) .nil))) (fun _ h => h) (.tuple (.tail _ (.tail _ (.tail _ (.head _)))) (.cons (.int _ _) (.cons (.int _ _) .nil))) (fun _ h => h) rfl rfl (Nat.le_of_ble_eq_true rfl) (by simp [kqdP, kqdPs, PyData.eqv, PyData.eqvAll]) ?_
    k_steps
end Mine
end

theorem Mine.all_of {Q : Prop} (s : {P : Prop // Mine.Hide P → Q}) (h : s.1) : Q := s.2 ⟨h⟩
theorem PySem.Challenge.cw_og0166_01_holds : PySem.Challenge.rw_og0166_01.Holds :=
  Mine.all_of Mine.st1 (Mine.all_of Mine.st2 (Mine.all_of Mine.st3 (Mine.all_of Mine.st9 (Mine.all_of Mine.st10 (Mine.all_of Mine.st11 Mine.s12)))))
