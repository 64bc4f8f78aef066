import PyProof.Rows.All
import Wide.All
import OpenK.AllK
import Wide.FinOn
import PySem.Challenge.RW_xm0937_01
open PySem PySem.W PySem.Calls PyProof.Rows
set_option Elab.async false
set_option maxRecDepth 100000
set_option maxHeartbeats 80000000
set_option rowWalk.seconds 3000
namespace Mine
def viewQ : PySem.Program := view PySem.Challenge.pw_xm0937_01 [1, 2, 3, 4, 5, 6, 7, 8, 9, 10, 11, 12, 14, 15, 16, 18, 19, 20, 21, 23, 24, 25, 26, 27, 28, 29, 30, 31, 32, 33, 34, 35, 36, 37, 38, 39, 40, 42, 43, 44, 45, 46, 47, 48, 49, 50, 52, 54, 55, 57, 58, 59, 60]
abbrev looseQ : List PySem.Str := [PySem.Str.ofString "SnobolError", PySem.Str.ofString "plain_count"]
theorem left_boot {p q : PySem.Program} {loose : List PySem.Str} {Xt : Shared → Bool} {α : Type} {Yf : Shared → α} {Ya : World → α} {N : Nat} {g0 : Bool}
    (open_ : ∀ w : World, (fencedOpening treeTable p w N).map (fun s => (s.heap, s.gens, s.drawn, s.toks)) = some (boot_heap w.params, Array.mk [], boot_drawn, boot_toks))
    (h : ∀ w : World, (fun os => (topFrom treeTable p w N ⟨boot_heap w.params, Array.mk [], boot_drawn, boot_toks, os⟩).map (fun s => (openSeen q loose (importedModules p.main.body) Xt g0 s, Yf s))) = fun _ => some (openGood q loose, Ya w)) : LeftO p q loose Xt Yf Ya N g0 := fun w => by
  obtain ⟨⟨h', gs, d, k, os⟩, e, e'⟩ := Option.map_eq_some_iff.mp (open_ w)
  obtain ⟨rfl, rfl, rfl, rfl⟩ : h' = boot_heap w.params ∧ gs = Array.mk [] ∧ d = boot_drawn ∧ k = boot_toks := by simpa using e'
  unfold openEnds
  rw [e]
  exact congrFun (h w) os
def runT (stp : SharedT → Thread → Option (SharedT × Thread)) (ok : Thread → Bool) : Nat → SharedT → Thread → Option SharedT
  | 0, _, _ => none
  | n + 1, s, t => match through t with
    | true => some s
    | false => match ok t with
      | false => none
      | true => match stp s t with
        | some (s', t') => runT stp ok n s' t'
        | none => none
theorem runT_of {tb : String → Option Builtin} {p : PySem.Program} {w : World} {n₀ : Nat} {ann : Option Value} : ∀ {n : Nat} {s s' : SharedT} {t : Thread}, runT (stepT (denote tb) p w) (stepOk n₀ ann) n s t = some s' → topRun tb p w n₀ ann n s.abs t = some s'.abs
  | 0, _, _, _, h => by cases h
  | n + 1, s, s', t, h => by
    unfold runT at h
    unfold topRun
    cases he : through t with
    | true => rw [he] at h; cases h; rfl
    | false =>
      rw [he] at h
      cases hk : stepOk n₀ ann t with
      | false => rw [hk] at h; cases h
      | true =>
        rw [hk] at h
        cases hs : stepT (denote tb) p w s t with
        | none => rw [hs] at h; cases h
        | some r => obtain ⟨s₂, t₂⟩ := r; rw [hs] at h; rw [stepT_spec hs]; exact runT_of h
noncomputable def bootT (P : Params) : BT := ((boot_heap P).objs.toList.foldl (fun (x : BT × Nat) o => (x.1.ins x.2 o, x.2 + 1)) (BT.nil, 0)).1
noncomputable abbrev bootS (P : Params) (os : OsState) : SharedT := ⟨bootT P, 11, (boot_heap P).life, Array.mk [], boot_drawn, boot_toks, os⟩
theorem boot_abs (P : Params) : absHeap (bootT P) 11 (boot_heap P).life = boot_heap P := by kernel_rfl
theorem boot_size (P : Params) : ((boot_heap P).isNs mainGlobals && (Array.mk [] : Array GenState).size == 0, (boot_heap P).objs.size, (boot_heap P).nsMap mainGlobals "__annotations__") = (true, 11, some (Value.ref 6)) := by kernel_rfl
noncomputable def partA (p : PySem.Program) (w : World) (s : Shared) : Bool := staticsOk (importedModules p.main.body) (boot_heap w.params) s.heap && namesBound p s.heap && gensDone s && laidKept (boot_heap w.params) s.heap
noncomputable def partB (q : PySem.Program) (loose mods : List PySem.Str) (Xt : Shared → Bool) (s : Shared) :=
  ((openSeen q loose mods Xt true s).1, (openSeen q loose mods Xt true s).2.1, (openSeen q loose mods Xt true s).2.2.1)
noncomputable def partC (q : PySem.Program) (loose mods : List PySem.Str) (Xt : Shared → Bool) (s : Shared) := (openSeen q loose mods Xt true s).2.2.2
theorem left_T {p q : PySem.Program} {loose : List PySem.Str} {Xt : Shared → Bool} {α : Type} {Yf : Shared → α} {Ya : World → α} {N : Nat}
    (open_ : ∀ w : World, (fencedOpening treeTable p w N).map (fun s => (s.heap, s.gens, s.drawn, s.toks)) = some (boot_heap w.params, Array.mk [], boot_drawn, boot_toks))
    (hB : ∀ w : World, (fun os => (runT (stepT (denote treeTable) p w) (stepOk 11 (some (Value.ref 6))) N (bootS w.params os) (topStub p)).map (fun s => partB q loose (importedModules p.main.body) Xt s.abs)) = fun _ => some ((openGood q loose).1, (openGood q loose).2.1, (openGood q loose).2.2.1))
    (hC : ∀ w : World, (fun os => (runT (stepT (denote treeTable) p w) (stepOk 11 (some (Value.ref 6))) N (bootS w.params os) (topStub p)).map (fun s => partC q loose (importedModules p.main.body) Xt s.abs)) = fun _ => some (openGood q loose).2.2.2)
    (hA : ∀ w : World, (fun os => (runT (stepT (denote treeTable) p w) (stepOk 11 (some (Value.ref 6))) N (bootS w.params os) (topStub p)).map (fun s => (partA p w s.abs, Yf s.abs))) = fun _ => some (true, Ya w)) : LeftO p q loose Xt Yf Ya N true := fun w => by
  refine left_boot open_ (fun w => ?_) w
  funext os
  obtain ⟨s, hr, hs⟩ := Option.map_eq_some_iff.mp (congrFun (hA w) os)
  have eB := congrFun (hB w) os
  have eC := congrFun (hC w) os
  rw [hr] at eB eC
  obtain ⟨l1, l3⟩ := Prod.mk.inj hs
  have eC' := Option.some.inj eC
  obtain ⟨b1, b23⟩ := Prod.mk.inj (Option.some.inj eB)
  obtain ⟨b2, b3⟩ := Prod.mk.inj b23
  obtain ⟨z1, z2, z3⟩ : _ ∧ _ ∧ _ := by simpa only [Prod.mk.injEq] using boot_size w.params
  have r := runT_of hr
  have eb : (bootS w.params os).abs = ⟨boot_heap w.params, Array.mk [], boot_drawn, boot_toks, os⟩ := by
    show Shared.mk (absHeap (bootT w.params) 11 (boot_heap w.params).life) _ _ _ _ = _
    rw [boot_abs]
  rw [eb] at r
  have t : topFrom treeTable p w N ⟨boot_heap w.params, Array.mk [], boot_drawn, boot_toks, os⟩ = some s.abs := by
    unfold topFrom
    dsimp only
    rw [z1, z2, z3, r]
    unfold partA at l1
    simp only [Option.bind, l1]
  rw [t]
  exact congrArg some (Prod.ext (Prod.ext b1 (Prod.ext b2 (Prod.ext b3 eC'))) l3)
theorem openQ : ∀ w : World, (fencedOpening treeTable PySem.Challenge.rw_xm0937_01.row.prog w 5920).map (fun s => (s.heap, s.gens, s.drawn, s.toks)) = some (boot_heap w.params, Array.mk [], boot_drawn, boot_toks) :=
  boot_open (by kernel_rfl) (by kernel_rfl) (fun s => by kernel_rfl)
theorem saidQ : PySem.Challenge.rw_xm0937_01.wellSaid = true := by
  delta OpenLaw.wellSaid
  rw [PySem.W.Fast.te17960256430627541270, PySem.W.Fast.te8326940854005059898, PySem.W.Fast.te17119622794617984870, PySem.W.Fast.te10792542408131684335, PySem.W.Fast.te9558739934217749035, PySem.W.Fast.te16286561074155671207, PySem.W.Fast.te6984425678791042302, PySem.W.Fast.te8179353310426384613, PySem.W.Fast.te10501279942588096481, PySem.W.Fast.te2368527892694137696, PySem.W.Fast.te797321630700447069, PySem.W.Fast.te9572597257264208301, PySem.W.Fast.named_eq, PySem.W.Fast.te12879404354523853263, PySem.W.Fast.te482687673346738481, PySem.W.Fast.te3471404346716756564, PySem.W.Fast.te7723801398212525404, PySem.W.Fast.te17095254045102204799, PySem.W.R.allR_eq, PySem.W.Fast.sDec_eq]
  kernel_rfl
abbrev XtQ : Shared → Bool := fun s => xlAt viewQ [] s && recOk (RowW.records PySem.Challenge.rw_xm0937_01.row.toRowW) s
theorem topB : ∀ w : World, (fun os => (runT (stepT (denote treeTable) PySem.Challenge.rw_xm0937_01.row.prog w) (stepOk 11 (some (Value.ref 6))) 5920 (bootS w.params os) (topStub PySem.Challenge.rw_xm0937_01.row.prog)).map (fun s => partB viewQ looseQ (importedModules PySem.Challenge.rw_xm0937_01.row.prog.main.body) XtQ s.abs)) = fun _ => some ((openGood viewQ looseQ).1, (openGood viewQ looseQ).2.1, (openGood viewQ looseQ).2.2.1) := by
  intro w
  delta partB openSeen openGood expectedOf
  rw [PySem.W.Fast.te10156331382660048174, PySem.W.Fast.te11892475500146522536, PySem.W.Fast.te14364793385576792824, PySem.W.Fast.te6613529449190102663, PySem.W.Fast.te5160383126252970620, PySem.W.Fast.te3399658132070893891, PySem.W.Fast.te5991557255702980513, PySem.W.Fast.te10880121769531294198, PySem.W.Fast.te821141287760084731, PySem.W.Fast.te7409074990110511671, PySem.W.Fast.te13664370479719496447, PySem.W.Fast.te14722251495701143533, PySem.W.Fast.te10994771534591457954, PySem.W.Fast.te5923862056798008813, PySem.W.R.mapR_eq]
  dsimp only
  kernel_rfl
theorem topC : ∀ w : World, (fun os => (runT (stepT (denote treeTable) PySem.Challenge.rw_xm0937_01.row.prog w) (stepOk 11 (some (Value.ref 6))) 5920 (bootS w.params os) (topStub PySem.Challenge.rw_xm0937_01.row.prog)).map (fun s => partC viewQ looseQ (importedModules PySem.Challenge.rw_xm0937_01.row.prog.main.body) XtQ s.abs)) = fun _ => some (openGood viewQ looseQ).2.2.2 := by
  intro w
  delta partC openSeen openGood pinGoodD plainGoodE plainGoodD wideGood clsGoodW
  rw [PySem.W.Fast.te10156331382660048174, PySem.W.Fast.te11892475500146522536, PySem.W.Fast.te14364793385576792824, PySem.W.Fast.te6613529449190102663, PySem.W.Fast.te479339242167458305, PySem.W.Fast.te16090120013241838585, PySem.W.Fast.te2386780881361962483, PySem.W.Fast.te11698064438423848299, PySem.W.Fast.te7317090234206586261, PySem.W.Fast.te7369524293546568484, PySem.W.Fast.te3247288618530077131, PySem.W.Fast.te821141287760084731, PySem.W.Fast.te12515865711710729776, PySem.W.Fast.te210736558901404530, PySem.W.Fast.te4354255287344443571, PySem.W.Fast.te694669760492028198, PySem.W.Fast.te1571739515156823405, PySem.W.R.mapR_eq]
  dsimp only
  kernel_rfl
section
local macro_rules | `(tactic| o_law) => `(tactic| refine holds_law saidQ fun said => ?_)
local macro_rules | `(tactic| o_head $H) => `(tactic| ((refine holds_open (q := viewQ) (loose := looseQ) (Xt := fun s => xlAt viewQ [] s && recOk (RowW.records PySem.Challenge.rw_xm0937_01.row.toRowW) s) (XP := XL viewQ []) (Yf := Hook.obs $H) (Ya := Hook.val $H) (YP := Hook.says $H) (N := 5920) ?hl (Hook.of $H) (Hook.keeps $H) (fun s e => xl_of s (Bool.and_eq_true_iff.mp e).1) XL.keeps (by rfl) (by rfl) (by rfl) (fun s e => recFacts_of (Bool.and_eq_true_iff.mp e).2) (by rfl) (by first | assumption | decide +kernel) (by decide +kernel) ⟨rfl, rfl, rfl, rfl, rfl, by decide +kernel⟩ ?hw ?hc); (case hl => ((refine left_T openQ topB topC fun w => ?_); (delta partA staticsOk namesBound laidKept); (rw [PySem.W.Fast.te10156331382660048174, PySem.W.Fast.te11892475500146522536, PySem.W.Fast.te14364793385576792824, PySem.W.Fast.te6613529449190102663, PySem.W.Fast.te5923862056798008813, PySem.W.Fast.te15056007747304108558, PySem.W.Fast.te4857012375875476094, PySem.W.Fast.te1584917186373303978, PySem.W.Fast.te3471404346716756564, PySem.W.Fast.te14846217769314788766, PySem.W.Fast.te8920871248978507458, PySem.W.Fast.te7966671052430208091, PySem.W.Fast.te12749700546528644094, PySem.W.Fast.te18344453789297297638, PySem.W.R.allR_eq, PySem.W.R.anyR_eq, PySem.W.Fast.sDec_eq]); kernel_rfl))))
open_top hd for PySem.Challenge.rw_xm0937_01
end
theorem fillZ : PySem.Challenge.rw_xm0937_01 = PySem.Challenge.rw_xm0937_01 ∧ hd.heap_1 = hd.heap_1 := by
  k_fill
  exact ⟨rfl, rfl⟩
section
open PyProof.V PySem.Spec
def agL (cut many : Int) : Int := if cut - many > 0 then cut - many else 0
def agH (n cut many : Int) : Int := if n - many < cut then n - many else cut
def agF (word : PySem.Str) (cut many : Int) : Bool :=
  if agH word.length cut many ≤ agL cut many then true else
    Txt.slice word (some (agL cut many + many)) (some (agL cut many + many + (Txt.slice word (some (agL cut many)) (some (agL cut many + (agH word.length cut many - agL cut many)))).length)) == Txt.slice word (some (agL cut many)) (some (agL cut many + (agH word.length cut many - agL cut many)))
def lwGo (word : PySem.Str) (cut : Int) : Nat → Int → Int
  | 0, n => n
  | k + 1, n => if agF word cut n then n else lwGo word cut k (n + 1)
def lwF (word : PySem.Str) (cut : Int) : Int := lwGo word cut word.length 1
def lwP (word : PySem.Str) (cut n : Int) : Prop := 1 ≤ n ∧ n ≤ word.length ∧ ∀ j, 1 ≤ j → j < n → agF word cut j = false
def lwM (word : PySem.Str) (n : Int) : Nat := (word.length - n).toNat
def otGo (a b : PySem.Str) : Nat → Int → Int
  | 0, _ => if (a.length : Int) = b.length then 0 else if (a.length : Int) < b.length then -1 else 1
  | n + 1, k => if (Txt.item a k != Txt.item b k) = true then (if ((Txt.item a k).cps.getD 0 0 : Int) < ((Txt.item b k).cps.getD 0 0 : Int) then -1 else 1) else otGo a b n (k + 1)
def otN (a b : PySem.Str) : Nat := ((if (b.length : Int) < a.length then (b.length : Int) else a.length) - 0).toNat
def otF (a b : PySem.Str) : Int := otGo a b (otN a b) 0
def otP (a b : PySem.Str) (pre : List Int) : Prop := ∀ i : Nat, i < pre.length → (Txt.item a (i : Int) != Txt.item b (i : Int)) = false
def grStep (a : PySem.Str) (best k : Int) : Int := if otF (Txt.slice a (some k) none) (Txt.slice a (some best) none) > 0 then k else best
def grF (a : PySem.Str) : Int := (rangeKs 1 ((a.length : Int) - 1).toNat).foldl (grStep a) 0
def grP (a : PySem.Str) (pre : List Int) (n : Int) : Prop := 0 ≤ n ∧ n ≤ a.length ∧ pre.foldl (grStep a) 0 = n
def rsC (k : PySem.Str) : PySem.Str :=
  if PySem.Spec.same (.str (PySem.Str.ofString "a")) (.str k) then PySem.Str.ofString "c" else if PySem.Spec.same (.str (PySem.Str.ofString "b")) (.str k) then PySem.Str.ofString "b" else if PySem.Spec.same (.str (PySem.Str.ofString "c")) (.str k) then PySem.Str.ofString "a" else k
def rsF (a : PySem.Str) : PySem.Str := Txt.join (PySem.Str.ofString "") ((signs a).map rsC)
def wordG (c1 : Int) (k : Int) : PySem.Str := Txt.item (PySem.Str.ofString "abc") ((c1.fdiv (3 ^ k.toNat)).fmod 3)
def AbcWord (W : PySem.Str) : Prop := ∃ (c1 : Int) (n : Nat), 2 ≤ n ∧ n ≤ 6 ∧ W = Txt.join (PySem.Str.ofString "") ((rangeKs 0 n).map (wordG c1))
def perB (W : PySem.Str) (p : Int) : Bool := (Txt.slice W (some p) none != Txt.slice W none (some (W.length - p)))
def prP (W : PySem.Str) (p : Int) : Prop := 1 ≤ p ∧ p ≤ W.length ∧ ∀ j, 1 ≤ j → j < p → perB W j = true
def prM (W : PySem.Str) (p : Int) : Nat := (W.length - p).toNat
def cutF (W : PySem.Str) : Int := if grF (rsF W) > grF W then grF (rsF W) else grF W
end
abbrev Ret (h₀ : Heap) (L : Addr) (m : PySem.Str → Option Value) (news : List (Addr × Obj)) (s : Shared) (Q : Value → Shared → Prop) (v : Tok → Value) : Prop :=
  ∀ (t : Tok) (h' : Heap) (tk' : Nat), Fr h₀ L h' m → News h₀ L h' news → Q (v t) { s with heap := h', toks := tk' }
abbrev Claim (prog p : PySem.Program) (loose : List PySem.Str) (w : World) (mean : ExcName → Option Value) (mg mb : PySem.Str → Option Value) (news : List (Addr × Obj)) (f : Addr) (vs : List Value) (R : Tok → Value) : Prop :=
  ∀ (dp un : Nat) (gd : Option (List Code)) (cn : PySem.Str) (cs : Scope) (a : Addr) (ccd : Value) (cl : List (PySem.Str × Addr)) (outer : List Env) (A₀ : Around) (base h₀ : Heap) (L : Addr) (m : PySem.Str → Option Value) (s : Shared) (Q E : Value → Shared → Prop),
    Below A₀ base outer h₀ → Fr h₀ L s.heap m → (hd.heap_1 w.params).In h₀ → News h₀ L s.heap news → Top p loose mean mg mb h₀ → cs.kind = .function →
    dp + 40 < recursionLimit → un + 100 < cLine → Ret h₀ L m news s Q R →
      wpAny (model prog w) (ktrTop dp un gd cn cs L a ccd cl outer) (call (.ref f) vs) Q E s

theorem eq_tup_str {prog : PySem.Program} {w : World} {A : Around} {E : Value → Shared → Prop} {s : Shared} {l : Addr} {items : Array Value} {b : PySem.Str} {u : Tok} {Q : Value → Shared → Prop}
    (hl : IsTup s.heap l items) (hu : A.units < cLine) (h : Q (.bool false) s) :
    wpAny (model prog w) A (compareOp .Eq (.ref l) (.str b u)) Q E s :=
  cmp_ofEq (PySem.SeqAt.RcAt.tuple_str b u hl hu prog w E Q h)
def InL (news : List (Addr × Obj)) (c : Addr) (o : Obj) : Prop := (c, o) ∈ news
theorem InL.out {news : List (Addr × Obj)} {c : Addr} {o : Obj} (h : InL news c o) : List.Mem (c, o) news := h
theorem InL.mk {news : List (Addr × Obj)} {c : Addr} {o : Obj} (h : (c, o) ∈ news) : InL news c o := h
theorem callWith_K0F {M : Model} {A : Around} {E : Value → Shared → Prop} {s : Shared} {K : Frag} {f : Value} {first : List Value} {env : Env} {pos : Pos} {Q : Value → Shared → Prop} {h₀ : Heap} {L : Addr} {m : PySem.Str → Option Value}
    (F : Fr h₀ L s.heap m) (X : K.In h₀) (hk : keepIn K f = true) (h : wpAny M A (call f (first ++ [])) Q E s) : wpAny M A (callWith pos f first (backTo pos (starEach [] env)) []) Q E s :=
  callWith_K0 (X.keeps F.keep) hk h
abbrev tup (xs : List Value) : Obj := { cls := .type "tuple", data := .seq xs.toArray }
abbrev St (x : String) (t : Tok) : Value := .str (PySem.Str.ofString x) t
abbrev ClaimX (prog p : PySem.Program) (loose : List PySem.Str) (w : World) (mean : ExcName → Option Value) (mg mb : PySem.Str → Option Value) (news : List (Addr × Obj)) (f : Addr) (vs : List Value) (R : List (Addr × Obj) → Value → Prop) : Prop :=
  ∀ (dp un : Nat) (gd : Option (List Code)) (cn : PySem.Str) (cs : Scope) (a : Addr) (ccd : Value) (cl : List (PySem.Str × Addr)) (outer : List Env) (A₀ : Around) (base h₀ : Heap) (L : Addr) (m : PySem.Str → Option Value) (s : Shared) (Q E : Value → Shared → Prop),
    Below A₀ base outer h₀ → Fr h₀ L s.heap m → (hd.heap_1 w.params).In h₀ → News h₀ L s.heap news → Top p loose mean mg mb h₀ → cs.kind = .function →
    dp + 20 < recursionLimit → un + 60 < cLine → (∀ (v : Value) (nw : List (Addr × Obj)) (h' : Heap) (tk' : Nat), R nw v → Fr h₀ L h' m → News h₀ L h' nw → Q v { s with heap := h', toks := tk' }) →
      wpAny (model prog w) (ktrTop dp un gd cn cs L a ccd cl outer) (call (.ref f) vs) Q E s
abbrev One (news : List (Addr × Obj)) (X : List Value → Prop) (nw : List (Addr × Obj)) (v : Value) : Prop :=
  ∃ (z : Addr) (xs : List Value), nw = (z, tup xs) :: news ∧ v = .ref z ∧ AllLt z news ∧ X xs
theorem ClaimX.use {prog p : PySem.Program} {loose : List PySem.Str} {w : World} {mean : ExcName → Option Value} {mg mb : PySem.Str → Option Value} {news : List (Addr × Obj)} {f : Addr} {vs : List Value} {R : List (Addr × Obj) → Value → Prop} (C : ClaimX prog p loose w mean mg mb news f vs R)
  {dp un : Nat} {gd : Option (List Code)} {cn : PySem.Str} {cs : Scope} {a : Addr} {ccd : Value} {cl : List (PySem.Str × Addr)} {outer : List Env} {A₀ : Around} {base h₀ : Heap} {L : Addr} {m : PySem.Str → Option Value} {s : Shared} {Q E : Value → Shared → Prop}
  (B : Below A₀ base outer h₀) (F : Fr h₀ L s.heap m) (X : (hd.heap_1 w.params).In h₀) (N : News h₀ L s.heap news) (T : Top p loose mean mg mb h₀) (hk : cs.kind = .function)
  (hdp : dp + 20 < recursionLimit) (hun : un + 60 < cLine) (hret : ∀ (v : Value) (nw : List (Addr × Obj)) (h' : Heap) (tk' : Nat), R nw v → Fr h₀ L h' m → News h₀ L h' nw → Q v { s with heap := h', toks := tk' }) :
  wpAny (model prog w) (ktrTop dp un gd cn cs L a ccd cl outer) (call (.ref f) vs) Q E s := C _ _ _ _ _ _ _ _ _ _ _ _ _ _ _ _ _ B F X N T hk hdp hun hret
def Srt (as : List Addr) (base : List (Addr × Obj)) : Prop := List.Pairwise (fun a b : Nat => b < a) as ∧ ∀ a ∈ as, ∀ p ∈ base, @LT.lt Nat _ p.1 a
theorem Srt.nil {base : List (Addr × Obj)} : Srt [] base := ⟨List.Pairwise.nil, fun _ h => nomatch h⟩
theorem Srt.push {as : List Addr} {base l : List (Addr × Obj)} {D : Addr} (h : ∀ p ∈ l, @LT.lt Nat _ p.1 D) (S : Srt as base) (e : l.map (·.1) = as ++ base.map (·.1)) : Srt (D :: as) base := by
  have hm : ∀ a ∈ as ++ base.map (·.1), @LT.lt Nat _ a D := by
    intro a ha
    rw [← e] at ha
    obtain ⟨p, hp, rfl⟩ := List.mem_map.mp ha
    exact h p hp
  refine ⟨List.Pairwise.cons (fun b hb => hm b (List.mem_append.mpr (.inl hb))) S.1, fun a ha p hp => ?_⟩
  rcases List.mem_cons.mp ha with rfl | ha
  · exact hm _ (List.mem_append.mpr (.inr (List.mem_map.mpr ⟨p, hp, rfl⟩)))
  · exact S.2 a ha p hp
theorem Srt.push1 {as : List Addr} {base : List (Addr × Obj)} {D D' : Addr} (h : @LT.lt Nat _ D D') (S : Srt (D :: as) base) : Srt (D' :: D :: as) base := by
  obtain ⟨h1, h2⟩ := S
  rw [List.pairwise_cons] at h1
  refine ⟨List.Pairwise.cons (fun b hb => ?_) (List.Pairwise.cons h1.1 h1.2), fun a ha p hp => ?_⟩
  · rcases List.mem_cons.mp hb with rfl | hb
    · exact h
    · exact Nat.lt_trans (h1.1 b hb) h
  · rcases List.mem_cons.mp ha with rfl | ha
    · exact Nat.lt_trans (h2 D (List.mem_cons_self ..) p hp) h
    · exact h2 a ha p hp
inductive UpdP (d : Addr) (o o' : Obj) : List (Addr × Obj) → List (Addr × Obj) → Prop
  | head {r} : UpdP d o o' ((d, o) :: r) ((d, o') :: r)
  | tail {p r r'} : UpdP d o o' r r' → UpdP d o o' (p :: r) (p :: r')
inductive UpdQ (d : Addr) (o : Obj) : List (Addr × Obj) → (Obj → List (Addr × Obj)) → Prop
  | head {r} : UpdQ d o ((d, o) :: r) (fun o' => (d, o') :: r)
  | tail {p r g} : UpdQ d o r g → UpdQ d o (p :: r) (fun o' => p :: g o')
theorem Srt.count {as : List Addr} {base : List (Addr × Obj)} {d : Addr} (S : Srt as base) (hd : d ∈ as) : List.count (α := Nat) d (as ++ base.map (·.1)) = 1 := by
  rw [List.count_append]
  have h2 : List.count (α := Nat) d (base.map (·.1)) = 0 := by
    refine List.count_eq_zero.mpr fun h => ?_
    obtain ⟨p, hp, e⟩ := List.mem_map.mp h
    have := S.2 d hd p hp
    rw [e] at this
    exact Nat.lt_irrefl _ this
  have nd : List.Nodup (α := Nat) as := S.1.imp fun h => (Nat.ne_of_lt h).symm
  rw [h2, nd.count, if_pos hd]
theorem UpdP.upd {d : Addr} {o o' : Obj} : ∀ {l l' : List (Addr × Obj)}, UpdP d o o' l l' → List.count (α := Nat) d (l.map (·.1)) = 1 → Upd d o o' l l'
  | _, _, .head (r := r), h => by
    refine Upd.head fun p hp e => ?_
    rw [List.map_cons, List.count_cons_self] at h
    have h0 : List.count (α := Nat) d (r.map (·.1)) = 0 := Nat.succ.inj h
    exact List.count_eq_zero.mp h0 (List.mem_map.mpr ⟨p, hp, e⟩)
  | _, _, .tail (p := p) (r := r) u, h => by
    have hin : ∀ {l l' : List (Addr × Obj)}, UpdP d o o' l l' → d ∈ l.map (·.1) := by
      intro l l' u
      induction u with
      | head => exact List.mem_cons_self ..
      | tail _ ih => exact List.mem_cons_of_mem _ ih
    have hr : 0 < List.count (α := Nat) d (r.map (·.1)) := List.count_pos_iff.mpr (hin u)
    rw [List.map_cons, List.count_cons] at h
    have hne : p.1 ≠ d := by
      intro e
      rw [if_pos (by simpa using e)] at h
      omega
    refine Upd.tail hne (u.upd ?_)
    rw [if_neg (by simpa using hne)] at h
    simpa using h
theorem UpdQ.updF {d : Addr} {o : Obj} : ∀ {l : List (Addr × Obj)} {g : Obj → List (Addr × Obj)}, UpdQ d o l g → List.count (α := Nat) d (l.map (·.1)) = 1 → UpdF d o l g
  | _, _, .head (r := r), h => by
    refine UpdF.head fun p hp e => ?_
    rw [List.map_cons, List.count_cons_self] at h
    have h0 : List.count (α := Nat) d (r.map (·.1)) = 0 := Nat.succ.inj h
    exact List.count_eq_zero.mp h0 (List.mem_map.mpr ⟨p, hp, e⟩)
  | _, _, .tail (p := p) (r := r) u, h => by
    have hin : ∀ {l : List (Addr × Obj)} {g : Obj → List (Addr × Obj)}, UpdQ d o l g → d ∈ l.map (·.1) := by
      intro l g u
      induction u with
      | head => exact List.mem_cons_self ..
      | tail _ ih => exact List.mem_cons_of_mem _ ih
    have hr : 0 < List.count (α := Nat) d (r.map (·.1)) := List.count_pos_iff.mpr (hin u)
    rw [List.map_cons, List.count_cons] at h
    have hne : p.1 ≠ d := by
      intro e
      rw [if_pos (by simpa using e)] at h
      omega
    refine UpdF.tail hne (u.updF ?_)
    rw [if_neg (by simpa using hne)] at h
    simpa using h
theorem Srt.upd {as : List Addr} {base l l' : List (Addr × Obj)} {d : Addr} {o o' : Obj} (S : Srt as base) (e : l.map (·.1) = as ++ base.map (·.1)) (hd : d ∈ as) (u : UpdP d o o' l l') : Upd d o o' l l' :=
  u.upd (by rw [e]; exact S.count hd)
theorem Srt.updF {as : List Addr} {base l : List (Addr × Obj)} {d : Addr} {o : Obj} {g : Obj → List (Addr × Obj)} (S : Srt as base) (e : l.map (·.1) = as ++ base.map (·.1)) (hd : d ∈ as) (u : UpdQ d o l g) : UpdF d o l g :=
  u.updF (by rw [e]; exact S.count hd)
theorem UpdF.to {d : Addr} {o o' : Obj} {l : List (Addr × Obj)} {g : Obj → List (Addr × Obj)} : UpdF d o l g → Upd d o o' l (g o') := by
  intro u
  induction u with
  | head h => exact Upd.head h
  | tail h _ ih => exact Upd.tail h ih
abbrev ent (w : World) (x : String) (t : Tok) (v : Value) : DictEntry := ⟨PyData.keyHash w.params (PySem.Str.ofString x), .str (PySem.Str.ofString x) t, v⟩
abbrev hostD (w : World) (t1 t2 t3 t4 t5 t6 tl : Tok) (v1 v3 v4 v6 : Value) (k : Int) (tk : Tok) : Obj :=
  dictOf [ent w "values" t1 v1, ent w "limit" t2 (.int 9999 tl), ent w "refused" t3 v3, ent w "width" t4 v4, ent w "steps" t5 (.int k tk), ent w "log" t6 v6] 6
theorem mem_g1 {d : Addr} {o o' : Obj} {l : List (Addr × Obj)} {g : Obj → List (Addr × Obj)} (u : UpdF d o l g) : List.Mem (d, o') (g o') := by
  obtain ⟨pre, post, rfl, e, _, _⟩ := u.split
  rw [e]
  exact List.mem_append.mpr (.inr (List.mem_cons_self ..))
theorem mem_g2 {d c : Addr} {o o' oc : Obj} {l : List (Addr × Obj)} {g : Obj → List (Addr × Obj)} (u : UpdF d o l g) (h : InL l c oc) (hne : c ≠ d) : List.Mem (c, oc) (g o') := by
  obtain ⟨pre, post, rfl, e, _, _⟩ := u.split
  rw [e]
  rcases List.mem_append.mp h with q | q
  · exact List.mem_append.mpr (.inl q)
  · rcases List.mem_cons.mp q with q | q
    · exact absurd (Prod.mk.inj q).1 hne
    · exact List.mem_append.mpr (.inr (List.mem_cons_of_mem _ q))
def UpdF2 (d : Addr) (o : Obj) (g1 : Obj → List (Addr × Obj)) (g2 : Obj → Obj → List (Addr × Obj)) : Prop := ∀ o', UpdF d o (g1 o') (g2 o')
theorem UpdF2.at {d : Addr} {o o' : Obj} {g1 : Obj → List (Addr × Obj)} {g2 : Obj → Obj → List (Addr × Obj)} (u : UpdF2 d o g1 g2) : UpdF d o (g1 o') (g2 o') := u o'
theorem upd_tail2 {d D : Addr} {o o' oL t : Obj} {g1 : Obj → List (Addr × Obj)} {g2 : Obj → Obj → List (Addr × Obj)} (h : ∀ p ∈ g1 o', @LT.lt Nat _ p.1 D) (u : UpdF2 d o g1 g2) : Upd d o oL ((D, t) :: g1 o') ((D, t) :: g2 o' oL) := by
  refine Upd.tail ?_ (UpdF.to (u o'))
  obtain ⟨pre, post, e, _, _, _⟩ := (u o').split
  have hm : (d, o) ∈ g1 o' := by rw [e]; exact List.mem_append.mpr (.inr (List.mem_cons_self ..))
  exact (Nat.ne_of_lt (h _ hm)).symm
theorem mem_u2 {d : Addr} {o o' : Obj} {g1 : Obj → List (Addr × Obj)} {g2 : Obj → Obj → List (Addr × Obj)} (u : UpdF2 d o g1 g2) : List.Mem (d, o) (g1 o') := by
  obtain ⟨pre, post, e, _, _, _⟩ := (u o').split
  rw [e]
  exact List.mem_append.mpr (.inr (List.mem_cons_self ..))
def HoldsW (prog : PySem.Program) (w : World) (o : Obj) (D : List (PyData × PyData)) : Prop := ∃ kvs, o.IsDictOf (strKind prog w) kvs ∧ PyProof.V.FlatPairs PyData.str kvs D
theorem HoldsW.tab {prog : PySem.Program} {w : World} {o : Obj} {D : List (PyData × PyData)} {h₀ h : Heap} {L d : Addr} {news : List (Addr × Obj)} (H : HoldsW prog w o D) (N : News h₀ L h news) (hp : (d, o) ∈ news) (lo : (d == sysModules) = false) :
    TabAt (strKind prog w) PyData.str h d D := by
  obtain ⟨kvs, a, b⟩ := H
  exact TabAt.ofNews N hp lo a b
theorem setItem_W {prog : PySem.Program} {w : World} {A : Around} {E : Value → Shared → Prop} {s : Shared} {h₀ : Heap} {L d : Addr} {m : PySem.Str → Option Value} {news : List (Addr × Obj)} {g : Obj → List (Addr × Obj)} {o : Obj} {k x : PySem.Str} {tk tx : Tok} {Q : Unit → Shared → Prop}
    (H : HoldsW prog w o []) (F : Fr h₀ L s.heap m) (N : News h₀ L s.heap news) (U : UpdF d o news g)
    (h : ∀ h' o', Fr h₀ L h' m → News h₀ L h' (g o') → HoldsW prog w o' [(PyData.str k, PyData.str x)] → Q () { s with heap := h', toks := s.toks + 1 }) :
    wpAny (model prog w) A (setItem (.ref d) (.str k tk) (.str x tx)) Q E s := by
  obtain ⟨kvs, a, b⟩ := H
  refine setItem_K PyProof.V.same_str (strKind_is _ _ _ _) (PyProof.V.Flat.str x tx) F N U a b (fun h' o' F' N' hd hf => h h' o' F' N' ⟨_, hd, hf⟩) (Nat.zero_le _)
local macro_rules | `(tactic| k_room) => `(tactic| ktr_room)
local macro_rules | `(tactic| walk_at "compareOp Eq ref str") => `(tactic| k_extra "r1")
local macro_rules | `(tactic| walk_at "compareOp NotIn str ref") => `(tactic| k_extra "r2")
local macro_rules | `(tactic| walk_at "compareOp In str ref") => `(tactic| k_extra "r3")
local macro_rules | `(tactic| walk_at "callWith ref") => `(tactic| k_extra "r4")
local macro_rules | `(tactic| walk_at "subscriptTail Name Constant ref int") => `(tactic| k_extra "r5")
local macro_rules | `(tactic| k_lt $h) => `(tactic| ((rename Srt _ _ => hSrt); (replace $h := Srt.push $h hSrt rfl); clear hSrt))
local macro_rules | `(tactic| k_lt2 $h) => `(tactic| ((rename Srt _ _ => hSrt); (replace $h := Srt.push1 $h hSrt); clear hSrt))
local macro_rules | `(tactic| k_upd) => `(tactic| k_extra "upd")
local macro_rules | `(tactic| k_updF) => `(tactic| k_extra "updF")
local macro_rules | `(tactic| k_mem) => `(tactic| k_extra "mem")
local macro_rules | `(tactic| k_tabat) => `(tactic| k_extra "tabat")
local macro_rules | `(tactic| walk_at "setItem ref str") => `(tactic| k_extra "setit")
local macro_rules | `(tactic| walk_at "call ref") => `(tactic| k_extra "use")
local macro_rules | `(tactic| walk_at "UnrEnd") => `(tactic| k_extra "unr")
abbrev Cat (news : List (Addr × Obj)) (a b rest at' named : Value) (nw : List (Addr × Obj)) (v : Value) : Prop :=
  ∃ x y z : Addr, nw = (z, tup [.ref y, at', named]) :: (y, tup [a, .ref x]) :: (x, tup [b, rest]) :: news ∧ v = .ref z ∧ AllLt x news ∧ x < y ∧ AllLt y news ∧ y < z ∧ x < z ∧ AllLt z news
theorem adv_cat {prog p loose w mean mg mb news} {c hn : Addr} {tk : Tok} {a b rest : Value} {at' : Int} {ta : Tok} {named pile host : Value} {subj : PySem.Str} {ts : Tok}
    (m1 : InL news c (tup [.ref hn, rest])) (m2 : InL news hn (tup [St "cat" tk, a, b])) :
    ClaimX prog p loose w mean mg mb news 341 [.ref c, .int at' ta, named, .str subj ts, pile, host] (Cat news a b rest (.int at' ta) named) := by
  w_top off
  k_with_none
  k_with "r1" => first
    | (k_here; (with_reducible show wpAny _ _ (compareOp CmpOp.Eq (Value.ref _) (Value.str _ _)) _ _ _); k_dflt (refine' eq_tup_str ?k1Q9 ?k2Q9 ?_; (case k1Q9 => exact News.isTup (by k_asm) (by k_mem)); (case k2Q9 => ktr_units); k_whole))
  k_with "r2" => first
    | (k_here; (with_reducible show wpAny _ _ (compareOp CmpOp.NotIn (Value.str _ _) (Value.ref _)) _ _ _); (with_unfolding_all refine' notin_tuple_strs ?k1Q9 ?k2Q9 ?_; (case k1Q9 => exact kun_topT (by k_asm) (by k_asm) (by k_is)); (case k2Q9 => kde_strs); k_whole))
  k_with "r3" => first
    | (k_here; (with_reducible show wpAny _ _ (compareOp CmpOp.In (Value.str _ _) (Value.ref _)) _ _ _); (with_unfolding_all refine' in_tuple_strs ?k1Q9 ?k2Q9 ?_; (case k1Q9 => exact kun_topT (by k_asm) (by k_asm) (by k_is)); (case k2Q9 => kde_strs); k_whole))
  k_with "r4" => first
    | (k_here; (with_reducible show wpAny _ _ (callWith _ (Value.ref _) _ (backTo _ (starEach [] _)) []) _ _ _); k_dflt (refine' callWith_K0F ?k1Q9 ?k2Q9 ?k3Q9 ?_; (case k1Q9 => k_asm); (case k2Q9 => k_asm); (case k3Q9 => k_is); k_whole; try dsimp only [List.nil_append, List.cons_append]))
    | (k_here; (with_reducible show wpAny _ _ (callWith _ (Value.ref _) _ (backTo _ (starEach (_ :: _) _)) []) _ _ _); k_dflt (refine' callWith_K ?k1Q9 ?k2Q9 ?_ ?k3Q9 ?k4Q9; (case k1Q9 => k_asm); (case k2Q9 => k_is); (case k3Q9 => exact rfl); (case k4Q9 => exact rfl); k_whole))
    | (k_here; (with_reducible show wpAny _ _ (callWith _ (Value.ref _) _ (backTo _ (starEach [] _)) []) _ _ _); k_dflt (refine' callWith_M0 ?k1Q9 ?k2Q9 ?_; (case k1Q9 => k_meth); (case k2Q9 => k_is); k_whole; try dsimp only [List.nil_append, List.cons_append]))
  k_with "r5" => first
    | (k_here; (with_reducible show wpAny _ _ (subscriptTail _ _ (Value.ref _) (Value.int _ _)) _ _ _); k_dflt (refine' item_tupleT ?tQ9 ?aQ9 ?bQ9 ?cQ9 ?dQ9 ?_; (case tQ9 => exact News.isTup (by k_asm) (by k_mem)); (case aQ9 => decide); (case bQ9 => decide); (case cQ9 => rfl); (case dQ9 => rfl); k_whole))
  k_with "updp" => first | exact UpdP.head | (refine' UpdP.tail ?uQ9; (case uQ9 => k_extra "updp"))
  k_with "updq" => first | exact UpdQ.head | (refine' UpdQ.tail ?uQ9; (case uQ9 => k_extra "updq"))
  k_with "updq2" => first | exact UpdQ2.head | (refine' UpdQ2.tail ?uQ9; (case uQ9 => k_extra "updq2"))
  k_with "as_mem" => first | exact List.Mem.head _ | (refine' List.Mem.tail _ ?_; k_extra "as_mem")
  k_with "srt_ne" => ((rename Srt _ _ => hSrt); (first | exact Srt.ne0 hSrt (by k_extra "as_mem") | (replace hSrt := Srt.tail hSrt; k_extra "srt_ne")))
  k_with "mem" => first
    | (refine' InL.out ?_; with_reducible assumption)
  k_with "upd" => first
    | ((rename Srt _ _ => hSrt); (refine' Srt.upd hSrt rfl (by k_extra "as_mem") ?uQ9); (case uQ9 => k_extra "updp"))
  k_with "updF" => first
    | ((rename Srt _ _ => hSrt); (refine' Srt.updF hSrt rfl (by k_extra "as_mem") ?uQ9); (case uQ9 => k_extra "updq"))
  intro dpZ unZ gdZ cnZ csZ aZ ccdZ clZ outerZ AZ baseZ hZ LZ mZ sZ QZ EZ BZ FZ XZ NZ TZ hkZ hdpZ hunZ hret
  refine wpAny_call ?_
  k_dflt cell_enter
  k_steps
  all_goals (refine' hret _ _ _ _ ⟨_, _, _, rfl, rfl, ?o1, ?o2, ?o3, ?o4, ?o5, ?o6⟩ ?f ?n; (case n => (refine' cb_drop ?cbN ?cbS; (case cbN => assumption); (case cbS => kcj_all))); (case f => k_asm); all_goals (kopn_split; first | assumption | omega | exact allLt_of (by assumption) | fail "k_ord"))
abbrev Now (news : List (Addr × Obj)) (a ref rest at' named : Value) (nw : List (Addr × Obj)) (v : Value) : Prop :=
  ∃ (e x y z : Addr) (t : Tok), nw = (z, tup [.ref y, at', named]) :: (y, tup [a, .ref x]) :: (x, tup [.ref e, rest]) :: (e, tup [St "end now" t, ref, at']) :: news ∧ v = .ref z ∧ AllLt e news ∧ e < x ∧ AllLt x news ∧ e < y ∧ x < y ∧ AllLt y news ∧ e < z ∧ x < z ∧ y < z ∧ AllLt z news
theorem adv_now {prog p loose w mean mg mb news} {c hn : Addr} {tk : Tok} {a ref rest : Value} {at' : Int} {ta : Tok} {named pile host : Value} {subj : PySem.Str} {ts : Tok}
    (m1 : InL news c (tup [.ref hn, rest])) (m2 : InL news hn (tup [St "now" tk, a, ref])) :
    ClaimX prog p loose w mean mg mb news 341 [.ref c, .int at' ta, named, .str subj ts, pile, host] (Now news a ref rest (.int at' ta) named) := by
  w_top off
  k_with_none
  k_with "r1" => first
    | (k_here; (with_reducible show wpAny _ _ (compareOp CmpOp.Eq (Value.ref _) (Value.str _ _)) _ _ _); k_dflt (refine' eq_tup_str ?k1Q9 ?k2Q9 ?_; (case k1Q9 => exact News.isTup (by k_asm) (by k_mem)); (case k2Q9 => ktr_units); k_whole))
  k_with "r2" => first
    | (k_here; (with_reducible show wpAny _ _ (compareOp CmpOp.NotIn (Value.str _ _) (Value.ref _)) _ _ _); (with_unfolding_all refine' notin_tuple_strs ?k1Q9 ?k2Q9 ?_; (case k1Q9 => exact kun_topT (by k_asm) (by k_asm) (by k_is)); (case k2Q9 => kde_strs); k_whole))
  k_with "r3" => first
    | (k_here; (with_reducible show wpAny _ _ (compareOp CmpOp.In (Value.str _ _) (Value.ref _)) _ _ _); (with_unfolding_all refine' in_tuple_strs ?k1Q9 ?k2Q9 ?_; (case k1Q9 => exact kun_topT (by k_asm) (by k_asm) (by k_is)); (case k2Q9 => kde_strs); k_whole))
  k_with "r4" => first
    | (k_here; (with_reducible show wpAny _ _ (callWith _ (Value.ref _) _ (backTo _ (starEach [] _)) []) _ _ _); k_dflt (refine' callWith_K0F ?k1Q9 ?k2Q9 ?k3Q9 ?_; (case k1Q9 => k_asm); (case k2Q9 => k_asm); (case k3Q9 => k_is); k_whole; try dsimp only [List.nil_append, List.cons_append]))
    | (k_here; (with_reducible show wpAny _ _ (callWith _ (Value.ref _) _ (backTo _ (starEach (_ :: _) _)) []) _ _ _); k_dflt (refine' callWith_K ?k1Q9 ?k2Q9 ?_ ?k3Q9 ?k4Q9; (case k1Q9 => k_asm); (case k2Q9 => k_is); (case k3Q9 => exact rfl); (case k4Q9 => exact rfl); k_whole))
    | (k_here; (with_reducible show wpAny _ _ (callWith _ (Value.ref _) _ (backTo _ (starEach [] _)) []) _ _ _); k_dflt (refine' callWith_M0 ?k1Q9 ?k2Q9 ?_; (case k1Q9 => k_meth); (case k2Q9 => k_is); k_whole; try dsimp only [List.nil_append, List.cons_append]))
  k_with "r5" => first
    | (k_here; (with_reducible show wpAny _ _ (subscriptTail _ _ (Value.ref _) (Value.int _ _)) _ _ _); k_dflt (refine' item_tupleT ?tQ9 ?aQ9 ?bQ9 ?cQ9 ?dQ9 ?_; (case tQ9 => exact News.isTup (by k_asm) (by k_mem)); (case aQ9 => decide); (case bQ9 => decide); (case cQ9 => rfl); (case dQ9 => rfl); k_whole))
  k_with "updp" => first | exact UpdP.head | (refine' UpdP.tail ?uQ9; (case uQ9 => k_extra "updp"))
  k_with "updq" => first | exact UpdQ.head | (refine' UpdQ.tail ?uQ9; (case uQ9 => k_extra "updq"))
  k_with "updq2" => first | exact UpdQ2.head | (refine' UpdQ2.tail ?uQ9; (case uQ9 => k_extra "updq2"))
  k_with "as_mem" => first | exact List.Mem.head _ | (refine' List.Mem.tail _ ?_; k_extra "as_mem")
  k_with "srt_ne" => ((rename Srt _ _ => hSrt); (first | exact Srt.ne0 hSrt (by k_extra "as_mem") | (replace hSrt := Srt.tail hSrt; k_extra "srt_ne")))
  k_with "mem" => first
    | (refine' InL.out ?_; with_reducible assumption)
  k_with "upd" => first
    | ((rename Srt _ _ => hSrt); (refine' Srt.upd hSrt rfl (by k_extra "as_mem") ?uQ9); (case uQ9 => k_extra "updp"))
  k_with "updF" => first
    | ((rename Srt _ _ => hSrt); (refine' Srt.updF hSrt rfl (by k_extra "as_mem") ?uQ9); (case uQ9 => k_extra "updq"))
  intro dpZ unZ gdZ cnZ csZ aZ ccdZ clZ outerZ AZ baseZ hZ LZ mZ sZ QZ EZ BZ FZ XZ NZ TZ hkZ hdpZ hunZ hret
  refine wpAny_call ?_
  k_dflt cell_enter
  k_steps
  all_goals (refine' hret _ _ _ _ ⟨_, _, _, _, _, rfl, rfl, ?o1, ?o2, ?o3, ?o4, ?o5, ?o6, ?o7, ?o8, ?o9, ?o0⟩ ?f ?n; (case n => (refine' cb_drop ?cbN ?cbS; (case cbN => assumption); (case cbS => kcj_all))); (case f => k_asm); all_goals (kopn_split; first | assumption | omega | exact allLt_of (by assumption) | fail "k_ord"))
theorem adv_tab {prog p loose w mean mg mb news} {c hn : Addr} {tk : Tok} {n : Int} {tn : Tok} {rest : Value} {at' : Int} {ta : Tok} {named pile host : Value} {subj : PySem.Str} {ts : Tok}
    (m1 : InL news c (tup [.ref hn, rest])) (m2 : InL news hn (tup [St "tab" tk, .int n tn])) (h1 : at' ≤ n) (h2 : n ≤ subj.length) (h3 : subj.length ≤ 100) :
    ClaimX prog p loose w mean mg mb news 341 [.ref c, .int at' ta, named, .str subj ts, pile, host] (One news (fun xs => xs = [rest, .int n tn, named])) := by
  w_top off
  k_with_none
  k_with "r1" => first
    | (k_here; (with_reducible show wpAny _ _ (compareOp CmpOp.Eq (Value.ref _) (Value.str _ _)) _ _ _); k_dflt (refine' eq_tup_str ?k1Q9 ?k2Q9 ?_; (case k1Q9 => exact News.isTup (by k_asm) (by k_mem)); (case k2Q9 => ktr_units); k_whole))
  k_with "r2" => first
    | (k_here; (with_reducible show wpAny _ _ (compareOp CmpOp.NotIn (Value.str _ _) (Value.ref _)) _ _ _); (with_unfolding_all refine' notin_tuple_strs ?k1Q9 ?k2Q9 ?_; (case k1Q9 => exact kun_topT (by k_asm) (by k_asm) (by k_is)); (case k2Q9 => kde_strs); k_whole))
  k_with "r3" => first
    | (k_here; (with_reducible show wpAny _ _ (compareOp CmpOp.In (Value.str _ _) (Value.ref _)) _ _ _); (with_unfolding_all refine' in_tuple_strs ?k1Q9 ?k2Q9 ?_; (case k1Q9 => exact kun_topT (by k_asm) (by k_asm) (by k_is)); (case k2Q9 => kde_strs); k_whole))
  k_with "r4" => first
    | (k_here; (with_reducible show wpAny _ _ (callWith _ (Value.ref _) _ (backTo _ (starEach [] _)) []) _ _ _); k_dflt (refine' callWith_K0F ?k1Q9 ?k2Q9 ?k3Q9 ?_; (case k1Q9 => k_asm); (case k2Q9 => k_asm); (case k3Q9 => k_is); k_whole; try dsimp only [List.nil_append, List.cons_append]))
    | (k_here; (with_reducible show wpAny _ _ (callWith _ (Value.ref _) _ (backTo _ (starEach (_ :: _) _)) []) _ _ _); k_dflt (refine' callWith_K ?k1Q9 ?k2Q9 ?_ ?k3Q9 ?k4Q9; (case k1Q9 => k_asm); (case k2Q9 => k_is); (case k3Q9 => exact rfl); (case k4Q9 => exact rfl); k_whole))
    | (k_here; (with_reducible show wpAny _ _ (callWith _ (Value.ref _) _ (backTo _ (starEach [] _)) []) _ _ _); k_dflt (refine' callWith_M0 ?k1Q9 ?k2Q9 ?_; (case k1Q9 => k_meth); (case k2Q9 => k_is); k_whole; try dsimp only [List.nil_append, List.cons_append]))
  k_with "r5" => first
    | (k_here; (with_reducible show wpAny _ _ (subscriptTail _ _ (Value.ref _) (Value.int _ _)) _ _ _); k_dflt (refine' item_tupleT ?tQ9 ?aQ9 ?bQ9 ?cQ9 ?dQ9 ?_; (case tQ9 => exact News.isTup (by k_asm) (by k_mem)); (case aQ9 => decide); (case bQ9 => decide); (case cQ9 => rfl); (case dQ9 => rfl); k_whole))
  k_with "updp" => first | exact UpdP.head | (refine' UpdP.tail ?uQ9; (case uQ9 => k_extra "updp"))
  k_with "updq" => first | exact UpdQ.head | (refine' UpdQ.tail ?uQ9; (case uQ9 => k_extra "updq"))
  k_with "updq2" => first | exact UpdQ2.head | (refine' UpdQ2.tail ?uQ9; (case uQ9 => k_extra "updq2"))
  k_with "as_mem" => first | exact List.Mem.head _ | (refine' List.Mem.tail _ ?_; k_extra "as_mem")
  k_with "srt_ne" => ((rename Srt _ _ => hSrt); (first | exact Srt.ne0 hSrt (by k_extra "as_mem") | (replace hSrt := Srt.tail hSrt; k_extra "srt_ne")))
  k_with "mem" => first
    | (refine' InL.out ?_; with_reducible assumption)
  k_with "upd" => first
    | ((rename Srt _ _ => hSrt); (refine' Srt.upd hSrt rfl (by k_extra "as_mem") ?uQ9); (case uQ9 => k_extra "updp"))
  k_with "updF" => first
    | ((rename Srt _ _ => hSrt); (refine' Srt.updF hSrt rfl (by k_extra "as_mem") ?uQ9); (case uQ9 => k_extra "updq"))
  intro dpZ unZ gdZ cnZ csZ aZ ccdZ clZ outerZ AZ baseZ hZ LZ mZ sZ QZ EZ BZ FZ XZ NZ TZ hkZ hdpZ hunZ hret
  refine wpAny_call ?_
  k_dflt cell_enter
  k_steps
  all_goals (refine' hret _ _ _ _ ⟨_, _, rfl, rfl, ?o1, rfl⟩ ?f ?n; (case n => (refine' cb_drop ?cbN ?cbS; (case cbN => assumption); (case cbS => kcj_all))); (case f => k_asm); all_goals (kopn_split; first | assumption | omega | exact allLt_of (by assumption) | fail "k_ord"))
theorem adv_len {prog p loose w mean mg mb news} {c hn : Addr} {tk : Tok} {n : Int} {tn : Tok} {rest : Value} {at' : Int} {ta : Tok} {named pile host : Value} {subj : PySem.Str} {ts : Tok}
    (m1 : InL news c (tup [.ref hn, rest])) (m2 : InL news hn (tup [St "len" tk, .int n tn])) (h1 : 0 ≤ at') (h2 : 0 ≤ n) (h4 : at' + n ≤ subj.length) (h3 : subj.length ≤ 100) :
    ClaimX prog p loose w mean mg mb news 341 [.ref c, .int at' ta, named, .str subj ts, pile, host] (One news (fun xs => ∃ t, xs = [rest, .int (at' + n) t, named])) := by
  w_top off
  k_with_none
  k_with "r1" => first
    | (k_here; (with_reducible show wpAny _ _ (compareOp CmpOp.Eq (Value.ref _) (Value.str _ _)) _ _ _); k_dflt (refine' eq_tup_str ?k1Q9 ?k2Q9 ?_; (case k1Q9 => exact News.isTup (by k_asm) (by k_mem)); (case k2Q9 => ktr_units); k_whole))
  k_with "r2" => first
    | (k_here; (with_reducible show wpAny _ _ (compareOp CmpOp.NotIn (Value.str _ _) (Value.ref _)) _ _ _); (with_unfolding_all refine' notin_tuple_strs ?k1Q9 ?k2Q9 ?_; (case k1Q9 => exact kun_topT (by k_asm) (by k_asm) (by k_is)); (case k2Q9 => kde_strs); k_whole))
  k_with "r3" => first
    | (k_here; (with_reducible show wpAny _ _ (compareOp CmpOp.In (Value.str _ _) (Value.ref _)) _ _ _); (with_unfolding_all refine' in_tuple_strs ?k1Q9 ?k2Q9 ?_; (case k1Q9 => exact kun_topT (by k_asm) (by k_asm) (by k_is)); (case k2Q9 => kde_strs); k_whole))
  k_with "r4" => first
    | (k_here; (with_reducible show wpAny _ _ (callWith _ (Value.ref _) _ (backTo _ (starEach [] _)) []) _ _ _); k_dflt (refine' callWith_K0F ?k1Q9 ?k2Q9 ?k3Q9 ?_; (case k1Q9 => k_asm); (case k2Q9 => k_asm); (case k3Q9 => k_is); k_whole; try dsimp only [List.nil_append, List.cons_append]))
    | (k_here; (with_reducible show wpAny _ _ (callWith _ (Value.ref _) _ (backTo _ (starEach (_ :: _) _)) []) _ _ _); k_dflt (refine' callWith_K ?k1Q9 ?k2Q9 ?_ ?k3Q9 ?k4Q9; (case k1Q9 => k_asm); (case k2Q9 => k_is); (case k3Q9 => exact rfl); (case k4Q9 => exact rfl); k_whole))
    | (k_here; (with_reducible show wpAny _ _ (callWith _ (Value.ref _) _ (backTo _ (starEach [] _)) []) _ _ _); k_dflt (refine' callWith_M0 ?k1Q9 ?k2Q9 ?_; (case k1Q9 => k_meth); (case k2Q9 => k_is); k_whole; try dsimp only [List.nil_append, List.cons_append]))
  k_with "r5" => first
    | (k_here; (with_reducible show wpAny _ _ (subscriptTail _ _ (Value.ref _) (Value.int _ _)) _ _ _); k_dflt (refine' item_tupleT ?tQ9 ?aQ9 ?bQ9 ?cQ9 ?dQ9 ?_; (case tQ9 => exact News.isTup (by k_asm) (by k_mem)); (case aQ9 => decide); (case bQ9 => decide); (case cQ9 => rfl); (case dQ9 => rfl); k_whole))
  k_with "updp" => first | exact UpdP.head | (refine' UpdP.tail ?uQ9; (case uQ9 => k_extra "updp"))
  k_with "updq" => first | exact UpdQ.head | (refine' UpdQ.tail ?uQ9; (case uQ9 => k_extra "updq"))
  k_with "updq2" => first | exact UpdQ2.head | (refine' UpdQ2.tail ?uQ9; (case uQ9 => k_extra "updq2"))
  k_with "as_mem" => first | exact List.Mem.head _ | (refine' List.Mem.tail _ ?_; k_extra "as_mem")
  k_with "srt_ne" => ((rename Srt _ _ => hSrt); (first | exact Srt.ne0 hSrt (by k_extra "as_mem") | (replace hSrt := Srt.tail hSrt; k_extra "srt_ne")))
  k_with "mem" => first
    | (refine' InL.out ?_; with_reducible assumption)
  k_with "upd" => first
    | ((rename Srt _ _ => hSrt); (refine' Srt.upd hSrt rfl (by k_extra "as_mem") ?uQ9); (case uQ9 => k_extra "updp"))
  k_with "updF" => first
    | ((rename Srt _ _ => hSrt); (refine' Srt.updF hSrt rfl (by k_extra "as_mem") ?uQ9); (case uQ9 => k_extra "updq"))
  intro dpZ unZ gdZ cnZ csZ aZ ccdZ clZ outerZ AZ baseZ hZ LZ mZ sZ QZ EZ BZ FZ XZ NZ TZ hkZ hdpZ hunZ hret
  refine wpAny_call ?_
  k_dflt cell_enter
  k_steps
  all_goals (refine' hret _ _ _ _ ⟨_, _, rfl, rfl, ?o1, ⟨_, rfl⟩⟩ ?f ?n; (case n => (refine' cb_drop ?cbN ?cbS; (case cbN => assumption); (case cbS => kcj_all))); (case f => k_asm); all_goals (kopn_split; first | assumption | omega | exact allLt_of (by assumption) | fail "k_ord"))
theorem news_tl {h₀ h : Heap} {L : Addr} {p : Addr × Obj} {l : List (Addr × Obj)} (N : News h₀ L h (p :: l)) : News h₀ L h l := fun q hq => N q (List.mem_cons_of_mem _ hq)
abbrev refD (w : World) (k1 k2 k3 k4 : Tok) (v : Value) : Obj := dictOf [ent w "kind" k1 v, ent w "owner" k2 .none, ent w "key" k3 (St "W" k4)] 3
abbrev EndNow (prog : PySem.Program) (w : World) (g2 : Obj → Obj → List (Addr × Obj)) (x : PySem.Str) (rest at' named : Value) (nw : List (Addr × Obj)) (v : Value) : Prop :=
  ∃ (z : Addr) (o' oL : Obj), nw = (z, tup [rest, at', named]) :: g2 o' oL ∧ v = .ref z ∧ AllLt z (g2 o' oL) ∧ HoldsW prog w o' [(PyData.str (PySem.Str.ofString "W"), PyData.str x)]
theorem adv_endnow {prog p loose w mean mg mb l} {g1 : Obj → List (Addr × Obj)} {g2 : Obj → Obj → List (Addr × Obj)} {c hn hx hd r rd rl vd ll : Addr} {o : Obj} {tk t1 t2 t3 t4 t5 t6 tl k1 k2 k3 k4 : Tok} {v4 kv : Value} {k : Int} {tst : Tok} {rest : Value} {b : Int} {tb : Tok} {n0 n1 : Nat}
    {at' : Int} {ta : Tok} {named pile : Value} {subj : PySem.Str} {ts : Tok}
    (m1 : InL l c (tup [.ref hn, rest])) (m2 : InL l hn (tup [St "end now" tk, .ref r, .int b tb]))
    (m3 : InL l hx (instObj 407 hd)) (m4 : InL l hd (hostD w t1 t2 t3 t4 t5 t6 tl (.ref vd) (.ref rl) v4 (.ref ll) k tst))
    (m5 : InL l r (instObj 110 rd)) (m6 : InL l rd (refD w k1 k2 k3 k4 kv)) (m7 : InL l rl (W.listOf #[] n0)) (m8 : InL l vd o)
    (lo : (vd == sysModules) = false) (hdi : HoldsW prog w o [])
    (hU1 : UpdF vd o l g1) (hU2 : UpdF2 ll (W.listOf #[] n1) g1 g2) (n1' : hx ≠ vd) (n2' : hd ≠ vd) (n3' : r ≠ vd) (n4' : rd ≠ vd)
    (h1 : 0 ≤ b) (h2 : b ≤ at') (h3 : at' ≤ subj.length) (h4 : subj.length ≤ 100) :
    ClaimX prog p loose w mean mg mb l 341 [.ref c, .int at' ta, named, .str subj ts, pile, .ref hx] (EndNow prog w g2 (Txt.slice subj (some b) (some at')) rest (.int at' ta) named) := by
  w_top off
  k_with_none
  k_with "r1" => first
    | (k_here; (with_reducible show wpAny _ _ (compareOp CmpOp.Eq (Value.ref _) (Value.str _ _)) _ _ _); k_dflt (refine' eq_tup_str ?k1Q9 ?k2Q9 ?_; (case k1Q9 => exact News.isTup (by k_asm) (by k_mem)); (case k2Q9 => ktr_units); k_whole))
  k_with "r2" => first
    | (k_here; (with_reducible show wpAny _ _ (compareOp CmpOp.NotIn (Value.str _ _) (Value.ref _)) _ _ _); (with_unfolding_all refine' notin_tuple_strs ?k1Q9 ?k2Q9 ?_; (case k1Q9 => exact kun_topT (by k_asm) (by k_asm) (by k_is)); (case k2Q9 => kde_strs); k_whole))
  k_with "r3" => first
    | (k_here; (with_reducible show wpAny _ _ (compareOp CmpOp.In (Value.str _ _) (Value.ref _)) _ _ _); (with_unfolding_all refine' in_list_strs ?k1Q9 ?k2Q9 ?_; (case k1Q9 => exact News.isList (by k_asm) (by k_mem)); (case k2Q9 => kde_strs); k_whole))
    | (k_here; (with_reducible show wpAny _ _ (compareOp CmpOp.In (Value.str _ _) (Value.ref _)) _ _ _); (with_unfolding_all refine' in_tuple_strs ?k1Q9 ?k2Q9 ?_; (case k1Q9 => exact kun_topT (by k_asm) (by k_asm) (by k_is)); (case k2Q9 => kde_strs); k_whole))
  k_with "r4" => first
    | (k_here; (with_reducible show wpAny _ _ (callWith _ (Value.ref _) _ (backTo _ (starEach [] _)) []) _ _ _); k_dflt (refine' callWith_K0F ?k1Q9 ?k2Q9 ?k3Q9 ?_; (case k1Q9 => k_asm); (case k2Q9 => k_asm); (case k3Q9 => k_is); k_whole; try dsimp only [List.nil_append, List.cons_append]))
    | (k_here; (with_reducible show wpAny _ _ (callWith _ (Value.ref _) _ (backTo _ (starEach (_ :: _) _)) []) _ _ _); k_dflt (refine' callWith_K ?k1Q9 ?k2Q9 ?_ ?k3Q9 ?k4Q9; (case k1Q9 => k_asm); (case k2Q9 => k_is); (case k3Q9 => exact rfl); (case k4Q9 => exact rfl); k_whole))
    | (k_here; (with_reducible show wpAny _ _ (callWith _ (Value.ref _) _ (backTo _ (starEach [] _)) []) _ _ _); k_dflt (refine' callWith_M0 ?k1Q9 ?k2Q9 ?_; (case k1Q9 => k_meth); (case k2Q9 => k_is); k_whole; try dsimp only [List.nil_append, List.cons_append]))
  k_with "r5" => first
    | (k_here; (with_reducible show wpAny _ _ (subscriptTail _ _ (Value.ref _) (Value.int _ _)) _ _ _); k_dflt (refine' item_tupleT ?tQ9 ?aQ9 ?bQ9 ?cQ9 ?dQ9 ?_; (case tQ9 => exact News.isTup (by k_asm) (by k_mem)); (case aQ9 => decide); (case bQ9 => decide); (case cQ9 => rfl); (case dQ9 => rfl); k_whole))
  k_with "updp" => first | exact UpdP.head | (refine' UpdP.tail ?uQ9; (case uQ9 => k_extra "updp"))
  k_with "updq" => first | exact UpdQ.head | (refine' UpdQ.tail ?uQ9; (case uQ9 => k_extra "updq"))
  k_with "updq2" => first | exact UpdQ2.head | (refine' UpdQ2.tail ?uQ9; (case uQ9 => k_extra "updq2"))
  k_with "as_mem" => first | exact List.Mem.head _ | (refine' List.Mem.tail _ ?_; k_extra "as_mem")
  k_with "srt_ne" => ((rename Srt _ _ => hSrt); (first | exact Srt.ne0 hSrt (by k_extra "as_mem") | (replace hSrt := Srt.tail hSrt; k_extra "srt_ne")))
  k_with "mem" => first
    | exact mem_u2 (by with_reducible assumption)
    | exact mem_g2 (by with_reducible assumption) (by with_reducible assumption) (by with_reducible assumption)
    | exact mem_g1 (by with_reducible assumption)
    | (refine' InL.out ?_; with_reducible assumption)
  k_with "upd" => first
    | exact upd_tail2 (by assumption) (by with_reducible assumption)
    | exact UpdF.to (by with_reducible assumption)
    | ((rename Srt _ _ => hSrt); (refine' Srt.upd hSrt rfl (by k_extra "as_mem") ?uQ9); (case uQ9 => k_extra "updp"))
  k_with "updF" => first
    | with_reducible assumption
    | ((rename Srt _ _ => hSrt); (refine' Srt.updF hSrt rfl (by k_extra "as_mem") ?uQ9); (case uQ9 => k_extra "updq"))
  k_with "setit" => first
    | (k_here; (with_reducible show wpAny _ _ (setItem (Value.ref _) (Value.str _ _) (Value.str _ _)) _ _ _); k_dflt (refine' setItem_W ?HQ9 ?FQ9 ?NQ9 ?UQ9 ?_; (case HQ9 => with_reducible assumption); (case FQ9 => k_asm); (case UQ9 => with_reducible assumption); (case NQ9 => first | k_asm | exact news_tl (by k_asm))); intro h' o' F' N' H'; (try dsimp only at N'); (try k_sweep))
  intro dpZ unZ gdZ cnZ csZ aZ ccdZ clZ outerZ AZ baseZ hZ LZ mZ sZ QZ EZ BZ FZ XZ NZ TZ hkZ hdpZ hunZ hret
  refine wpAny_call ?_
  k_dflt cell_enter
  k_steps
  all_goals (refine' hret _ _ _ _ ⟨_, _, _, rfl, rfl, ?o1, ?o2⟩ ?f ?n; (case n => (refine' cb_drop ?cbN ?cbS; (case cbN => assumption); (case cbS => kcj_all))); (case f => k_asm); (case o2 => assumption); all_goals (kopn_split; first | assumption | omega | exact allLt_of (by assumption) | fail "k_ord"))
abbrev Delay (l : List (Addr × Obj)) (x : PySem.Str) (rest at' named : Value) (nw : List (Addr × Obj)) (v : Value) : Prop :=
  ∃ (q y z : Addr) (t tx : Tok), nw = (z, tup [.ref y, at', named]) :: (y, tup [.ref q, rest]) :: (q, tup [St "chars" t, .str x tx]) :: l ∧ v = .ref z ∧ AllLt q l ∧ q < y ∧ y < z
theorem adv_delay {prog p loose w mean mg mb l} {c hn nm hx hd vd : Addr} {o : Obj} {tk t1 t2 t3 t4 t5 t6 tl k1 k2 : Tok} {v3 v4 v6 : Value} {k : Int} {tst : Tok} {rest : Value} {x : PySem.Str}
    {at' : Int} {ta : Tok} {named pile : Value} {subj : PySem.Str} {ts : Tok}
    (m1 : InL l c (tup [.ref hn, rest])) (m2 : InL l hn (tup [St "delay" tk, .ref nm])) (m22 : InL l nm (tup [St "name" k1, St "W" k2]))
    (m3 : InL l hx (instObj 407 hd)) (m4 : InL l hd (hostD w t1 t2 t3 t4 t5 t6 tl (.ref vd) v3 v4 v6 k tst))
    (m8 : InL l vd o) (lo : (vd == sysModules) = false) (hdi : HoldsW prog w o [(PyData.str (PySem.Str.ofString "W"), PyData.str x)])
    (hx1 : x.length ≤ 100) :
    ClaimX prog p loose w mean mg mb l 341 [.ref c, .int at' ta, named, .str subj ts, pile, .ref hx] (Delay l x rest (.int at' ta) named) := by
  w_top off
  k_with_none
  k_with "r1" => first
    | (k_here; (with_reducible show wpAny _ _ (compareOp CmpOp.Eq (Value.ref _) (Value.str _ _)) _ _ _); k_dflt (refine' eq_tup_str ?k1Q9 ?k2Q9 ?_; (case k1Q9 => exact News.isTup (by k_asm) (by k_mem)); (case k2Q9 => ktr_units); k_whole))
  k_with "r2" => first
    | (k_here; (with_reducible show wpAny _ _ (compareOp CmpOp.NotIn (Value.str _ _) (Value.ref _)) _ _ _); (with_unfolding_all refine' notin_tuple_strs ?k1Q9 ?k2Q9 ?_; (case k1Q9 => exact kun_topT (by k_asm) (by k_asm) (by k_is)); (case k2Q9 => kde_strs); k_whole))
  k_with "r3" => first
    | (k_here; (with_reducible show wpAny _ _ (compareOp CmpOp.In (Value.str _ _) (Value.ref _)) _ _ _); (with_unfolding_all refine' in_tuple_strs ?k1Q9 ?k2Q9 ?_; (case k1Q9 => exact kun_topT (by k_asm) (by k_asm) (by k_is)); (case k2Q9 => kde_strs); k_whole))
  k_with "r4" => first
    | (k_here; (with_reducible show wpAny _ _ (callWith _ (Value.ref _) _ (backTo _ (starEach [] _)) []) _ _ _); k_dflt (refine' callWith_K0F ?k1Q9 ?k2Q9 ?k3Q9 ?_; (case k1Q9 => k_asm); (case k2Q9 => k_asm); (case k3Q9 => k_is); k_whole; try dsimp only [List.nil_append, List.cons_append]))
    | (k_here; (with_reducible show wpAny _ _ (callWith _ (Value.ref _) _ (backTo _ (starEach (_ :: _) _)) []) _ _ _); k_dflt (refine' callWith_K ?k1Q9 ?k2Q9 ?_ ?k3Q9 ?k4Q9; (case k1Q9 => k_asm); (case k2Q9 => k_is); (case k3Q9 => exact rfl); (case k4Q9 => exact rfl); k_whole))
    | (k_here; (with_reducible show wpAny _ _ (callWith _ (Value.ref _) _ (backTo _ (starEach [] _)) []) _ _ _); k_dflt (refine' callWith_M0 ?k1Q9 ?k2Q9 ?_; (case k1Q9 => k_meth); (case k2Q9 => k_is); k_whole; try dsimp only [List.nil_append, List.cons_append]))
  k_with "r5" => first
    | (k_here; (with_reducible show wpAny _ _ (subscriptTail _ _ (Value.ref _) (Value.int _ _)) _ _ _); k_dflt (refine' item_tupleT ?tQ9 ?aQ9 ?bQ9 ?cQ9 ?dQ9 ?_; (case tQ9 => exact News.isTup (by k_asm) (by k_mem)); (case aQ9 => decide); (case bQ9 => decide); (case cQ9 => rfl); (case dQ9 => rfl); k_whole))
  k_with "updp" => first | exact UpdP.head | (refine' UpdP.tail ?uQ9; (case uQ9 => k_extra "updp"))
  k_with "updq" => first | exact UpdQ.head | (refine' UpdQ.tail ?uQ9; (case uQ9 => k_extra "updq"))
  k_with "updq2" => first | exact UpdQ2.head | (refine' UpdQ2.tail ?uQ9; (case uQ9 => k_extra "updq2"))
  k_with "as_mem" => first | exact List.Mem.head _ | (refine' List.Mem.tail _ ?_; k_extra "as_mem")
  k_with "srt_ne" => ((rename Srt _ _ => hSrt); (first | exact Srt.ne0 hSrt (by k_extra "as_mem") | (replace hSrt := Srt.tail hSrt; k_extra "srt_ne")))
  k_with "mem" => first
    | exact mem_g2 (by with_reducible assumption) (by with_reducible assumption) (by with_reducible assumption)
    | exact mem_g1 (by with_reducible assumption)
    | (refine' InL.out ?_; with_reducible assumption)
  k_with "upd" => first
    | exact UpdF.to (by with_reducible assumption)
    | ((rename Srt _ _ => hSrt); (refine' Srt.upd hSrt rfl (by k_extra "as_mem") ?uQ9); (case uQ9 => k_extra "updp"))
  k_with "updF" => first
    | ((rename Srt _ _ => hSrt); (refine' Srt.updF hSrt rfl (by k_extra "as_mem") ?uQ9); (case uQ9 => k_extra "updq"))
  k_with "tabat" => first
    | exact HoldsW.tab (by with_reducible assumption) (by k_asm) (by k_mem) (by with_reducible assumption)
  intro dpZ unZ gdZ cnZ csZ aZ ccdZ clZ outerZ AZ baseZ hZ LZ mZ sZ QZ EZ BZ FZ XZ NZ TZ hkZ hdpZ hunZ hret
  refine wpAny_call ?_
  k_dflt cell_enter
  k_steps
  all_goals (refine' hret _ _ _ _ ⟨_, _, _, _, _, rfl, rfl, ?o1, ?o2, ?o3⟩ ?f ?n; (case n => (refine' cb_drop ?cbN ?cbS; (case cbN => assumption); (case cbS => kcj_all))); (case f => k_asm); all_goals (kopn_split; first | assumption | omega | exact allLt_of (by assumption) | fail "k_ord"))
abbrev Chars (news : List (Addr × Obj)) (subj x : PySem.Str) (rest named : Value) (at' : Int) (nw : List (Addr × Obj)) (v : Value) : Prop :=
  ((Txt.slice subj (some at') (some (at' + x.length)) == x) = true ∧ One news (fun xs => ∃ t, xs = [rest, .int (at' + x.length) t, named]) nw v) ∨ ((Txt.slice subj (some at') (some (at' + x.length)) == x) = false ∧ nw = news ∧ v = .none)
theorem adv_chars {prog p loose w mean mg mb news} {c hn : Addr} {tk : Tok} {x : PySem.Str} {tn : Tok} {rest : Value} {at' : Int} {ta : Tok} {named pile host : Value} {subj : PySem.Str} {ts : Tok}
    (m1 : InL news c (tup [.ref hn, rest])) (m2 : InL news hn (tup [St "chars" tk, .str x tn])) (h1 : 0 ≤ at') (h2 : at' ≤ 100) (h4 : x.length ≤ 100) (h3 : subj.length ≤ 100) :
    ClaimX prog p loose w mean mg mb news 341 [.ref c, .int at' ta, named, .str subj ts, pile, host] (Chars news subj x rest named at') := by
  w_top off
  k_with_none
  k_with "r1" => first
    | (k_here; (with_reducible show wpAny _ _ (compareOp CmpOp.Eq (Value.ref _) (Value.str _ _)) _ _ _); k_dflt (refine' eq_tup_str ?k1Q9 ?k2Q9 ?_; (case k1Q9 => exact News.isTup (by k_asm) (by k_mem)); (case k2Q9 => ktr_units); k_whole))
  k_with "r2" => first
    | (k_here; (with_reducible show wpAny _ _ (compareOp CmpOp.NotIn (Value.str _ _) (Value.ref _)) _ _ _); (with_unfolding_all refine' notin_tuple_strs ?k1Q9 ?k2Q9 ?_; (case k1Q9 => exact kun_topT (by k_asm) (by k_asm) (by k_is)); (case k2Q9 => kde_strs); k_whole))
  k_with "r3" => first
    | (k_here; (with_reducible show wpAny _ _ (compareOp CmpOp.In (Value.str _ _) (Value.ref _)) _ _ _); (with_unfolding_all refine' in_tuple_strs ?k1Q9 ?k2Q9 ?_; (case k1Q9 => exact kun_topT (by k_asm) (by k_asm) (by k_is)); (case k2Q9 => kde_strs); k_whole))
  k_with "r4" => first
    | (k_here; (with_reducible show wpAny _ _ (callWith _ (Value.ref _) _ (backTo _ (starEach [] _)) []) _ _ _); k_dflt (refine' callWith_K0F ?k1Q9 ?k2Q9 ?k3Q9 ?_; (case k1Q9 => k_asm); (case k2Q9 => k_asm); (case k3Q9 => k_is); k_whole; try dsimp only [List.nil_append, List.cons_append]))
    | (k_here; (with_reducible show wpAny _ _ (callWith _ (Value.ref _) _ (backTo _ (starEach (_ :: _) _)) []) _ _ _); k_dflt (refine' callWith_K ?k1Q9 ?k2Q9 ?_ ?k3Q9 ?k4Q9; (case k1Q9 => k_asm); (case k2Q9 => k_is); (case k3Q9 => exact rfl); (case k4Q9 => exact rfl); k_whole))
    | (k_here; (with_reducible show wpAny _ _ (callWith _ (Value.ref _) _ (backTo _ (starEach [] _)) []) _ _ _); k_dflt (refine' callWith_M0 ?k1Q9 ?k2Q9 ?_; (case k1Q9 => k_meth); (case k2Q9 => k_is); k_whole; try dsimp only [List.nil_append, List.cons_append]))
  k_with "r5" => first
    | (k_here; (with_reducible show wpAny _ _ (subscriptTail _ _ (Value.ref _) (Value.int _ _)) _ _ _); k_dflt (refine' item_tupleT ?tQ9 ?aQ9 ?bQ9 ?cQ9 ?dQ9 ?_; (case tQ9 => exact News.isTup (by k_asm) (by k_mem)); (case aQ9 => decide); (case bQ9 => decide); (case cQ9 => rfl); (case dQ9 => rfl); k_whole))
  k_with "updp" => first | exact UpdP.head | (refine' UpdP.tail ?uQ9; (case uQ9 => k_extra "updp"))
  k_with "updq" => first | exact UpdQ.head | (refine' UpdQ.tail ?uQ9; (case uQ9 => k_extra "updq"))
  k_with "updq2" => first | exact UpdQ2.head | (refine' UpdQ2.tail ?uQ9; (case uQ9 => k_extra "updq2"))
  k_with "as_mem" => first | exact List.Mem.head _ | (refine' List.Mem.tail _ ?_; k_extra "as_mem")
  k_with "srt_ne" => ((rename Srt _ _ => hSrt); (first | exact Srt.ne0 hSrt (by k_extra "as_mem") | (replace hSrt := Srt.tail hSrt; k_extra "srt_ne")))
  k_with "mem" => first
    | (refine' InL.out ?_; with_reducible assumption)
  k_with "upd" => first
    | ((rename Srt _ _ => hSrt); (refine' Srt.upd hSrt rfl (by k_extra "as_mem") ?uQ9); (case uQ9 => k_extra "updp"))
  k_with "updF" => first
    | ((rename Srt _ _ => hSrt); (refine' Srt.updF hSrt rfl (by k_extra "as_mem") ?uQ9); (case uQ9 => k_extra "updq"))
  intro dpZ unZ gdZ cnZ csZ aZ ccdZ clZ outerZ AZ baseZ hZ LZ mZ sZ QZ EZ BZ FZ XZ NZ TZ hkZ hdpZ hunZ hret
  refine wpAny_call ?_
  k_dflt cell_enter
  k_steps
  all_goals (first
    | (refine' hret _ _ _ _ (Or.inl ⟨?oc, _, _, rfl, rfl, ?o1, ⟨_, rfl⟩⟩) ?f ?n; (case n => (refine' cb_drop ?cbN ?cbS; (case cbN => assumption); (case cbS => kcj_all))); (case f => k_asm); all_goals (kopn_split; first | assumption | omega | exact allLt_of (by assumption) | fail "k_ord"))
    | (refine' hret _ _ _ _ (Or.inr ⟨?pc, rfl, rfl⟩) ?pf ?pn; (case pn => (refine' cb_drop ?cbN ?cbS; (case cbN => assumption); (case cbS => kcj_all))); (case pf => k_asm); all_goals (kopn_split; first | assumption | omega | exact allLt_of (by assumption) | fail "k_ord")))
theorem step_c {prog p loose w mean mg mb l} {g : Obj → List (Addr × Obj)} {hx hd : Addr} {t1 t2 t3 t4 t5 t6 tl : Tok} {v1 v3 v4 v6 : Value} {k : Int} {tk : Tok}
    (m1 : InL l hx (instObj 407 hd)) (m2 : InL l hd (hostD w t1 t2 t3 t4 t5 t6 tl v1 v3 v4 v6 k tk)) (hU : UpdF hd (hostD w t1 t2 t3 t4 t5 t6 tl v1 v3 v4 v6 k tk) l g) (hne : hx ≠ hd) (hk0 : 0 ≤ k) (hk1 : k ≤ 1000) :
    ClaimX prog p loose w mean mg mb l 404 [.ref hx] (fun nw v => v = .none ∧ ∃ t, nw = g (hostD w t1 t2 t3 t4 t5 t6 tl v1 v3 v4 v6 (k + 1) t)) := by
  w_top off
  k_with_none
  k_with "r1" => first
    | (k_here; (with_reducible show wpAny _ _ (compareOp CmpOp.Eq (Value.ref _) (Value.str _ _)) _ _ _); k_dflt (refine' eq_tup_str ?k1Q9 ?k2Q9 ?_; (case k1Q9 => exact News.isTup (by k_asm) (by k_mem)); (case k2Q9 => ktr_units); k_whole))
  k_with "r2" => first
    | (k_here; (with_reducible show wpAny _ _ (compareOp CmpOp.NotIn (Value.str _ _) (Value.ref _)) _ _ _); (with_unfolding_all refine' notin_tuple_strs ?k1Q9 ?k2Q9 ?_; (case k1Q9 => exact kun_topT (by k_asm) (by k_asm) (by k_is)); (case k2Q9 => kde_strs); k_whole))
  k_with "r3" => first
    | (k_here; (with_reducible show wpAny _ _ (compareOp CmpOp.In (Value.str _ _) (Value.ref _)) _ _ _); (with_unfolding_all refine' in_tuple_strs ?k1Q9 ?k2Q9 ?_; (case k1Q9 => exact kun_topT (by k_asm) (by k_asm) (by k_is)); (case k2Q9 => kde_strs); k_whole))
  k_with "r4" => first
    | (k_here; (with_reducible show wpAny _ _ (callWith _ (Value.ref _) _ (backTo _ (starEach [] _)) []) _ _ _); k_dflt (refine' callWith_K0F ?k1Q9 ?k2Q9 ?k3Q9 ?_; (case k1Q9 => k_asm); (case k2Q9 => k_asm); (case k3Q9 => k_is); k_whole; try dsimp only [List.nil_append, List.cons_append]))
    | (k_here; (with_reducible show wpAny _ _ (callWith _ (Value.ref _) _ (backTo _ (starEach (_ :: _) _)) []) _ _ _); k_dflt (refine' callWith_K ?k1Q9 ?k2Q9 ?_ ?k3Q9 ?k4Q9; (case k1Q9 => k_asm); (case k2Q9 => k_is); (case k3Q9 => exact rfl); (case k4Q9 => exact rfl); k_whole))
    | (k_here; (with_reducible show wpAny _ _ (callWith _ (Value.ref _) _ (backTo _ (starEach [] _)) []) _ _ _); k_dflt (refine' callWith_M0 ?k1Q9 ?k2Q9 ?_; (case k1Q9 => k_meth); (case k2Q9 => k_is); k_whole; try dsimp only [List.nil_append, List.cons_append]))
  k_with "r5" => first
    | (k_here; (with_reducible show wpAny _ _ (subscriptTail _ _ (Value.ref _) (Value.int _ _)) _ _ _); k_dflt (refine' item_tupleT ?tQ9 ?aQ9 ?bQ9 ?cQ9 ?dQ9 ?_; (case tQ9 => exact News.isTup (by k_asm) (by k_mem)); (case aQ9 => decide); (case bQ9 => decide); (case cQ9 => rfl); (case dQ9 => rfl); k_whole))
  k_with "updp" => first | exact UpdP.head | (refine' UpdP.tail ?uQ9; (case uQ9 => k_extra "updp"))
  k_with "updq" => first | exact UpdQ.head | (refine' UpdQ.tail ?uQ9; (case uQ9 => k_extra "updq"))
  k_with "updq2" => first | exact UpdQ2.head | (refine' UpdQ2.tail ?uQ9; (case uQ9 => k_extra "updq2"))
  k_with "as_mem" => first | exact List.Mem.head _ | (refine' List.Mem.tail _ ?_; k_extra "as_mem")
  k_with "srt_ne" => ((rename Srt _ _ => hSrt); (first | exact Srt.ne0 hSrt (by k_extra "as_mem") | (replace hSrt := Srt.tail hSrt; k_extra "srt_ne")))
  k_with "mem" => first
    | exact mem_g2 (by with_reducible assumption) (by with_reducible assumption) (by with_reducible assumption)
    | exact mem_g1 (by with_reducible assumption)
    | (refine' InL.out ?_; with_reducible assumption)
  k_with "upd" => first
    | exact UpdF.to (by with_reducible assumption)
    | ((rename Srt _ _ => hSrt); (refine' Srt.upd hSrt rfl (by k_extra "as_mem") ?uQ9); (case uQ9 => k_extra "updp"))
  k_with "updF" => first
    | ((rename Srt _ _ => hSrt); (refine' Srt.updF hSrt rfl (by k_extra "as_mem") ?uQ9); (case uQ9 => k_extra "updq"))
  intro dpZ unZ gdZ cnZ csZ aZ ccdZ clZ outerZ AZ baseZ hZ LZ mZ sZ QZ EZ BZ FZ XZ NZ TZ hkZ hdpZ hunZ hret
  refine wpAny_call ?_
  k_dflt cell_enter
  k_steps
  all_goals (refine' hret _ _ _ _ ⟨rfl, _, rfl⟩ ?f ?n; (case n => assumption); (case f => k_asm))
theorem all_of_allLt {d : Addr} {l : List (Addr × Obj)} (h : AllLt d l) : ∀ p ∈ l, @LT.lt Nat _ p.1 d := by
  induction l with
  | nil => intro p hp; exact nomatch hp
  | cons q r ih =>
    have h' : @LT.lt Nat _ q.1 d ∧ AllLt d r := h
    intro p hp
    rcases List.mem_cons.mp hp with e | hp
    · rw [e]; exact h'.1
    · exact ih h'.2 p hp
theorem at_ref {M : Model} {A : Around} {E : Value → Shared → Prop} {s : Shared} {a : Addr} {vs : List Value} {Q : Value → Shared → Prop} (n : Nat) (e0 : Nat.beq a n = true) (h : wpAny M A (call (.ref a) vs) Q E s) : wpAny M A (call (.ref a) vs) Q E s := h
theorem Srt.ne {as : List Addr} {base : List (Addr × Obj)} {pre : List Addr} {a b : Addr} (S : Srt (pre ++ a :: as) base) (h : b ∈ as) : a ≠ b := by
  have h1 := (List.pairwise_append.mp S.1).2.1
  exact (Nat.ne_of_lt ((List.pairwise_cons.mp h1).1 b h)).symm
theorem Srt.tail {as : List Addr} {base : List (Addr × Obj)} {a : Addr} (S : Srt (a :: as) base) : Srt as base := ⟨(List.pairwise_cons.mp S.1).2, fun x hx => S.2 x (List.mem_cons_of_mem _ hx)⟩
theorem Srt.ne0 {as : List Addr} {base : List (Addr × Obj)} {a b : Addr} (S : Srt (a :: as) base) (h : b ∈ as) : a ≠ b := (Nat.ne_of_lt ((List.pairwise_cons.mp S.1).1 b h)).symm
theorem UpdF2.mk {d : Addr} {o : Obj} {g1 : Obj → List (Addr × Obj)} {g2 : Obj → Obj → List (Addr × Obj)} (h : ∀ o', UpdF d o (g1 o') (g2 o')) : UpdF2 d o g1 g2 := h
inductive UpdQ2 (d : Addr) (o : Obj) : (Obj → List (Addr × Obj)) → (Obj → Obj → List (Addr × Obj)) → Prop
  | head {r : Obj → List (Addr × Obj)} : UpdQ2 d o (fun x => (d, o) :: r x) (fun x y => (d, y) :: r x)
  | tail {p : Obj → Addr × Obj} {r : Obj → List (Addr × Obj)} {g : Obj → Obj → List (Addr × Obj)} : UpdQ2 d o r g → UpdQ2 d o (fun x => p x :: r x) (fun x y => p x :: g x y)
theorem UpdQ2.at {d : Addr} {o : Obj} {g1 : Obj → List (Addr × Obj)} {g2 : Obj → Obj → List (Addr × Obj)} (u : UpdQ2 d o g1 g2) (x : Obj) : UpdQ d o (g1 x) (g2 x) := by
  induction u with
  | head => exact UpdQ.head
  | tail _ ih => exact UpdQ.tail ih
theorem Srt.updF2 {as : List Addr} {base : List (Addr × Obj)} {d : Addr} {o : Obj} {g1 : Obj → List (Addr × Obj)} {g2 : Obj → Obj → List (Addr × Obj)} (S : Srt as base) (e : ∀ x, (g1 x).map (·.1) = as ++ base.map (·.1)) (hd : d ∈ as) (u : UpdQ2 d o g1 g2) : UpdF2 d o g1 g2 :=
  fun x => S.updF (e x) hd (u.at x)
theorem HoldsW.nil {prog : PySem.Program} {w : World} {o : Obj} (h : o.IsDictOf (strKind prog w) []) : HoldsW prog w o [] := ⟨_, h, PyProof.V.FlatPairs.nil⟩
theorem suf_nil {l : List (Addr × Obj)} : ∀ q ∈ l, q ∈ l := fun _ h => h
theorem suf_cons {p : Addr × Obj} {l l' : List (Addr × Obj)} (h : ∀ q ∈ l, q ∈ l') : ∀ q ∈ l, q ∈ p :: l' := fun q hq => List.mem_cons_of_mem _ (h q hq)
theorem unr_end_srt {h₀ : Heap} {L I : Addr} {it : Obj} {rest : (PySem.Str → Option Value) → List (Addr × Obj) → Prop} {s₁ : Shared} {h' : Heap} {tk : Nat} {m' : PySem.Str → Option Value} {as : List Addr} {base all : List (Addr × Obj)} (S : Srt as base) (F : Fr h₀ L h' m') (N : News h₀ L h' all)
    (sub : ∀ p ∈ base, p ∈ all) (hI : (I, it) ∈ all) (hs : I ∈ as) (S' : Srt [] base) (r : rest m' base) : UnrEnd h₀ L s₁ I it rest { s₁ with heap := h', toks := tk } :=
  UnrEnd.intro F N base (fun p hp => by
    rcases List.mem_cons.mp hp with rfl | hp
    · exact hI
    · exact sub p hp) (fun p hp e => by
    have := S.2 I hs p hp
    rw [e] at this
    exact Nat.lt_irrefl _ this) r
section
variable {prog p : PySem.Program} {loose : List PySem.Str} {w : World} {mean : ExcName → Option Value} {mg mb : PySem.Str → Option Value} {news bs : List (Addr × Obj)} {as : List Addr}
  {dp un : Nat} {gd : Option (List Code)} {cn : PySem.Str} {cs : Scope} {a0 : Addr} {ccd : Value} {cl : List (PySem.Str × Addr)} {outer : List Env} {A₀ : Around} {base h₀ : Heap} {L : Addr} {m : PySem.Str → Option Value} {s : Shared} {Q E : Value → Shared → Prop}
  {c hn : Addr} {tk : Tok} {rest : Value} {at' : Int} {ta : Tok} {named pile : Value} {subj : PySem.Str} {ts : Tok}
theorem cat_use {a b host : Value} (B : Below A₀ base outer h₀) (F : Fr h₀ L s.heap m) (X : (hd.heap_1 w.params).In h₀) (N : News h₀ L s.heap news) (T : Top p loose mean mg mb h₀) (hk : cs.kind = .function) (hdp : dp + 20 < recursionLimit) (hun : un + 60 < cLine)
    (m1 : InL news c (tup [.ref hn, rest])) (m2 : InL news hn (tup [St "cat" tk, a, b])) (S : Srt as bs) (e : news.map (·.1) = as ++ bs.map (·.1))
    (k : ∀ (x y z : Addr) (h' : Heap) (tk' : Nat), Srt (z :: y :: x :: as) bs → Fr h₀ L h' m → News h₀ L h' ((z, tup [.ref y, .int at' ta, named]) :: (y, tup [a, .ref x]) :: (x, tup [b, rest]) :: news) → Q (.ref z) { s with heap := h', toks := tk' }) :
    wpAny (model prog w) (ktrTop dp un gd cn cs L a0 ccd cl outer) (call (.ref 341) [.ref c, .int at' ta, named, .str subj ts, pile, host]) Q E s := by
  refine ClaimX.use (adv_cat m1 m2) B F X N T hk hdp hun ?_
  rintro v nw h' tk' ⟨x, y, z, rfl, rfl, o1, o2, o3, o4, o5, o6⟩ F' N'
  exact k x y z h' tk' (Srt.push1 o4 (Srt.push1 o2 (Srt.push (all_of_allLt o1) S e))) F' N'
theorem now_use {a rf host : Value} (B : Below A₀ base outer h₀) (F : Fr h₀ L s.heap m) (X : (hd.heap_1 w.params).In h₀) (N : News h₀ L s.heap news) (T : Top p loose mean mg mb h₀) (hk : cs.kind = .function) (hdp : dp + 20 < recursionLimit) (hun : un + 60 < cLine)
    (m1 : InL news c (tup [.ref hn, rest])) (m2 : InL news hn (tup [St "now" tk, a, rf])) (S : Srt as bs) (e : news.map (·.1) = as ++ bs.map (·.1))
    (k : ∀ (e' x y z : Addr) (t : Tok) (h' : Heap) (tk' : Nat), Srt (z :: y :: x :: e' :: as) bs → Fr h₀ L h' m → News h₀ L h' ((z, tup [.ref y, .int at' ta, named]) :: (y, tup [a, .ref x]) :: (x, tup [.ref e', rest]) :: (e', tup [St "end now" t, rf, .int at' ta]) :: news) → Q (.ref z) { s with heap := h', toks := tk' }) :
    wpAny (model prog w) (ktrTop dp un gd cn cs L a0 ccd cl outer) (call (.ref 341) [.ref c, .int at' ta, named, .str subj ts, pile, host]) Q E s := by
  refine ClaimX.use (adv_now m1 m2) B F X N T hk hdp hun ?_
  rintro v nw h' tk' ⟨e', x, y, z, t, rfl, rfl, o1, o2, o3, o4, o5, o6, o7, o8, o9, o10⟩ F' N'
  exact k e' x y z t h' tk' (Srt.push1 o9 (Srt.push1 o5 (Srt.push1 o2 (Srt.push (all_of_allLt o1) S e)))) F' N'
theorem tab_use {n : Int} {tn : Tok} {host : Value} (B : Below A₀ base outer h₀) (F : Fr h₀ L s.heap m) (X : (hd.heap_1 w.params).In h₀) (N : News h₀ L s.heap news) (T : Top p loose mean mg mb h₀) (hk : cs.kind = .function) (hdp : dp + 20 < recursionLimit) (hun : un + 60 < cLine)
    (m1 : InL news c (tup [.ref hn, rest])) (m2 : InL news hn (tup [St "tab" tk, .int n tn])) (S : Srt as bs) (e : news.map (·.1) = as ++ bs.map (·.1)) (h1 : at' ≤ n) (h2 : n ≤ subj.length) (h3 : subj.length ≤ 100)
    (k : ∀ (z : Addr) (h' : Heap) (tk' : Nat), Srt (z :: as) bs → Fr h₀ L h' m → News h₀ L h' ((z, tup [rest, .int n tn, named]) :: news) → Q (.ref z) { s with heap := h', toks := tk' }) :
    wpAny (model prog w) (ktrTop dp un gd cn cs L a0 ccd cl outer) (call (.ref 341) [.ref c, .int at' ta, named, .str subj ts, pile, host]) Q E s := by
  refine ClaimX.use (adv_tab m1 m2 h1 h2 h3) B F X N T hk hdp hun ?_
  rintro v nw h' tk' ⟨z, xs, rfl, rfl, o1, rfl⟩ F' N'
  exact k z h' tk' (Srt.push (all_of_allLt o1) S e) F' N'
theorem len_use {n : Int} {tn : Tok} {host : Value} (B : Below A₀ base outer h₀) (F : Fr h₀ L s.heap m) (X : (hd.heap_1 w.params).In h₀) (N : News h₀ L s.heap news) (T : Top p loose mean mg mb h₀) (hk : cs.kind = .function) (hdp : dp + 20 < recursionLimit) (hun : un + 60 < cLine)
    (m1 : InL news c (tup [.ref hn, rest])) (m2 : InL news hn (tup [St "len" tk, .int n tn])) (S : Srt as bs) (e : news.map (·.1) = as ++ bs.map (·.1)) (h1 : 0 ≤ at') (h2 : 0 ≤ n) (h4 : at' + n ≤ subj.length) (h3 : subj.length ≤ 100)
    (k : ∀ (z : Addr) (t : Tok) (h' : Heap) (tk' : Nat), Srt (z :: as) bs → Fr h₀ L h' m → News h₀ L h' ((z, tup [rest, .int (at' + n) t, named]) :: news) → Q (.ref z) { s with heap := h', toks := tk' }) :
    wpAny (model prog w) (ktrTop dp un gd cn cs L a0 ccd cl outer) (call (.ref 341) [.ref c, .int at' ta, named, .str subj ts, pile, host]) Q E s := by
  refine ClaimX.use (adv_len m1 m2 h1 h2 h4 h3) B F X N T hk hdp hun ?_
  rintro v nw h' tk' ⟨z, xs, rfl, rfl, o1, t, rfl⟩ F' N'
  exact k z t h' tk' (Srt.push (all_of_allLt o1) S e) F' N'
theorem end_use {hx hd' r rd rl vd ll : Addr} {o : Obj} {t1 t2 t3 t4 t5 t6 tl k1 k2 k3 k4 : Tok} {v4 kv : Value} {kk : Int} {tst : Tok} {b : Int} {tb : Tok} {n0 n1 : Nat} {g1 : Obj → List (Addr × Obj)} {g2 : Obj → Obj → List (Addr × Obj)}
    (B : Below A₀ base outer h₀) (F : Fr h₀ L s.heap m) (X : (hd.heap_1 w.params).In h₀) (N : News h₀ L s.heap news) (T : Top p loose mean mg mb h₀) (hk : cs.kind = .function) (hdp : dp + 20 < recursionLimit) (hun : un + 60 < cLine)
    (m1 : InL news c (tup [.ref hn, rest])) (m2 : InL news hn (tup [St "end now" tk, .ref r, .int b tb]))
    (m3 : InL news hx (instObj 407 hd')) (m4 : InL news hd' (hostD w t1 t2 t3 t4 t5 t6 tl (.ref vd) (.ref rl) v4 (.ref ll) kk tst))
    (m5 : InL news r (instObj 110 rd)) (m6 : InL news rd (refD w k1 k2 k3 k4 kv)) (m7 : InL news rl (W.listOf #[] n0)) (m8 : InL news vd o)
    (lo : (vd == sysModules) = false) (hdi : HoldsW prog w o [])
    (hU1 : UpdF vd o news g1) (hU2 : UpdF2 ll (W.listOf #[] n1) g1 g2) (n1' : hx ≠ vd) (n2' : hd' ≠ vd) (n3' : r ≠ vd) (n4' : rd ≠ vd)
    (h1 : 0 ≤ b) (h2 : b ≤ at') (h3 : at' ≤ subj.length) (h4 : subj.length ≤ 100) (S : Srt as bs) (e : ∀ o' oL, (g2 o' oL).map (·.1) = as ++ bs.map (·.1))
    (k : ∀ (z : Addr) (o' oL : Obj) (h' : Heap) (tk' : Nat), HoldsW prog w o' [(PyData.str (PySem.Str.ofString "W"), PyData.str (Txt.slice subj (some b) (some at')))] → Srt (z :: as) bs → Fr h₀ L h' m → News h₀ L h' ((z, tup [rest, .int at' ta, named]) :: g2 o' oL) → Q (.ref z) { s with heap := h', toks := tk' }) :
    wpAny (model prog w) (ktrTop dp un gd cn cs L a0 ccd cl outer) (call (.ref 341) [.ref c, .int at' ta, named, .str subj ts, pile, .ref hx]) Q E s := by
  refine ClaimX.use (adv_endnow m1 m2 m3 m4 m5 m6 m7 m8 lo hdi hU1 hU2 n1' n2' n3' n4' h1 h2 h3 h4) B F X N T hk hdp hun ?_
  rintro v nw h' tk' ⟨z, o', oL, rfl, rfl, o1, hW⟩ F' N'
  exact k z o' oL h' tk' hW (Srt.push (all_of_allLt o1) S (e o' oL)) F' N'
theorem delay_use {nm hx hd' vd : Addr} {o : Obj} {t1 t2 t3 t4 t5 t6 tl k1 k2 : Tok} {v3 v4 v6 : Value} {kk : Int} {tst : Tok} {x : PySem.Str}
    (B : Below A₀ base outer h₀) (F : Fr h₀ L s.heap m) (X : (hd.heap_1 w.params).In h₀) (N : News h₀ L s.heap news) (T : Top p loose mean mg mb h₀) (hk : cs.kind = .function) (hdp : dp + 20 < recursionLimit) (hun : un + 60 < cLine)
    (m1 : InL news c (tup [.ref hn, rest])) (m2 : InL news hn (tup [St "delay" tk, .ref nm])) (m22 : InL news nm (tup [St "name" k1, St "W" k2]))
    (m3 : InL news hx (instObj 407 hd')) (m4 : InL news hd' (hostD w t1 t2 t3 t4 t5 t6 tl (.ref vd) v3 v4 v6 kk tst))
    (m8 : InL news vd o) (lo : (vd == sysModules) = false) (hdi : HoldsW prog w o [(PyData.str (PySem.Str.ofString "W"), PyData.str x)])
    (hx1 : x.length ≤ 100) (S : Srt as bs) (e : news.map (·.1) = as ++ bs.map (·.1))
    (k : ∀ (q y z : Addr) (t tx : Tok) (h' : Heap) (tk' : Nat), Srt (z :: y :: q :: as) bs → Fr h₀ L h' m → News h₀ L h' ((z, tup [.ref y, .int at' ta, named]) :: (y, tup [.ref q, rest]) :: (q, tup [St "chars" t, .str x tx]) :: news) → Q (.ref z) { s with heap := h', toks := tk' }) :
    wpAny (model prog w) (ktrTop dp un gd cn cs L a0 ccd cl outer) (call (.ref 341) [.ref c, .int at' ta, named, .str subj ts, pile, .ref hx]) Q E s := by
  refine ClaimX.use (adv_delay m1 m2 m22 m3 m4 m8 lo hdi hx1) B F X N T hk hdp hun ?_
  rintro v nw h' tk' ⟨q, y, z, t, tx, rfl, rfl, o1, o2, o3⟩ F' N'
  exact k q y z t tx h' tk' (Srt.push1 o3 (Srt.push1 o2 (Srt.push (all_of_allLt o1) S e))) F' N'
theorem step_use {hx hd' : Addr} {t1 t2 t3 t4 t5 t6 tl : Tok} {v1 v3 v4 v6 : Value} {kk : Int} {tst : Tok} {g : Obj → List (Addr × Obj)}
    (B : Below A₀ base outer h₀) (F : Fr h₀ L s.heap m) (X : (hd.heap_1 w.params).In h₀) (N : News h₀ L s.heap news) (T : Top p loose mean mg mb h₀) (hk : cs.kind = .function) (hdp : dp + 20 < recursionLimit) (hun : un + 60 < cLine)
    (m1 : InL news hx (instObj 407 hd')) (m2 : InL news hd' (hostD w t1 t2 t3 t4 t5 t6 tl v1 v3 v4 v6 kk tst)) (hU : UpdF hd' (hostD w t1 t2 t3 t4 t5 t6 tl v1 v3 v4 v6 kk tst) news g) (hne : hx ≠ hd') (hk0 : 0 ≤ kk) (hk1 : kk ≤ 1000)
    (k : ∀ (t : Tok) (h' : Heap) (tk' : Nat), Fr h₀ L h' m → News h₀ L h' (g (hostD w t1 t2 t3 t4 t5 t6 tl v1 v3 v4 v6 (kk + 1) t)) → Q .none { s with heap := h', toks := tk' }) :
    wpAny (model prog w) (ktrTop dp un gd cn cs L a0 ccd cl outer) (call (.ref 404) [.ref hx]) Q E s := by
  refine ClaimX.use (step_c m1 m2 hU hne hk0 hk1) B F X N T hk hdp hun ?_
  rintro v nw h' tk' ⟨rfl, t, rfl⟩ F' N'
  exact k t h' tk' F' N'
end
theorem agF_1 {word : PySem.Str} {cut many : Int} (h : (if (word.length : Int) - many < cut then (word.length : Int) - many else cut) ≤ if cut - many > 0 then cut - many else 0) : agF word cut many = true := if_pos h
theorem agF_2 {word : PySem.Str} {cut many : Int} {b : Bool} (h : ¬ (if (word.length : Int) - many < cut then (word.length : Int) - many else cut) ≤ if cut - many > 0 then cut - many else 0)
    (hc : (Txt.slice word (some ((if cut - many > 0 then cut - many else 0) + many)) (some ((if cut - many > 0 then cut - many else 0) + many + (Txt.slice word (some (if cut - many > 0 then cut - many else 0)) (some ((if cut - many > 0 then cut - many else 0) + ((if (word.length : Int) - many < cut then (word.length : Int) - many else cut) - if cut - many > 0 then cut - many else 0)))).length)) ==
      Txt.slice word (some (if cut - many > 0 then cut - many else 0)) (some ((if cut - many > 0 then cut - many else 0) + ((if (word.length : Int) - many < cut then (word.length : Int) - many else cut) - if cut - many > 0 then cut - many else 0)))) = b) : agF word cut many = b := (if_neg h).trans hc
theorem Ret.endB {h₀ h' : Heap} {L : Addr} {m : PySem.Str → Option Value} {news : List (Addr × Obj)} {s : Shared} {Q : Value → Shared → Prop} {b b' : Bool} {tk' : Nat} (hret : Ret h₀ L m news s Q (fun _ => .bool b)) (F : Fr h₀ L h' m) (N : News h₀ L h' news) (e : b = b') :
    Q (.bool b') { s with heap := h', toks := tk' } := by
  subst e
  exact hret 0 h' tk' F N
theorem agrees_c (prog p loose w mean mg mb news) (word : PySem.Str) (tw : Tok) (cut : Int) (tc : Tok) (many : Int) (tm : Tok) (hp1 : 1 ≤ many) (hp2 : 0 ≤ cut) (hp3 : cut ≤ word.length) (hp5 : word.length ≤ 6) :
    Claim prog p loose w mean mg mb news 430 [.str word tw, .int cut tc, .int many tm] (fun _ => .bool (agF word cut many)) := by
  w_top off
  k_with_none
  k_with "r1" => first
    | (k_here; (with_reducible show wpAny _ _ (compareOp CmpOp.Eq (Value.ref _) (Value.str _ _)) _ _ _); k_dflt (refine' eq_tup_str ?k1Q9 ?k2Q9 ?_; (case k1Q9 => exact News.isTup (by k_asm) (by k_mem)); (case k2Q9 => ktr_units); k_whole))
  k_with "r2" => first
    | (k_here; (with_reducible show wpAny _ _ (compareOp CmpOp.NotIn (Value.str _ _) (Value.ref _)) _ _ _); (with_unfolding_all refine' notin_tuple_strs ?k1Q9 ?k2Q9 ?_; (case k1Q9 => exact kun_topT (by k_asm) (by k_asm) (by k_is)); (case k2Q9 => kde_strs); k_whole))
  k_with "r3" => first
    | (k_here; (with_reducible show wpAny _ _ (compareOp CmpOp.In (Value.str _ _) (Value.ref _)) _ _ _); (with_unfolding_all refine' in_tuple_strs ?k1Q9 ?k2Q9 ?_; (case k1Q9 => exact kun_topT (by k_asm) (by k_asm) (by k_is)); (case k2Q9 => kde_strs); k_whole))
  k_with "r4" => first
    | (k_here; (with_reducible show wpAny _ _ (callWith _ (Value.ref _) _ (backTo _ (starEach [] _)) []) _ _ _); k_dflt (refine' callWith_K0F ?k1Q9 ?k2Q9 ?k3Q9 ?_; (case k1Q9 => k_asm); (case k2Q9 => k_asm); (case k3Q9 => k_is); k_whole; try dsimp only [List.nil_append, List.cons_append]))
    | (k_here; (with_reducible show wpAny _ _ (callWith _ (Value.ref _) _ (backTo _ (starEach (_ :: _) _)) []) _ _ _); k_dflt (refine' callWith_K ?k1Q9 ?k2Q9 ?_ ?k3Q9 ?k4Q9; (case k1Q9 => k_asm); (case k2Q9 => k_is); (case k3Q9 => exact rfl); (case k4Q9 => exact rfl); k_whole))
    | (k_here; (with_reducible show wpAny _ _ (callWith _ (Value.ref _) _ (backTo _ (starEach [] _)) []) _ _ _); k_dflt (refine' callWith_M0 ?k1Q9 ?k2Q9 ?_; (case k1Q9 => k_meth); (case k2Q9 => k_is); k_whole; try dsimp only [List.nil_append, List.cons_append]))
  k_with "r5" => first
    | (k_here; (with_reducible show wpAny _ _ (subscriptTail _ _ (Value.ref _) (Value.int _ _)) _ _ _); k_dflt (refine' item_tupleT ?tQ9 ?aQ9 ?bQ9 ?cQ9 ?dQ9 ?_; (case tQ9 => exact News.isTup (by k_asm) (by k_mem)); (case aQ9 => decide); (case bQ9 => decide); (case cQ9 => rfl); (case dQ9 => rfl); k_whole))
  k_with "updp" => first | exact UpdP.head | (refine' UpdP.tail ?uQ9; (case uQ9 => k_extra "updp"))
  k_with "updq" => first | exact UpdQ.head | (refine' UpdQ.tail ?uQ9; (case uQ9 => k_extra "updq"))
  k_with "updq2" => first | exact UpdQ2.head | (refine' UpdQ2.tail ?uQ9; (case uQ9 => k_extra "updq2"))
  k_with "as_mem" => first | exact List.Mem.head _ | (refine' List.Mem.tail _ ?_; k_extra "as_mem")
  k_with "srt_ne" => ((rename Srt _ _ => hSrt); (first | exact Srt.ne0 hSrt (by k_extra "as_mem") | (replace hSrt := Srt.tail hSrt; k_extra "srt_ne")))
  k_with "upd" => first
    | ((rename Srt _ _ => hSrt); (refine' Srt.upd hSrt rfl (by k_extra "as_mem") ?uQ9); (case uQ9 => k_extra "updp"))
  k_with "updF" => first
    | ((rename Srt _ _ => hSrt); (refine' Srt.updF hSrt rfl (by k_extra "as_mem") ?uQ9); (case uQ9 => k_extra "updq"))
  k_with "use" => first
    | (k_here; (k_dflt ((with_reducible refine at_ref 404 ?gdQ9 ?_); (case gdQ9 => exact rfl))); (rename Srt _ _ => hSrt); k_dflt (refine' step_use ?kBQ9 ?kFQ9 ?kXQ9 ?kNQ9 ?kTQ9 ?kkQ9 ?kdQ9 ?kuQ9 ?m1Q9 ?m2Q9 ?hUQ9 ?hnQ9 ?h0Q9 ?h1Q9 ?_; ((case kBQ9 => k_asm); (case kFQ9 => k_asm); (case kXQ9 => k_asm); (case kNQ9 => k_asm); (case kTQ9 => k_asm); (case kkQ9 => first | exact rfl | assumption); (case kdQ9 => ktr_room); (case kuQ9 => ktr_units)); (case m1Q9 => exact InL.mk (by k_mem)); (case m2Q9 => exact InL.mk (by k_mem)); (case hUQ9 => k_updF); (case hnQ9 => k_extra "srt_ne"); (case h0Q9 => omega); (case h1Q9 => omega); k_whole); (intro t9 h9 tk9 F9 N9); (try dsimp only at N9); (try k_sweep); (try dsimp only); (try k_fold))
    | (k_here; (k_dflt ((with_reducible refine at_ref 341 ?gdQ9 ?_); (case gdQ9 => exact rfl))); (rename Srt _ _ => hSrt); k_dflt (refine' delay_use ?kBQ9 ?kFQ9 ?kXQ9 ?kNQ9 ?kTQ9 ?kkQ9 ?kdQ9 ?kuQ9 ?m1Q9 ?m2Q9 ?m22Q9 ?m3Q9 ?m4Q9 ?m8Q9 ?loQ9 ?hdiQ9 ?hxQ9 hSrt ?eQ9 ?_; ((case kBQ9 => k_asm); (case kFQ9 => k_asm); (case kXQ9 => k_asm); (case kNQ9 => k_asm); (case kTQ9 => k_asm); (case kkQ9 => first | exact rfl | assumption); (case kdQ9 => ktr_room); (case kuQ9 => ktr_units)); (case m1Q9 => exact InL.mk (by k_mem)); (case m2Q9 => exact InL.mk (by k_mem)); (case m22Q9 => exact InL.mk (by k_mem)); (case m3Q9 => exact InL.mk (by k_mem)); (case m4Q9 => exact InL.mk (by k_mem)); (case hdiQ9 => with_reducible assumption); (case m8Q9 => exact InL.mk (by k_mem)); (case loQ9 => k_asm); (case hxQ9 => exact Nat.le_trans (Txt.slice_le _ _ _) (by omega)); (case eQ9 => exact rfl); k_whole); clear hSrt; (intro q9 y9 z9 t9 tx9 h9 tk9 S9 F9 N9); (try k_sweep); (try dsimp only); (try k_fold))
    | (k_here; (k_dflt ((with_reducible refine at_ref 341 ?gdQ9 ?_); (case gdQ9 => exact rfl))); (rename Srt _ _ => hSrt); k_dflt (refine' end_use ?kBQ9 ?kFQ9 ?kXQ9 ?kNQ9 ?kTQ9 ?kkQ9 ?kdQ9 ?kuQ9 ?m1Q9 ?m2Q9 ?m3Q9 ?m4Q9 ?m5Q9 ?m6Q9 ?m7Q9 ?m8Q9 ?loQ9 ?hdiQ9 ?hU1Q9 ?hU2Q9 ?n1Q9 ?n2Q9 ?n3Q9 ?n4Q9 ?h1Q9 ?h2Q9 ?h3Q9 ?h4Q9 hSrt ?eQ9 ?_; ((case kBQ9 => k_asm); (case kFQ9 => k_asm); (case kXQ9 => k_asm); (case kNQ9 => k_asm); (case kTQ9 => k_asm); (case kkQ9 => first | exact rfl | assumption); (case kdQ9 => ktr_room); (case kuQ9 => ktr_units)); (case m1Q9 => exact InL.mk (by k_mem)); (case m2Q9 => exact InL.mk (by k_mem)); (case m3Q9 => exact InL.mk (by k_mem)); (case m4Q9 => exact InL.mk (by k_mem)); (case m5Q9 => exact InL.mk (by k_mem)); (case m6Q9 => exact InL.mk (by k_mem)); (case m7Q9 => exact InL.mk (by k_mem)); (case m8Q9 => exact InL.mk (by k_mem)); (case loQ9 => k_asm); (case hdiQ9 => exact HoldsW.nil (by k_asm)); (case hU1Q9 => k_updF); (case hU2Q9 => ((try dsimp only); (refine' Srt.updF2 hSrt (fun _ => rfl) (by k_extra "as_mem") ?uQ9); (case uQ9 => k_extra "updq2"))); (case n1Q9 => k_extra "srt_ne"); (case n2Q9 => k_extra "srt_ne"); (case n3Q9 => exact Ne.symm (by k_extra "srt_ne")); (case n4Q9 => exact Ne.symm (by k_extra "srt_ne")); (case h1Q9 => (first | omega | (split <;> omega) | ((repeat' split) <;> omega))); (case h2Q9 => (first | omega | (split <;> omega) | ((repeat' split) <;> omega))); (case h3Q9 => (first | omega | (split <;> omega) | ((repeat' split) <;> omega))); (case h4Q9 => (first | omega | (split <;> omega) | ((repeat' split) <;> omega))); (case eQ9 => (intro _ _; exact rfl)); k_whole); clear hSrt; (intro z9 o9 oL9 h9 tk9 hW9 S9 F9 N9); (try dsimp only at N9); (try k_sweep); (try dsimp only); (try k_fold))
    | (k_here; (k_dflt ((with_reducible refine at_ref 341 ?gdQ9 ?_); (case gdQ9 => exact rfl))); (rename Srt _ _ => hSrt); k_dflt (refine' cat_use ?kBQ9 ?kFQ9 ?kXQ9 ?kNQ9 ?kTQ9 ?kkQ9 ?kdQ9 ?kuQ9 ?m1Q9 ?m2Q9 hSrt ?eQ9 ?_; ((case kBQ9 => k_asm); (case kFQ9 => k_asm); (case kXQ9 => k_asm); (case kNQ9 => k_asm); (case kTQ9 => k_asm); (case kkQ9 => first | exact rfl | assumption); (case kdQ9 => ktr_room); (case kuQ9 => ktr_units)); (case m1Q9 => exact InL.mk (by k_mem)); (case m2Q9 => exact InL.mk (by k_mem)); (case eQ9 => exact rfl); k_whole); clear hSrt; (intro x9 y9 z9 h9 tk9 S9 F9 N9); (try k_sweep); (try dsimp only); (try k_fold))
    | (k_here; (k_dflt ((with_reducible refine at_ref 341 ?gdQ9 ?_); (case gdQ9 => exact rfl))); (rename Srt _ _ => hSrt); k_dflt (refine' now_use ?kBQ9 ?kFQ9 ?kXQ9 ?kNQ9 ?kTQ9 ?kkQ9 ?kdQ9 ?kuQ9 ?m1Q9 ?m2Q9 hSrt ?eQ9 ?_; ((case kBQ9 => k_asm); (case kFQ9 => k_asm); (case kXQ9 => k_asm); (case kNQ9 => k_asm); (case kTQ9 => k_asm); (case kkQ9 => first | exact rfl | assumption); (case kdQ9 => ktr_room); (case kuQ9 => ktr_units)); (case m1Q9 => exact InL.mk (by k_mem)); (case m2Q9 => exact InL.mk (by k_mem)); (case eQ9 => exact rfl); k_whole); clear hSrt; (intro e9 x9 y9 z9 t9 h9 tk9 S9 F9 N9); (try k_sweep); (try dsimp only); (try k_fold))
    | (k_here; (k_dflt ((with_reducible refine at_ref 341 ?gdQ9 ?_); (case gdQ9 => exact rfl))); (rename Srt _ _ => hSrt); k_dflt (refine' tab_use ?kBQ9 ?kFQ9 ?kXQ9 ?kNQ9 ?kTQ9 ?kkQ9 ?kdQ9 ?kuQ9 ?m1Q9 ?m2Q9 hSrt ?eQ9 ?h1Q9 ?h2Q9 ?h3Q9 ?_; ((case kBQ9 => k_asm); (case kFQ9 => k_asm); (case kXQ9 => k_asm); (case kNQ9 => k_asm); (case kTQ9 => k_asm); (case kkQ9 => first | exact rfl | assumption); (case kdQ9 => ktr_room); (case kuQ9 => ktr_units)); (case m1Q9 => exact InL.mk (by k_mem)); (case m2Q9 => exact InL.mk (by k_mem)); (case eQ9 => exact rfl); (case h1Q9 => (first | omega | (split <;> omega) | ((repeat' split) <;> omega))); (case h2Q9 => (first | omega | (split <;> omega) | ((repeat' split) <;> omega))); (case h3Q9 => (first | omega | (split <;> omega) | ((repeat' split) <;> omega))); k_whole); clear hSrt; (intro z9 h9 tk9 S9 F9 N9); (try k_sweep); (try dsimp only); (try k_fold))
    | (k_here; (k_dflt ((with_reducible refine at_ref 341 ?gdQ9 ?_); (case gdQ9 => exact rfl))); (rename Srt _ _ => hSrt); k_dflt (refine' len_use ?kBQ9 ?kFQ9 ?kXQ9 ?kNQ9 ?kTQ9 ?kkQ9 ?kdQ9 ?kuQ9 ?m1Q9 ?m2Q9 hSrt ?eQ9 ?h1Q9 ?h2Q9 ?h4Q9 ?h3Q9 ?_; ((case kBQ9 => k_asm); (case kFQ9 => k_asm); (case kXQ9 => k_asm); (case kNQ9 => k_asm); (case kTQ9 => k_asm); (case kkQ9 => first | exact rfl | assumption); (case kdQ9 => ktr_room); (case kuQ9 => ktr_units)); (case m1Q9 => exact InL.mk (by k_mem)); (case m2Q9 => exact InL.mk (by k_mem)); (case eQ9 => exact rfl); (case h1Q9 => (first | omega | (split <;> omega) | ((repeat' split) <;> omega))); (case h2Q9 => (first | omega | (split <;> omega) | ((repeat' split) <;> omega))); (case h4Q9 => (first | omega | (split <;> omega) | ((repeat' split) <;> omega))); (case h3Q9 => (first | omega | (split <;> omega) | ((repeat' split) <;> omega))); k_whole); clear hSrt; (intro z9 t9 h9 tk9 S9 F9 N9); (try k_sweep); (try dsimp only); (try k_fold))
    | (k_here; (k_dflt ((with_reducible refine at_ref 341 ?gdQ9 ?_); (case gdQ9 => exact rfl))); k_dflt (refine' ClaimX.use (adv_chars ?m1Q9 ?m2Q9 ?h1Q9 ?h2Q9 ?h4Q9 ?h3Q9) ?kBQ9 ?kFQ9 ?kXQ9 ?kNQ9 ?kTQ9 ?kkQ9 ?kdQ9 ?kuQ9 ?_; ((case kBQ9 => k_asm); (case kFQ9 => k_asm); (case kXQ9 => k_asm); (case kNQ9 => k_asm); (case kTQ9 => k_asm); (case kkQ9 => first | exact rfl | assumption); (case kdQ9 => ktr_room); (case kuQ9 => ktr_units)); (case m1Q9 => exact InL.mk (by k_mem)); (case m2Q9 => exact InL.mk (by k_mem)); (case h1Q9 => (first | omega | (split <;> omega) | ((repeat' split) <;> omega))); (case h2Q9 => (first | omega | (split <;> omega) | ((repeat' split) <;> omega))); (case h4Q9 => exact Nat.le_trans (Txt.slice_le _ _ _) (by omega)); (case h3Q9 => (first | omega | (split <;> omega) | ((repeat' split) <;> omega))); k_whole; (intro v9 nw9 h9 tk9 hR9 F9 N9); (rcases hR9 with ⟨hc9, z9, xs9, e1, e2, o1, t9, e3⟩ | ⟨hc9, e1, e2⟩) <;> (all_goals ((try subst e3); (subst e1); (subst e2); (try ((rename Srt _ _ => hSrt); (replace o1 := Srt.push (all_of_allLt o1) hSrt rfl); clear hSrt)); (try k_sweep); (try dsimp only); (try k_fold)))))
  k_with "unr" => first
    | ((rename Srt _ _ => hSrt); (refine' unr_end_srt hSrt ?eFQ9 ?eNQ9 ?esQ9 ?eIQ9 ?eiQ9 Srt.nil ?_); (case eFQ9 => k_asm); (case eNQ9 => k_asm); (case esQ9 => (repeat (first | exact suf_nil | refine suf_cons ?_))); (case eIQ9 => k_mem); (case eiQ9 => k_extra "as_mem"))
  intro dpZ unZ gdZ cnZ csZ aZ ccdZ clZ outerZ AZ baseZ hZ LZ mZ sZ QZ EZ BZ FZ XZ NZ TZ hkZ hdpZ hunZ hret
  refine wpAny_call ?_
  k_dflt cell_enter
  have S0 : Srt [] news := Srt.nil
  k_steps
  all_goals (refine' Ret.endB hret (by k_asm) (cb_drop (by k_asm) (by repeat (first | exact suf_nil | refine suf_cons ?_))) ?_)
  all_goals (first | exact agF_1 (by with_reducible assumption) | exact agF_2 (by with_reducible assumption) (by with_reducible assumption))
theorem Claim.use {prog p : PySem.Program} {loose : List PySem.Str} {w : World} {mean : ExcName → Option Value} {mg mb : PySem.Str → Option Value} {news : List (Addr × Obj)} {f : Addr} {vs : List Value} {R : Tok → Value} (C : Claim prog p loose w mean mg mb news f vs R)
  {dp un : Nat} {gd : Option (List Code)} {cn : PySem.Str} {cs : Scope} {a : Addr} {ccd : Value} {cl : List (PySem.Str × Addr)} {outer : List Env} {A₀ : Around} {base h₀ : Heap} {L : Addr} {m : PySem.Str → Option Value} {s : Shared} {Q E : Value → Shared → Prop}
  (B : Below A₀ base outer h₀) (F : Fr h₀ L s.heap m) (X : (hd.heap_1 w.params).In h₀) (N : News h₀ L s.heap news) (T : Top p loose mean mg mb h₀) (hk : cs.kind = .function)
  (hdp : dp + 40 < recursionLimit) (hun : un + 100 < cLine) (hret : Ret h₀ L m news s Q R) :
  wpAny (model prog w) (ktrTop dp un gd cn cs L a ccd cl outer) (call (.ref f) vs) Q E s := C _ _ _ _ _ _ _ _ _ _ _ _ _ _ _ _ _ B F X N T hk hdp hun hret
abbrev ClaimN (k : Nat) (prog p : PySem.Program) (loose : List PySem.Str) (w : World) (mean : ExcName → Option Value) (mg mb : PySem.Str → Option Value) (news : List (Addr × Obj)) (f : Addr) (vs : List Value) (R : Tok → Value) : Prop :=
  ∀ (dp un : Nat) (gd : Option (List Code)) (cn : PySem.Str) (cs : Scope) (a : Addr) (ccd : Value) (cl : List (PySem.Str × Addr)) (outer : List Env) (A₀ : Around) (base h₀ : Heap) (L : Addr) (m : PySem.Str → Option Value) (s : Shared) (Q E : Value → Shared → Prop),
    Below A₀ base outer h₀ → Fr h₀ L s.heap m → (hd.heap_1 w.params).In h₀ → News h₀ L s.heap news → Top p loose mean mg mb h₀ → cs.kind = .function →
    dp + (40 + 5 * k) < recursionLimit → un + (100 + 10 * k) < cLine → Ret h₀ L m news s Q R →
      wpAny (model prog w) (ktrTop dp un gd cn cs L a ccd cl outer) (call (.ref f) vs) Q E s
theorem ClaimN.use {k : Nat} {prog p : PySem.Program} {loose : List PySem.Str} {w : World} {mean : ExcName → Option Value} {mg mb : PySem.Str → Option Value} {news : List (Addr × Obj)} {f : Addr} {vs : List Value} {R : Tok → Value} (C : ClaimN k prog p loose w mean mg mb news f vs R)
  {dp un : Nat} {gd : Option (List Code)} {cn : PySem.Str} {cs : Scope} {a : Addr} {ccd : Value} {cl : List (PySem.Str × Addr)} {outer : List Env} {A₀ : Around} {base h₀ : Heap} {L : Addr} {m : PySem.Str → Option Value} {s : Shared} {Q E : Value → Shared → Prop}
  (B : Below A₀ base outer h₀) (F : Fr h₀ L s.heap m) (X : (hd.heap_1 w.params).In h₀) (N : News h₀ L s.heap news) (T : Top p loose mean mg mb h₀) (hk : cs.kind = .function)
  (hdp : dp + (40 + 5 * k) < recursionLimit) (hun : un + (100 + 10 * k) < cLine) (hret : Ret h₀ L m news s Q R) :
  wpAny (model prog w) (ktrTop dp un gd cn cs L a ccd cl outer) (call (.ref f) vs) Q E s := C _ _ _ _ _ _ _ _ _ _ _ _ _ _ _ _ _ B F X N T hk hdp hun hret
theorem Ret.endI {h₀ h' : Heap} {L : Addr} {m : PySem.Str → Option Value} {news : List (Addr × Obj)} {s : Shared} {Q : Value → Shared → Prop} {b b' : Int} {t : Tok} {tk' : Nat} (hret : Ret h₀ L m news s Q (fun t => .int b t)) (F : Fr h₀ L h' m) (N : News h₀ L h' news) (e : b = b') :
    Q (.int b' t) { s with heap := h', toks := tk' } := by
  subst e
  exact hret t h' tk' F N
theorem Ret.endS {h₀ h' : Heap} {L : Addr} {m : PySem.Str → Option Value} {news : List (Addr × Obj)} {s : Shared} {Q : Value → Shared → Prop} {b b' : PySem.Str} {t : Tok} {tk' : Nat} (hret : Ret h₀ L m news s Q (fun t => .str b t)) (F : Fr h₀ L h' m) (N : News h₀ L h' news) (e : b = b') :
    Q (.str b' t) { s with heap := h', toks := tk' } := by
  subst e
  exact hret t h' tk' F N
theorem agF_len {word : PySem.Str} {cut : Int} (h0 : 0 ≤ cut) (h1 : cut ≤ word.length) : agF word cut word.length = true := by
  unfold agF
  refine if_pos ?_
  unfold agH agL
  split <;> split <;> omega
theorem lw_start {word : PySem.Str} {cut : Int} (h : 1 ≤ word.length) : lwP word cut 1 := ⟨by omega, by omega, fun j a b => by omega⟩
theorem lw_lt {word : PySem.Str} {cut n : Int} (h0 : 0 ≤ cut) (h1 : cut ≤ word.length) (p : lwP word cut n) (e : agF word cut n = false) : n < word.length := by
  have : n ≠ word.length := fun h => by rw [h, agF_len h0 h1] at e; cases e
  have := p.2.1
  omega
theorem lw_step {word : PySem.Str} {cut n : Int} (h0 : 0 ≤ cut) (h1 : cut ≤ word.length) (p : lwP word cut n) (e : agF word cut n = false) : lwP word cut (n + 1) := by
  have := lw_lt h0 h1 p e
  have := p.1
  refine ⟨by omega, by omega, fun j a b => ?_⟩
  by_cases h : j = n
  · rw [h]; exact e
  · exact p.2.2 j a (by omega)
theorem lw_less {word : PySem.Str} {cut n : Int} (h0 : 0 ≤ cut) (h1 : cut ≤ word.length) (p : lwP word cut n) (e : agF word cut n = false) : lwM word (n + 1) < lwM word n := by
  have := lw_lt h0 h1 p e
  unfold lwM
  omega
theorem lwGo_end {word : PySem.Str} {cut n : Int} (e : agF word cut n = true) : ∀ (k : Nat) (i : Int), i ≤ n → n < i + k → (∀ j, i ≤ j → j < n → agF word cut j = false) → lwGo word cut k i = n
  | 0, i, h1, h2, _ => by omega
  | k + 1, i, h1, h2, h => by
    by_cases hi : i = n
    · subst hi
      exact if_pos e
    · have h3 := h i (Int.le_refl _) (by omega)
      refine (if_neg (by rw [h3]; exact Bool.false_ne_true)).trans ?_
      exact lwGo_end e k (i + 1) (by omega) (by omega) (fun j a b => h j (by omega) b)
theorem lw_end {word : PySem.Str} {cut n : Int} (p : lwP word cut n) (e : agF word cut n = true) : lwF word cut = n :=
  lwGo_end e word.length 1 p.1 (by have := p.2.1; omega) p.2.2
theorem least_c (prog p loose w mean mg mb news) (word : PySem.Str) (tw : Tok) (cut : Int) (tc : Tok) (hp2 : 0 ≤ cut) (hp3 : cut ≤ word.length) (hp5 : word.length ≤ 6) (hp1 : 1 ≤ word.length) :
    ClaimN 1 prog p loose w mean mg mb news 437 [.str word tw, .int cut tc] (fun t => .int (lwF word cut) t) := by
  w_top off
  k_with_none
  k_with "r1" => first
    | (k_here; (with_reducible show wpAny _ _ (compareOp CmpOp.Eq (Value.ref _) (Value.str _ _)) _ _ _); k_dflt (refine' eq_tup_str ?k1Q9 ?k2Q9 ?_; (case k1Q9 => exact News.isTup (by k_asm) (by k_mem)); (case k2Q9 => ktr_units); k_whole))
  k_with "r2" => first
    | (k_here; (with_reducible show wpAny _ _ (compareOp CmpOp.NotIn (Value.str _ _) (Value.ref _)) _ _ _); (with_unfolding_all refine' notin_tuple_strs ?k1Q9 ?k2Q9 ?_; (case k1Q9 => exact kun_topT (by k_asm) (by k_asm) (by k_is)); (case k2Q9 => kde_strs); k_whole))
  k_with "r3" => first
    | (k_here; (with_reducible show wpAny _ _ (compareOp CmpOp.In (Value.str _ _) (Value.ref _)) _ _ _); (with_unfolding_all refine' in_tuple_strs ?k1Q9 ?k2Q9 ?_; (case k1Q9 => exact kun_topT (by k_asm) (by k_asm) (by k_is)); (case k2Q9 => kde_strs); k_whole))
  k_with "r4" => first
    | (k_here; (with_reducible show wpAny _ _ (callWith _ (Value.ref _) _ (backTo _ (starEach [] _)) []) _ _ _); k_dflt (refine' callWith_K0F ?k1Q9 ?k2Q9 ?k3Q9 ?_; (case k1Q9 => k_asm); (case k2Q9 => k_asm); (case k3Q9 => k_is); k_whole; try dsimp only [List.nil_append, List.cons_append]))
    | (k_here; (with_reducible show wpAny _ _ (callWith _ (Value.ref _) _ (backTo _ (starEach (_ :: _) _)) []) _ _ _); k_dflt (refine' callWith_K ?k1Q9 ?k2Q9 ?_ ?k3Q9 ?k4Q9; (case k1Q9 => k_asm); (case k2Q9 => k_is); (case k3Q9 => exact rfl); (case k4Q9 => exact rfl); k_whole))
    | (k_here; (with_reducible show wpAny _ _ (callWith _ (Value.ref _) _ (backTo _ (starEach [] _)) []) _ _ _); k_dflt (refine' callWith_M0 ?k1Q9 ?k2Q9 ?_; (case k1Q9 => k_meth); (case k2Q9 => k_is); k_whole; try dsimp only [List.nil_append, List.cons_append]))
  k_with "r5" => first
    | (k_here; (with_reducible show wpAny _ _ (subscriptTail _ _ (Value.ref _) (Value.int _ _)) _ _ _); k_dflt (refine' item_tupleT ?tQ9 ?aQ9 ?bQ9 ?cQ9 ?dQ9 ?_; (case tQ9 => exact News.isTup (by k_asm) (by k_mem)); (case aQ9 => decide); (case bQ9 => decide); (case cQ9 => rfl); (case dQ9 => rfl); k_whole))
  k_with "updp" => first | exact UpdP.head | (refine' UpdP.tail ?uQ9; (case uQ9 => k_extra "updp"))
  k_with "updq" => first | exact UpdQ.head | (refine' UpdQ.tail ?uQ9; (case uQ9 => k_extra "updq"))
  k_with "updq2" => first | exact UpdQ2.head | (refine' UpdQ2.tail ?uQ9; (case uQ9 => k_extra "updq2"))
  k_with "as_mem" => first | exact List.Mem.head _ | (refine' List.Mem.tail _ ?_; k_extra "as_mem")
  k_with "srt_ne" => ((rename Srt _ _ => hSrt); (first | exact Srt.ne0 hSrt (by k_extra "as_mem") | (replace hSrt := Srt.tail hSrt; k_extra "srt_ne")))
  k_with "upd" => first
    | ((rename Srt _ _ => hSrt); (refine' Srt.upd hSrt rfl (by k_extra "as_mem") ?uQ9); (case uQ9 => k_extra "updp"))
  k_with "updF" => first
    | ((rename Srt _ _ => hSrt); (refine' Srt.updF hSrt rfl (by k_extra "as_mem") ?uQ9); (case uQ9 => k_extra "updq"))
  intro dpZ unZ gdZ cnZ csZ aZ ccdZ clZ outerZ AZ baseZ hZ LZ mZ sZ QZ EZ BZ FZ XZ NZ TZ hkZ hdpZ hunZ hret
  refine wpAny_call ?_
  k_dflt cell_enter
  k_with "exec While UnaryOp cons nil" => k_while (fun _ n => lwP word cut n) (fun _ n => lwM word n) "many"
  k_with "state" => first | exact lw_start hp1 | exact lw_step hp2 hp3 (by assumption) (by assumption)
  k_with "measure" => exact lw_less hp2 hp3 (by assumption) (by assumption)
  k_with "call ref" => (k_here; k_dflt (refine' Claim.use (agrees_c _ _ _ _ _ _ _ _ word _ cut _ _ _ ?h1 ?h2 ?h3 ?h5) ?kB ?kF ?kX ?kN ?kT ?kk ?kd ?ku ?_; (case kB => k_asm); (case kF => k_asm); (case kX => k_asm); (case kN => k_asm); (case kT => k_asm); (case kk => first | exact rfl | assumption); (case kd => ktr_room); (case ku => ktr_units); (case h1 => exact (by assumption : lwP word cut _).1); (case h2 => exact hp2); (case h3 => exact hp3); (case h5 => exact hp5)); intro t9 h9 tk9 F9 N9)
  k_steps
  all_goals exact Ret.endI hret (by k_asm) (cb_drop (by k_asm) (by repeat (first | exact suf_nil | refine suf_cons ?_))) (lw_end (by assumption) (by assumption))
theorem ot_start {a b : PySem.Str} : otP a b [] := fun i h => by simp at h
theorem ot_step {a b : PySem.Str} {pre : List Int} {k : Int} (p : otP a b pre) (e : k = 0 + (pre.length : Int)) (h : (Txt.item a k != Txt.item b k) = false) : otP a b (pre ++ [k]) := fun i hi => by
  rw [List.length_append, List.length_singleton] at hi
  by_cases c : i < pre.length
  · exact p i c
  · have : (i : Int) = k := by omega
    rw [this]; exact h
theorem ot_skip {a b : PySem.Str} (j : Nat) : ∀ (n : Nat), (∀ i : Nat, i < j → (Txt.item a (i : Int) != Txt.item b (i : Int)) = false) → otGo a b (n + j) 0 = otGo a b n (j : Int) := by
  induction j with
  | zero => intro n _; rfl
  | succ j ih =>
    intro n h
    have h1 := ih (n + 1) (fun i hi => h i (by omega))
    have e : n + (j + 1) = n + 1 + j := by omega
    rw [e, h1]
    refine (if_neg (by rw [h j (by omega)]; exact Bool.false_ne_true)).trans ?_
    rw [Int.natCast_add]
    rfl
theorem ot_hit {a b : PySem.Str} {pre : List Int} {k : Int} (p : otP a b pre) (e : k = 0 + (pre.length : Int)) (hl : pre.length < ((if (b.length : Int) < a.length then (b.length : Int) else a.length) - 0).toNat) (h : (Txt.item a k != Txt.item b k) = true) :
    otF a b = if ((Txt.item a k).cps.getD 0 0 : Int) < ((Txt.item b k).cps.getD 0 0 : Int) then -1 else 1 := by
  have e0 : otN a b = (otN a b - pre.length - 1 + 1) + pre.length := by unfold otN; omega
  have ek : k = (pre.length : Int) := by omega
  unfold otF
  rw [e0, ot_skip pre.length _ p, ← ek]
  exact if_pos h
theorem ot_lt {a b : PySem.Str} {pre : List Int} {k : Int} (p : otP a b pre) (e : k = 0 + (pre.length : Int)) (hl : pre.length < ((if (b.length : Int) < a.length then (b.length : Int) else a.length) - 0).toNat) (h : (Txt.item a k != Txt.item b k) = true)
    (c : ((Txt.item a k).cps.getD 0 0 : Int) < ((Txt.item b k).cps.getD 0 0 : Int)) : otF a b = -1 := (ot_hit p e hl h).trans (if_pos c)
theorem ot_ge {a b : PySem.Str} {pre : List Int} {k : Int} (p : otP a b pre) (e : k = 0 + (pre.length : Int)) (hl : pre.length < ((if (b.length : Int) < a.length then (b.length : Int) else a.length) - 0).toNat) (h : (Txt.item a k != Txt.item b k) = true)
    (c : ¬ ((Txt.item a k).cps.getD 0 0 : Int) < ((Txt.item b k).cps.getD 0 0 : Int)) : otF a b = 1 := (ot_hit p e hl h).trans (if_neg c)
theorem ot_done {a b : PySem.Str} (p : otP a b (rangeKs 0 ((if (b.length : Int) < a.length then (b.length : Int) else a.length) - 0).toNat)) : otF a b = if (a.length : Int) = b.length then 0 else if (a.length : Int) < b.length then -1 else 1 := by
  have h := ot_skip (otN a b) 0 (a := a) (b := b) (fun i hi => p i (by rw [rangeKs_length]; exact hi))
  rw [Nat.zero_add] at h
  exact h
theorem ot_eq {a b : PySem.Str} (p : otP a b (rangeKs 0 ((if (b.length : Int) < a.length then (b.length : Int) else a.length) - 0).toNat)) (h : (a.length : Int) = b.length) : otF a b = 0 := (ot_done p).trans (if_pos h)
theorem ot_short {a b : PySem.Str} (p : otP a b (rangeKs 0 ((if (b.length : Int) < a.length then (b.length : Int) else a.length) - 0).toNat)) (h : (a.length : Int) ≠ b.length) (h2 : (a.length : Int) < b.length) : otF a b = -1 := (ot_done p).trans ((if_neg h).trans (if_pos h2))
theorem ot_long {a b : PySem.Str} (p : otP a b (rangeKs 0 ((if (b.length : Int) < a.length then (b.length : Int) else a.length) - 0).toNat)) (h : (a.length : Int) ≠ b.length) (h2 : ¬ (a.length : Int) < b.length) : otF a b = 1 := (ot_done p).trans ((if_neg h).trans (if_neg h2))
theorem order_c (prog p loose w mean mg mb news) (a b : PySem.Str) (ta tb : Tok) (ha : a.length ≤ 100) (hb : b.length ≤ 100) :
    ClaimN 0 prog p loose w mean mg mb news 423 [.str a ta, .str b tb] (fun t => .int (otF a b) t) := by
  w_top off
  k_with_none
  k_with "r1" => first
    | (k_here; (with_reducible show wpAny _ _ (compareOp CmpOp.Eq (Value.ref _) (Value.str _ _)) _ _ _); k_dflt (refine' eq_tup_str ?k1Q9 ?k2Q9 ?_; (case k1Q9 => exact News.isTup (by k_asm) (by k_mem)); (case k2Q9 => ktr_units); k_whole))
  k_with "r2" => first
    | (k_here; (with_reducible show wpAny _ _ (compareOp CmpOp.NotIn (Value.str _ _) (Value.ref _)) _ _ _); (with_unfolding_all refine' notin_tuple_strs ?k1Q9 ?k2Q9 ?_; (case k1Q9 => exact kun_topT (by k_asm) (by k_asm) (by k_is)); (case k2Q9 => kde_strs); k_whole))
  k_with "r3" => first
    | (k_here; (with_reducible show wpAny _ _ (compareOp CmpOp.In (Value.str _ _) (Value.ref _)) _ _ _); (with_unfolding_all refine' in_tuple_strs ?k1Q9 ?k2Q9 ?_; (case k1Q9 => exact kun_topT (by k_asm) (by k_asm) (by k_is)); (case k2Q9 => kde_strs); k_whole))
  k_with "r4" => first
    | (k_here; (with_reducible show wpAny _ _ (callWith _ (Value.ref _) _ (backTo _ (starEach [] _)) []) _ _ _); k_dflt (refine' callWith_K0F ?k1Q9 ?k2Q9 ?k3Q9 ?_; (case k1Q9 => k_asm); (case k2Q9 => k_asm); (case k3Q9 => k_is); k_whole; try dsimp only [List.nil_append, List.cons_append]))
    | (k_here; (with_reducible show wpAny _ _ (callWith _ (Value.ref _) _ (backTo _ (starEach (_ :: _) _)) []) _ _ _); k_dflt (refine' callWith_K ?k1Q9 ?k2Q9 ?_ ?k3Q9 ?k4Q9; (case k1Q9 => k_asm); (case k2Q9 => k_is); (case k3Q9 => exact rfl); (case k4Q9 => exact rfl); k_whole))
    | (k_here; (with_reducible show wpAny _ _ (callWith _ (Value.ref _) _ (backTo _ (starEach [] _)) []) _ _ _); k_dflt (refine' callWith_M0 ?k1Q9 ?k2Q9 ?_; (case k1Q9 => k_meth); (case k2Q9 => k_is); k_whole; try dsimp only [List.nil_append, List.cons_append]))
  k_with "r5" => first
    | (k_here; (with_reducible show wpAny _ _ (subscriptTail _ _ (Value.ref _) (Value.int _ _)) _ _ _); k_dflt (refine' item_tupleT ?tQ9 ?aQ9 ?bQ9 ?cQ9 ?dQ9 ?_; (case tQ9 => exact News.isTup (by k_asm) (by k_mem)); (case aQ9 => decide); (case bQ9 => decide); (case cQ9 => rfl); (case dQ9 => rfl); k_whole))
  k_with "updp" => first | exact UpdP.head | (refine' UpdP.tail ?uQ9; (case uQ9 => k_extra "updp"))
  k_with "updq" => first | exact UpdQ.head | (refine' UpdQ.tail ?uQ9; (case uQ9 => k_extra "updq"))
  k_with "updq2" => first | exact UpdQ2.head | (refine' UpdQ2.tail ?uQ9; (case uQ9 => k_extra "updq2"))
  k_with "as_mem" => first | exact List.Mem.head _ | (refine' List.Mem.tail _ ?_; k_extra "as_mem")
  k_with "srt_ne" => ((rename Srt _ _ => hSrt); (first | exact Srt.ne0 hSrt (by k_extra "as_mem") | (replace hSrt := Srt.tail hSrt; k_extra "srt_ne")))
  k_with "upd" => first
    | ((rename Srt _ _ => hSrt); (refine' Srt.upd hSrt rfl (by k_extra "as_mem") ?uQ9); (case uQ9 => k_extra "updp"))
  k_with "updF" => first
    | ((rename Srt _ _ => hSrt); (refine' Srt.updF hSrt rfl (by k_extra "as_mem") ?uQ9); (case uQ9 => k_extra "updq"))
  intro dpZ unZ gdZ cnZ csZ aZ ccdZ clZ outerZ AZ baseZ hZ LZ mZ sZ QZ EZ BZ FZ XZ NZ TZ hkZ hdpZ hunZ hret
  refine wpAny_call ?_
  k_dflt cell_enter
  k_with "pyIter ref" => ((with_reducible show wpAny _ _ (pyIter (Value.ref _)) (fun it s₂ => LoopAtV _ _ _ _ _ _ _ _ _ it s₂) _ _); k_here; (rename Fr _ _ _ _ => lF'); (rename News _ _ _ _ => lN'); (rename IsRange _ _ _ _ _ _ _ _ => rgX); (with_unfolding_all refine' kst_range (σ := Unit) (fun _ => news) (fun _ => []) (fun _ => True) [] (fun pre _ => otP a b pre) () (by rfl) rgX (by first | exact small_one (by omega) (by omega) (by omega) (by omega) | exact small_one (by l_bnd) (by l_bnd) (by l_bnd) (by l_bnd) | decide) (by first | exact rangeSize_nat _ _ | rfl) lF' ?kn ?kf ?kk ?kp ?_ ?_); (case kn => with_unfolding_all (first | exact lN' | exact kst_newsOf lN' (by kst_inAny))); (case kf => exact True.intro); (case kk => kst_all); (case kp => exact ot_start); (all_goals (try clear lF' lN')); (intro c9 pre9 k9 t9 u9 h9 tk9 own9 e1 e2 e3 e4 e5 F9 N9; rotate_left; intro c9 u9 h9 tk9 e4 e5 F9 N9; rotate_left); all_goals (have kMark := kstMark; (try dsimp only [kstB] at F9); (try dsimp only at N9); (try dsimp only at e5); (try simp only [List.nil_append, List.cons_append, List.append_nil] at N9); try k_fold))
  k_with "state" => exact ot_step (by assumption) (by assumption) (by assumption)
  k_steps
  all_goals (refine' Ret.endI hret (by k_asm) (cb_drop (by k_asm) (by repeat (first | exact suf_nil | exact fun _ h => List.mem_append_left _ h | refine suf_cons ?_))) ?_)
  all_goals (first | exact ot_lt (by assumption) (by assumption) (by assumption) (by assumption) (by assumption) | exact ot_ge (by assumption) (by assumption) (by assumption) (by assumption) (by assumption) | exact ot_eq (by assumption) (by assumption) | exact ot_short (by assumption) (by assumption) (by assumption) | exact ot_long (by assumption) (by assumption) (by assumption))
theorem gr_start {a : PySem.Str} : grP a [] 0 := ⟨by omega, by omega, rfl⟩
theorem gr_yes {a : PySem.Str} {pre : List Int} {n k : Int} (p : grP a pre n) (e : k = 1 + (pre.length : Int)) (l : pre.length < ((a.length : Int) - 1).toNat) (h : otF (Txt.slice a (some k) none) (Txt.slice a (some n) none) > 0) : grP a (pre ++ [k]) k := by
  refine ⟨by omega, by omega, ?_⟩
  rw [List.foldl_append, p.2.2]
  exact if_pos h
theorem gr_no {a : PySem.Str} {pre : List Int} {n k : Int} (p : grP a pre n) (h : ¬ otF (Txt.slice a (some k) none) (Txt.slice a (some n) none) > 0) : grP a (pre ++ [k]) n := by
  refine ⟨p.1, p.2.1, ?_⟩
  rw [List.foldl_append, p.2.2]
  exact if_neg h
theorem gr_end {a : PySem.Str} {n : Int} (p : grP a (rangeKs 1 ((a.length : Int) - 1).toNat) n) : grF a = n := p.2.2
theorem great_c (prog p loose w mean mg mb news) (a : PySem.Str) (ta : Tok) (ha : a.length ≤ 100) :
    ClaimN 1 prog p loose w mean mg mb news 444 [.str a ta] (fun t => .int (grF a) t) := by
  w_top off
  k_with_none
  k_with "r1" => first
    | (k_here; (with_reducible show wpAny _ _ (compareOp CmpOp.Eq (Value.ref _) (Value.str _ _)) _ _ _); k_dflt (refine' eq_tup_str ?k1Q9 ?k2Q9 ?_; (case k1Q9 => exact News.isTup (by k_asm) (by k_mem)); (case k2Q9 => ktr_units); k_whole))
  k_with "r2" => first
    | (k_here; (with_reducible show wpAny _ _ (compareOp CmpOp.NotIn (Value.str _ _) (Value.ref _)) _ _ _); (with_unfolding_all refine' notin_tuple_strs ?k1Q9 ?k2Q9 ?_; (case k1Q9 => exact kun_topT (by k_asm) (by k_asm) (by k_is)); (case k2Q9 => kde_strs); k_whole))
  k_with "r3" => first
    | (k_here; (with_reducible show wpAny _ _ (compareOp CmpOp.In (Value.str _ _) (Value.ref _)) _ _ _); (with_unfolding_all refine' in_tuple_strs ?k1Q9 ?k2Q9 ?_; (case k1Q9 => exact kun_topT (by k_asm) (by k_asm) (by k_is)); (case k2Q9 => kde_strs); k_whole))
  k_with "r4" => first
    | (k_here; (with_reducible show wpAny _ _ (callWith _ (Value.ref _) _ (backTo _ (starEach [] _)) []) _ _ _); k_dflt (refine' callWith_K0F ?k1Q9 ?k2Q9 ?k3Q9 ?_; (case k1Q9 => k_asm); (case k2Q9 => k_asm); (case k3Q9 => k_is); k_whole; try dsimp only [List.nil_append, List.cons_append]))
    | (k_here; (with_reducible show wpAny _ _ (callWith _ (Value.ref _) _ (backTo _ (starEach (_ :: _) _)) []) _ _ _); k_dflt (refine' callWith_K ?k1Q9 ?k2Q9 ?_ ?k3Q9 ?k4Q9; (case k1Q9 => k_asm); (case k2Q9 => k_is); (case k3Q9 => exact rfl); (case k4Q9 => exact rfl); k_whole))
    | (k_here; (with_reducible show wpAny _ _ (callWith _ (Value.ref _) _ (backTo _ (starEach [] _)) []) _ _ _); k_dflt (refine' callWith_M0 ?k1Q9 ?k2Q9 ?_; (case k1Q9 => k_meth); (case k2Q9 => k_is); k_whole; try dsimp only [List.nil_append, List.cons_append]))
  k_with "r5" => first
    | (k_here; (with_reducible show wpAny _ _ (subscriptTail _ _ (Value.ref _) (Value.int _ _)) _ _ _); k_dflt (refine' item_tupleT ?tQ9 ?aQ9 ?bQ9 ?cQ9 ?dQ9 ?_; (case tQ9 => exact News.isTup (by k_asm) (by k_mem)); (case aQ9 => decide); (case bQ9 => decide); (case cQ9 => rfl); (case dQ9 => rfl); k_whole))
  k_with "updp" => first | exact UpdP.head | (refine' UpdP.tail ?uQ9; (case uQ9 => k_extra "updp"))
  k_with "updq" => first | exact UpdQ.head | (refine' UpdQ.tail ?uQ9; (case uQ9 => k_extra "updq"))
  k_with "updq2" => first | exact UpdQ2.head | (refine' UpdQ2.tail ?uQ9; (case uQ9 => k_extra "updq2"))
  k_with "as_mem" => first | exact List.Mem.head _ | (refine' List.Mem.tail _ ?_; k_extra "as_mem")
  k_with "srt_ne" => ((rename Srt _ _ => hSrt); (first | exact Srt.ne0 hSrt (by k_extra "as_mem") | (replace hSrt := Srt.tail hSrt; k_extra "srt_ne")))
  k_with "upd" => first
    | ((rename Srt _ _ => hSrt); (refine' Srt.upd hSrt rfl (by k_extra "as_mem") ?uQ9); (case uQ9 => k_extra "updp"))
  k_with "updF" => first
    | ((rename Srt _ _ => hSrt); (refine' Srt.updF hSrt rfl (by k_extra "as_mem") ?uQ9); (case uQ9 => k_extra "updq"))
  intro dpZ unZ gdZ cnZ csZ aZ ccdZ clZ outerZ AZ baseZ hZ LZ mZ sZ QZ EZ BZ FZ XZ NZ TZ hkZ hdpZ hunZ hret
  refine wpAny_call ?_
  k_dflt cell_enter
  k_with "pyIter ref" => k_state (fun pre n => grP a pre n) "best"
  k_with "state" => first | exact gr_start | exact gr_yes (by assumption) (by assumption) (by assumption) (by assumption) | exact gr_no (by assumption) (by assumption)
  k_with "call ref" => (k_here; k_dflt (refine' ClaimN.use (order_c _ _ _ _ _ _ _ _ _ _ _ _ ?h1 ?h2) ?kB ?kF ?kX ?kN ?kT ?kk ?kd ?ku ?_; (case kB => k_asm); (case kF => k_asm); (case kX => k_asm); (case kN => k_asm); (case kT => k_asm); (case kk => first | exact rfl | assumption); (case kd => ktr_room); (case ku => ktr_units); (case h1 => exact Nat.le_trans (Txt.slice_le _ _ _) ha); (case h2 => exact Nat.le_trans (Txt.slice_le _ _ _) ha)); intro t9 h9 tk9 F9 N9)
  k_steps
  all_goals (refine' Ret.endI hret (by k_asm) (cb_drop (by k_asm) (by repeat (first | exact suf_nil | exact fun _ h => List.mem_append_left _ h | refine suf_cons ?_))) ?_)
  all_goals exact gr_end (by assumption)
section
open PyProof.V PySem.Spec
theorem Srt.cell {L' : Addr} {news : List (Addr × Obj)} (h : ∀ p ∈ news, @LT.lt Nat _ p.1 L') : Srt [Nat.add L' 1] news :=
  ⟨List.pairwise_singleton .., fun a ha p hp => by
    rw [List.mem_singleton.mp ha]
    exact Nat.lt_succ_of_lt (h p hp)⟩
theorem setItem_W2 {prog : PySem.Program} {w : World} {A : Around} {E : Value → Shared → Prop} {s : Shared} {h₀ : Heap} {L d : Addr} {m : PySem.Str → Option Value} {news : List (Addr × Obj)} {g : Obj → List (Addr × Obj)} {o : Obj} {k x : PySem.Str} {tk tx : Tok} {D : List (PyData × PyData)} {Q : Unit → Shared → Prop}
    (H : HoldsW prog w o D) (F : Fr h₀ L s.heap m) (N : News h₀ L s.heap news) (U : UpdF d o news g) (hsz : D.length ≤ 100)
    (h : ∀ h' o', Fr h₀ L h' m → News h₀ L h' (g o') → HoldsW prog w o' (putD (PyData.str k) (PyData.str x) D) → Q () { s with heap := h', toks := s.toks + 1 }) :
    wpAny (model prog w) A (setItem (.ref d) (.str k tk) (.str x tx)) Q E s := by
  obtain ⟨kvs, a, b⟩ := H
  refine setItem_K PyProof.V.same_str (strKind_is _ _ _ _) (PyProof.V.Flat.str x tx) F N U a b (fun h' o' F' N' hd hf => h h' o' F' N' ⟨_, hd, hf⟩) (Nat.le_trans hsz ?_)
  rw [PySem.sizeLine_eq]
  decide
def TabStep (prog : PySem.Program) (w : World) (h₀ : Heap) (L : Addr) (own : List (Addr × Obj)) (mm : PySem.Str → Option Value) (d c : Addr) (news : List (Addr × Obj)) (D' : List (PyData × PyData)) (s₁ : Shared) (f : Flow) (s₂ : Shared) : Prop :=
  f = .next ∧ ∃ h' tk o2 oc2, s₂ = { s₁ with heap := h', toks := tk } ∧ Fr h₀ L h' mm ∧ News h₀ L h' (own ++ (d, o2) :: (c, oc2) :: news) ∧ HoldsW prog w o2 D' ∧ oc2.data = .cell (some (.ref d))
theorem pair_tab {prog : PySem.Program} {w : World} {A : Around} {E : Value → Shared → Prop} {h₀ : Heap} {env : Env} {s : Shared} {m : PySem.Str → Option Value} {news : List (Addr × Obj)} {x : PySem.Str} {xv : Value} {d c : Addr} {o oc : Obj} {xi xc : PySem.Str} {body : List Stmt} {Q : Flow → Shared → Prop} {L : Addr}
    (T : Nat → List (PyData × PyData)) (S : PairSrcL prog w A E h₀ L ItemKind.str (signs x) xv s m ((d, o) :: (c, oc) :: news)) (eL : env.locals = L)
    (H : HoldsW prog w o (T 0)) (C : oc.data = .cell (some (.ref d)))
    (turn : ∀ (i : Nat) (a : PySem.Str) (t t' : Tok) (o1 oc1 : Obj) (h : Heap) (tk : Nat) (own : List (Addr × Obj)), (signs x)[i]? = some a → (∀ p ∈ own, @Ne Nat p.1 d ∧ @Ne Nat p.1 c) → HoldsW prog w o1 (T i) → oc1.data = .cell (some (.ref d)) →
      Fr h₀ env.locals h (fun y => if y = xc then some (.str a t') else if y = xi then some (.int i t) else m y) → News h₀ env.locals h (own ++ (d, o1) :: (c, oc1) :: news) →
      wpAny (model prog w) A (execs body env) (TabStep prog w h₀ env.locals own (fun y => if y = xc then some (.str a t') else if y = xi then some (.int i t) else m y) d c news (T (i + 1)) { s with heap := h, toks := tk }) E { s with heap := h, toks := tk })
    (done : ∀ (u : PySem.Str → Option Value) (o1 oc1 : Obj) (h : Heap) (tk : Nat), HoldsW prog w o1 (T (signs x).length) → oc1.data = .cell (some (.ref d)) →
      Fr h₀ env.locals h (fun y => if y = xc then u y else if y = xi then u y else m y) → News h₀ env.locals h ((d, o1) :: (c, oc1) :: news) → Q .next { s with heap := h, toks := tk }) :
    wpAny (model prog w) A (pyIter xv) (fun it s₂ => PairAt3 prog w A h₀ env xi xc body Q E it s₂) E s := by
  refine (S.at env eL) xi xc body Q (fun i m₁ nw => ∃ o1 oc1, nw = (d, o1) :: (c, oc1) :: news ∧ HoldsW prog w o1 (T i) ∧ oc1.data = .cell (some (.ref d)) ∧ ∀ y, y ≠ xc → y ≠ xi → m₁ y = m y)
    ⟨o, oc, rfl, H, C, fun _ _ _ => rfl⟩ ?_ ?_
  · rintro i a t v m₁ news₁ s₁ own ⟨h, tk, rfl⟩ ha hv ⟨o1, oc1, rfl, H1, C1, hm⟩ _ hown F N
    obtain ⟨t', rfl⟩ := ItemKind.str_is hv
    have em : (fun y => if y = xc then some (Value.str a t') else if y = xi then some (.int i t) else m₁ y) = (fun y => if y = xc then some (Value.str a t') else if y = xi then some (.int i t) else m y) := by
      funext y
      by_cases h1 : y = xc
      · rw [if_pos h1, if_pos h1]
      · rw [if_neg h1, if_neg h1]
        by_cases h2 : y = xi
        · rw [if_pos h2, if_pos h2]
        · rw [if_neg h2, if_neg h2]; exact hm y h1 h2
    rw [em] at F
    refine wpAny_mono (turn i a t t' o1 oc1 h tk own ha (fun p hp => ⟨hown p hp (d, o) (.head _), hown p hp (c, oc) (.tail _ (.head _))⟩) H1 C1 F N) (fun f s₂ hq => ?_) fun _ _ e => e
    obtain ⟨rfl, h', tk', o2, oc2, rfl, F2, N2, H2, C2⟩ := hq
    refine LoopStep3.next (LoopStep2.intro F2 N2 rfl ⟨o2, oc2, rfl, H2, C2, fun y h1 h2 => ?_⟩)
    exact (if_neg h1).trans (if_neg h2)
  · rintro h' tk m' news' F' N' _ ⟨o1, oc1, rfl, H1, C1, hm⟩
    refine done m' o1 oc1 h' tk H1 C1 ?_ N'
    have em : m' = (fun y => if y = xc then m' y else if y = xi then m' y else m y) := by
      funext y
      by_cases h1 : y = xc
      · rw [if_pos h1]
      · rw [if_neg h1]
        by_cases h2 : y = xi
        · rw [if_pos h2]
        · rw [if_neg h2]; exact hm y h1 h2
    rw [← em]
    exact F'
end
section
open PyProof.V PySem.Spec
def TextSrc (prog : PySem.Program) (w : World) (A : Around) (h₀ : Heap) (L : Addr) (m : PySem.Str → Option Value) (env : Env) (elt : Expr) (x : PySem.Str) (scope : Scope) (cl : List (PySem.Str × Addr)) (Q : Value → Shared → Prop) (xv : Value) (s₁ : Shared) : Prop :=
  ∃ y t news, xv = .str y t ∧ A.handled = none ∧ Fr h₀ L s₁.heap m ∧ News h₀ L s₁.heap news ∧ y.cps.size ≤ sizeLine ∧
    ∀ s₂ : Shared, (∃ h, s₂ = { s₁ with heap := h }) → LCg.CompRest prog w A h₀ L m env elt x scope cl s₂ (fun _ => True) (SignAt y) (LCg.FinE h₀ L m s₂ Q) y.cps.size 0 [] news
theorem striter_st {I : Addr} {ty : String} {y : PySem.Str} {t : Tok} {h₀ : Heap} {L : Addr} : ∀ i (h h' : Heap) (o : Obj) (nw : List (Addr × Obj)), h.IsStrIter I ty y t i → h.get? I = some o → h'.get? I = some o → (∀ b o, h₀.get? b = some o → h'.get? b = some o) → News h₀ L h' nw → True → h'.IsStrIter I ty y t i :=
  fun i h h' o nw st e e' _ _ _ => by
    obtain ⟨o', q, r⟩ := st
    rw [e] at q
    cases q
    exact ⟨o, e', r⟩
theorem ListComp_T {prog : PySem.Program} {w : World} {A : Around} {E : Value → Shared → Prop} {s : Shared} {h₀ : Heap} {L : Addr} {m : PySem.Str → Option Value} {env : Env} {elt iter : Expr} {x : PySem.Str} {px : Pos} {scope : Scope} {cl : List (PySem.Str × Addr)} {pos : Pos} {Q : Value → Shared → Prop} (F0 : Fr h₀ L s.heap m)
    (hclos : closureFor scope env = pure cl) (hcell : ∀ y ∈ scope.names, y.2 ≠ .cell) (hkind : scope.kind = .function)
    (hnames : ∀ y ∈ scope.names, y.2 = .local → scope.names.lookup y.1 = some .local) (hx : scope.names.lookup x = some .local)
    (h : wpAny (model prog w) A (eval iter env) (TextSrc prog w A h₀ L m env elt x scope cl Q) E s)
    (hs : ∀ x, foldedSetIterable iter env x = pure x := by intro _; rfl) :
    wpAny (model prog w) A (eval (.ListComp elt [⟨.Name x px, iter, [], 0⟩] scope pos) env) Q E s := by
  rw [eval_ListComp]
  refine wpAny_comprehension_free (use := none) rfl hs hclos hkind hnames (wpAny_mono h (fun xv s₁ h₁ => ?_) fun _ _ e => e)
  obtain ⟨y, t, news, rfl, hh, F, N, hsz, R⟩ := h₁
  have key : ∀ ty : String, (Walks prog w A s₁.heap.objs.size [s₁.heap.objs.size] [s₁.heap.objs.size] y.cps.size (SignAt y) (fun i h => h.IsStrIter s₁.heap.objs.size ty y t i)) →
      wpAny (model prog w) A (newList []) (fun acc s₃ => wpAny (model prog w) A (newFunctionEnv scope env.globals cl [] env.qual none .none (some env)) (fun cenv s₄ =>
        codeAny (model prog w) A (.compStart (.ListComp elt [⟨.Name x px, iter, [], 0⟩] scope pos) 0 (.ref s₁.heap.objs.size) acc { cenv with scope := relabel scope env }) (compPost (model prog w) A E none Q acc cenv.locals) s₄) E s₃) E
        { s₁ with heap := s₁.heap.push { cls := .type ty, data := .fields #[.str y t, .int 0 0] } } := by
    intro ty W
    refine LCg.block_U W hsz (fun i h st => let ⟨o, e, _⟩ := st; ⟨o, e⟩) striter_st hcell hkind hx ⟨_, Heap.get?_push_size _ rfl, rfl, rfl⟩ (fun b hb => ?_)
      (F.keeps fun _ _ e => Heap.get?_push_of_some _ e) (N.grown fun _ _ e => Heap.get?_push_of_some _ e) (Nat.ne_of_lt F.ns.lt) (next_is_new F) (fun p hp => Nat.ne_of_lt (Heap.lt_size (N p hp).1)) trivial (R _ ⟨_, rfl⟩) ?_
    · rw [List.mem_singleton.mp hb]
      show s₁.heap.objs.size < (s₁.heap.push _).objs.size
      rw [Heap.size_push]; exact Nat.lt_succ_self _
    · intro D C h tk m' ys news' F' N' o1 hn hC₀ hD₀ hCL hDL hCD offC fin
      refine ⟨m', hn, fun h'' hs'' => fin D h'' tk (F'.change hs'' hCL hC₀) (fun p hp => ?_) o1⟩
      refine ⟨hs''.extBut _ _ ?_ (N' p hp).1, (N' p hp).2⟩
      rcases List.mem_cons.mp hp with rfl | hp
      · exact Ne.symm hCD
      · exact offC p hp
  cases ha : y.cps.all (· < 128)
  · exact wpAny_pyIter_wide ha (key "str_iterator" (Walks.strWide hh _ y t))
  · exact wpAny_pyIter_ascii ha (key "str_ascii_iterator" (Walks.strAscii hh _ y t))
theorem text_rest {prog : PySem.Program} {w : World} {A : Around} {h₀ : Heap} {L : Addr} {m : PySem.Str → Option Value} {env : Env} {elt : Expr} {x : PySem.Str} {scope : Scope} {cl : List (PySem.Str × Addr)} {s : Shared} {S : List (Addr × Obj) → Prop} {Fin : List Value → List (Addr × Obj) → Prop} {news : List (Addr × Obj)} {y : PySem.Str}
    (g : PySem.Str → PySem.Str)
    (turn : ∀ (c : Nat) (t : Tok) (I : Addr) (oI : Obj) (C : Addr) (oC : Obj) (D : Addr) (m₂ : PySem.Str → Option Value) (ys : List Value) (h : Heap) (tk : Nat) (E' : Value → Shared → Prop), LCg.NsObj oC m₂ → m₂ x = some (.str ⟨#[c]⟩ t) → Fr h₀ L h m → News h₀ L h ((I, oI) :: (C, oC) :: (D, LCg.lst ys) :: news) → LCg.Off3 I C D news → ((@Ne Nat I C) ∧ (@Ne Nat I D) ∧ (@Ne Nat C D)) →
      wpAny (model prog w) A (eval elt (compEnvC scope cl C env)) (LCg.CompEnd h₀ L m { s with heap := h, toks := tk } I oI C oC D (LCg.lst ys) S (fun v news' => KCtEl news (g ⟨#[c]⟩) v news')) E' { s with heap := h, toks := tk })
    (fin : ∀ ys, StrsAre ys ((signs y).map g) → Fin ys news) : LCg.CompRest prog w A h₀ L m env elt x scope cl s S (SignAt y) Fin y.cps.size 0 [] news := by
  have hlen : (signs y).length = y.cps.size := by simp [signs]
  have key : ∀ (j i : Nat) (ys : List Value), i + j = y.cps.size → StrsAre ys (((signs y).take i).map g) → LCg.CompRest prog w A h₀ L m env elt x scope cl s S (SignAt y) Fin j i ys news := by
    intro j
    induction j with
    | zero =>
      intro i ys hi hy
      have e : i = (signs y).length := by rw [hlen]; omega
      subst e
      rw [List.take_length] at hy
      exact LCg.CompRest.zero (fin ys hy)
    | succ j ih =>
      intro i ys hi hy
      refine LCg.CompRest.succ ?_
      intro v I oI C oC D m₂ h tk E' hv hC hx F N off ne
      obtain ⟨c, u, hc, rfl⟩ := hv
      refine wpAny_mono (turn c u I oI C oC D m₂ ys h tk E' hC hx F N off ne) (fun v s₂ hq => ?_) fun _ _ e => e
      obtain ⟨h', tk', nw, e, F', N', off', hS, hn, t', hy'⟩ := hq
      rw [hn] at N' off' hS
      refine ⟨h', tk', news, e, F', N', off', hS, ?_⟩
      rw [hy']
      refine ih (i + 1) _ (by omega) ?_
      have hg : (signs y)[i]? = some ⟨#[c]⟩ := signs_get hc
      rw [List.take_add_one, hg]
      simpa using kct_snoc hy
  exact key _ 0 [] (by omega) (by simp only [List.take_zero, List.map_nil]; exact .nil)
end
section
open PyProof.V PySem.Spec
def tabT : Nat → List (PyData × PyData)
  | 0 => []
  | i + 1 => putD (.str ((signs (PySem.Str.ofString "abc")).getD i (PySem.Str.ofString ""))) (.str (Txt.item (PySem.Str.ofString "cba") (i : Int))) (tabT i)
theorem tab_len (i : Nat) : (tabT i).length ≤ i := by
  induction i with
  | zero => exact Nat.le_refl _
  | succ i ih => exact Nat.le_trans (putD_length_le _ _ _) (by omega)
theorem abc3 : (signs (PySem.Str.ofString "abc")).length = 3 := by decide +kernel
theorem cba3 : (PySem.Str.ofString "cba").length = 3 := by decide +kernel
theorem tab_lt {i : Nat} {a : PySem.Str} (h : (signs (PySem.Str.ofString "abc"))[i]? = some a) : (i : Int) < 3 := by
  have := (List.getElem?_eq_some_iff.mp h).1
  rw [abc3] at this
  omega
theorem tab_step {prog : PySem.Program} {w : World} {i : Nat} {a : PySem.Str} {o : Obj} (h : (signs (PySem.Str.ofString "abc"))[i]? = some a) (H : HoldsW prog w o (putD (.str a) (.str (Txt.item (PySem.Str.ofString "cba") (i : Int))) (tabT i))) : HoldsW prog w o (tabT (i + 1)) := by
  have e : (signs (PySem.Str.ofString "abc")).getD i (PySem.Str.ofString "") = a := by rw [List.getD_eq_getElem?_getD, h]; rfl
  unfold tabT
  rw [e]
  exact H
theorem tab3 : tabT 3 = [(.str (PySem.Str.ofString "a"), .str (PySem.Str.ofString "c")), (.str (PySem.Str.ofString "b"), .str (PySem.Str.ofString "b")), (.str (PySem.Str.ofString "c"), .str (PySem.Str.ofString "a"))] := by
  rfl
theorem rsC_get (k : PySem.Str) : (PySem.Spec.lookup (.str k) (tabT 3)).getD (.str k) = .str (rsC k) := by
  rw [tab3]
  unfold rsC
  simp only [PySem.Spec.lookup]
  split
  · rfl
  · split
    · rfl
    · split <;> rfl
theorem rsC_len (c : Nat) : (rsC ⟨#[c]⟩).length = 1 := by
  unfold rsC
  split
  · decide +kernel
  · split
    · decide +kernel
    · split
      · decide +kernel
      · rfl
theorem signs_rs_len (a : PySem.Str) : (((signs a).map rsC).map (·.length)).sum = a.length := by
  have : ∀ l : List Nat, ((((l.map fun n => (⟨#[n]⟩ : PySem.Str))).map rsC).map (·.length)).sum = l.length := by
    intro l
    induction l with
    | nil => rfl
    | cons c r ih =>
      simp only [List.map_cons, List.sum_cons, List.length_cons]
      rw [ih, rsC_len]; omega
  exact this a.cps.toList
theorem rs_weight {a : PySem.Str} (h : a.length ≤ 100) : (((signs a).map rsC).map (·.length)).sum + ((signs a).map rsC).length ≤ 1048576 := by
  have : ((signs a).map rsC).length = a.length := by simp [signs, PySem.Str.length]
  rw [signs_rs_len, this]
  omega
theorem get_rs {prog : PySem.Program} {w : World} {A : Around} {E : Value → Shared → Prop} {s : Shared} {d : Addr} {x : PySem.Str} {t t' : Tok} {Q : Value → Shared → Prop} (T : StrTab prog w s.heap d (tabT 3))
    (h : ∀ u, Q (.str (rsC x) u) { s with toks := s.toks + 1 }) : wpAny (model prog w) A (call (.builtin "dict.get") [.ref d, .str x t, .str x t']) Q E s := by
  refine call_get2_strTab T (PyProof.V.Flat.str x t') fun v hv => ?_
  rw [rsC_get] at hv
  obtain ⟨u, rfl⟩ := PyProof.V.Flat.str_inv hv
  exact h u
theorem upd_own {own r : List (Addr × Obj)} {d : Addr} {o : Obj} {g : Obj → List (Addr × Obj)} (h : ∀ p ∈ own, @Ne Nat p.1 d) (u : UpdF d o r g) : UpdF d o (own ++ r) (fun o' => own ++ g o') := by
  induction own with
  | nil => exact u
  | cons p q ih => exact UpdF.tail (h p (.head _)) (ih fun x hx => h x (.tail _ hx))
theorem TextSrc.intro {prog : PySem.Program} {w : World} {A : Around} {h₀ : Heap} {L : Addr} {m : PySem.Str → Option Value} {env : Env} {elt : Expr} {x : PySem.Str} {scope : Scope} {cl : List (PySem.Str × Addr)} {Q : Value → Shared → Prop} {y : PySem.Str} {t₀ : Tok} {s₁ : Shared} {news : List (Addr × Obj)} (g : PySem.Str → PySem.Str)
    (hh : A.handled = none) (F : Fr h₀ L s₁.heap m) (N : News h₀ L s₁.heap news) (hsz : y.length ≤ 100)
    (turn : ∀ (g' : Heap) (c : Nat) (t : Tok) (I : Addr) (oI : Obj) (C : Addr) (oC : Obj) (D : Addr) (m₂ : PySem.Str → Option Value) (ys : List Value) (h : Heap) (tk : Nat) (E' : Value → Shared → Prop), LCg.NsObj oC m₂ → m₂ x = some (.str ⟨#[c]⟩ t) → Fr h₀ L h m → News h₀ L h ((I, oI) :: (C, oC) :: (D, LCg.lst ys) :: news) → LCg.Off3 I C D news → ((@Ne Nat I C) ∧ (@Ne Nat I D) ∧ (@Ne Nat C D)) →
      wpAny (model prog w) A (eval elt (compEnvC scope cl C env)) (LCg.CompEnd h₀ L m { { s₁ with heap := g' } with heap := h, toks := tk } I oI C oC D (LCg.lst ys) (fun _ => True) (fun v news' => KCtEl news (g ⟨#[c]⟩) v news')) E' { { s₁ with heap := g' } with heap := h, toks := tk })
    (fin : ∀ (g' : Heap) (ys : List Value), StrsAre ys ((signs y).map g) → LCg.FinE h₀ L m { s₁ with heap := g' } Q ys news) : TextSrc prog w A h₀ L m env elt x scope cl Q (.str y t₀) s₁ := by
  refine ⟨y, t₀, news, rfl, hh, F, N, Nat.le_trans hsz ?_, fun s₂ hs₂ => ?_⟩
  · rw [PySem.sizeLine_eq]; decide
  · obtain ⟨g', rfl⟩ := hs₂
    exact text_rest g (fun c t I oI C oC D m₂ ys h tk E' a b c' d e f => turn g' c t I oI C oC D m₂ ys h tk E' a b c' d e f) (fin g')
end
section
open PyProof.V PySem.Spec
theorem repl_c (prog p loose w mean mg mb news) (a : PySem.Str) (ta tb tc : Tok) (ha : a.length ≤ 100) :
    ClaimN 0 prog p loose w mean mg mb news 416 [.str a ta, St "abc" tb, St "cba" tc] (fun t => .str (rsF a) t) := by
  w_top off
  k_with_none
  k_with "r1" => first
    | (k_here; (with_reducible show wpAny _ _ (compareOp CmpOp.Eq (Value.ref _) (Value.str _ _)) _ _ _); k_dflt (refine' eq_tup_str ?k1Q9 ?k2Q9 ?_; (case k1Q9 => exact News.isTup (by k_asm) (by k_mem)); (case k2Q9 => ktr_units); k_whole))
  k_with "r2" => first
    | (k_here; (with_reducible show wpAny _ _ (compareOp CmpOp.NotIn (Value.str _ _) (Value.ref _)) _ _ _); (with_unfolding_all refine' notin_tuple_strs ?k1Q9 ?k2Q9 ?_; (case k1Q9 => exact kun_topT (by k_asm) (by k_asm) (by k_is)); (case k2Q9 => kde_strs); k_whole))
  k_with "r3" => first
    | (k_here; (with_reducible show wpAny _ _ (compareOp CmpOp.In (Value.str _ _) (Value.ref _)) _ _ _); (with_unfolding_all refine' in_tuple_strs ?k1Q9 ?k2Q9 ?_; (case k1Q9 => exact kun_topT (by k_asm) (by k_asm) (by k_is)); (case k2Q9 => kde_strs); k_whole))
  k_with "r4" => first
    | (k_here; (with_reducible show wpAny _ _ (callWith _ (Value.ref _) _ (backTo _ (starEach [] _)) []) _ _ _); k_dflt (refine' callWith_K0F ?k1Q9 ?k2Q9 ?k3Q9 ?_; (case k1Q9 => k_asm); (case k2Q9 => k_asm); (case k3Q9 => k_is); k_whole; try dsimp only [List.nil_append, List.cons_append]))
    | (k_here; (with_reducible show wpAny _ _ (callWith _ (Value.ref _) _ (backTo _ (starEach (_ :: _) _)) []) _ _ _); k_dflt (refine' callWith_K ?k1Q9 ?k2Q9 ?_ ?k3Q9 ?k4Q9; (case k1Q9 => k_asm); (case k2Q9 => k_is); (case k3Q9 => exact rfl); (case k4Q9 => exact rfl); k_whole))
    | (k_here; (with_reducible show wpAny _ _ (callWith _ (Value.ref _) _ (backTo _ (starEach [] _)) []) _ _ _); k_dflt (refine' callWith_M0 ?k1Q9 ?k2Q9 ?_; (case k1Q9 => k_meth); (case k2Q9 => k_is); k_whole; try dsimp only [List.nil_append, List.cons_append]))
  k_with "r5" => first
    | (k_here; (with_reducible show wpAny _ _ (subscriptTail _ _ (Value.ref _) (Value.int _ _)) _ _ _); k_dflt (refine' item_tupleT ?tQ9 ?aQ9 ?bQ9 ?cQ9 ?dQ9 ?_; (case tQ9 => exact News.isTup (by k_asm) (by k_mem)); (case aQ9 => decide); (case bQ9 => decide); (case cQ9 => rfl); (case dQ9 => rfl); k_whole))
  k_with "updp" => first | exact UpdP.head | (refine' UpdP.tail ?uQ9; (case uQ9 => k_extra "updp"))
  k_with "updq" => first | exact UpdQ.head | (refine' UpdQ.tail ?uQ9; (case uQ9 => k_extra "updq"))
  k_with "updq2" => first | exact UpdQ2.head | (refine' UpdQ2.tail ?uQ9; (case uQ9 => k_extra "updq2"))
  k_with "as_mem" => first | exact List.Mem.head _ | (refine' List.Mem.tail _ ?_; k_extra "as_mem")
  k_with "srt_ne" => ((rename Srt _ _ => hSrt); (first | exact Srt.ne0 hSrt (by k_extra "as_mem") | (replace hSrt := Srt.tail hSrt; k_extra "srt_ne")))
  k_with "upd" => first
    | ((rename Srt _ _ => hSrt); (refine' Srt.upd hSrt rfl (by k_extra "as_mem") ?uQ9); (case uQ9 => k_extra "updp"))
  k_with "updF" => first
    | ((rename Srt _ _ => hSrt); (refine' Srt.updF hSrt rfl (by k_extra "as_mem") ?uQ9); (case uQ9 => k_extra "updq"))
  k_with "tabat" => first
    | exact HoldsW.tab (by with_reducible assumption) (by k_asm) (by k_mem) (by with_reducible assumption)
  intro dp un gd cn cs aa ccd cl outer A₀ base h₀ L m s Q E B F X N T hk hdp hun hret
  refine wpAny_call ?_
  k_dflt (refine' code_defC ?k1 ?k2 ?k3 ?k4 ?k5 ?kA ?kF ?kK ?k6 ?k7 ?k8 ?k9 ?kB ?kD ?_ ?c2 ?c3 ?c4; (case kA => exact rfl); (case kF => exact rfl); (case kK => assumption); (case k1 => k_asm); (case k2 => k_asm); (case k3 => k_asm); (case k4 => k_asm); (case k5 => k_asm); (case k6 => k_is); (case k7 => k_is); (case k8 => k_room); (case k9 => exact BindsTo.of_eq rfl); (case kB => exact rfl); (case kD => decide +kernel); (case c2 => exact rfl); (case c3 => exact rfl); (case c4 => exact rfl); k_whole)
  intro g' L' h' tk' cells' FG' F' N' Y' B' X' T' l1; k_cells Y'; (try simp only [List.cons_append, List.nil_append] at N'); (try dsimp only); (try k_lift B'); (try k_fold)
  have S0 : Srt [L' + 1] news := Srt.cell l1
  k_with "pyIter ref" => ((with_reducible show wpAny _ _ _ (fun it s₂ => PairAt3 _ _ _ _ _ _ _ _ _ _ it s₂) _ _); (first | (refine' pair_tab tabT (by assumption) rfl ?kH ?kC ?_ ?_) | refine' pair_tab tabT (by k_asm) rfl ?kH ?kC ?_ ?_); (case kH => exact HoldsW.nil (by assumption)); (case kC => assumption); (intro i9 a9 t9 t9' o9 oc9 h9 tk9 own9 hi9 ho9 H9 C9 F9 N9; have hl9 := tab_lt hi9; have hs9 := tab_len i9; have hc9 := cba3; rotate_left; intro u9 o9 oc9 h9 tk9 H9 C9 F9 N9; rw [abc3] at H9; rotate_left))
  k_with "setItem ref str" => (k_here; (with_reducible show wpAny _ _ (setItem (Value.ref _) (Value.str _ _) (Value.str _ _)) _ _ _); k_dflt (refine' setItem_W2 ?H ?F ?N ?U ?hz ?_; (case H => with_reducible assumption); (case F => k_asm); (case N => k_asm); (case U => exact upd_own (fun p hp => (ho9 p hp).1) (by k_updF)); (case hz => omega)); intro h' o' F' N' H'; (try dsimp only at N'); (try k_sweep))
  k_with "eval ListComp Call cons" => (k_here; k_dflt (refine ListComp_T (by k_asm) (by with_unfolding_all rfl) (by decide) (by rfl) (by decide) (by rfl) ?_))
  k_with "TabStep" => exact ⟨rfl, _, _, _, _, rfl, by k_asm, by k_asm, tab_step (by assumption) (by assumption), by assumption⟩
  k_with "TextSrc" => (k_here; (refine TextSrc.intro rsC (by rfl) (by k_asm) (by k_asm) (by omega) ?_ ?_); (intro g9 c9 t9 I9 oI9 C9 oC9 D9 m9 ys9 h9 tk9 E9 ns9 e9 F9 N9 off9 ne9; rotate_left; intro g9 ys9 hys9; unfold LCg.FinE; intro D9 h9 tk9 F9 N9 off9; rotate_left))
  k_with "call builtin:dict.get" => (k_here; k_dflt (refine get_rs (HoldsW.tab (by with_reducible assumption) (by k_asm) (by k_mem) (by with_reducible assumption)) ?_); intro u9)
  k_with "call builtin:str.join" => (k_here; k_dflt (refine join_listW (News.isList (by k_asm) (by k_mem)) hys9 (by decide) (rs_weight ha) ?_); intro t9 k9)
  k_with "CompEnd" => exact ⟨_, _, _, rfl, by k_asm, by k_asm, by assumption, trivial, rfl, _, rfl⟩
  k_steps
  all_goals exact Ret.endS hret (by k_asm) (cb_drop (by k_asm) (by repeat (first | exact suf_nil | exact fun _ h => List.mem_append_left _ h | refine suf_cons ?_))) rfl
end
section
open PyProof.V PySem.Spec
-- texts as lists of signs
abbrev TL (l : List Nat) : PySem.Str := ⟨l.toArray⟩
theorem TL_len (l : List Nat) : (TL l).length = l.length := List.size_toArray
theorem TL_inj {a b : List Nat} (h : TL a = TL b) : a = b := by
  have := congrArg (fun x : PySem.Str => x.cps.toList) h
  simpa using this
theorem sl_from {l : List Nat} {i : Nat} (h : i ≤ l.length) : Txt.slice (TL l) (some (i : Int)) none = TL (l.drop i) := by
  have h1 := eq_of_beq (slice_closes_fromL (x := TL l) (i := (i : Int)) (b := (l.length : Int)) (by omega) (by rw [TL_len]; omega) (by rw [TL_len]))
  rw [h1]
  show TL ((l.toArray.toList.drop (i : Int).toNat).take ((l.length : Int) - i).toNat) = _
  rw [Int.toNat_natCast, List.take_of_length_le (by rw [List.length_drop]; simp only []; omega)]
theorem sl_to {l : List Nat} {j : Nat} (h : j ≤ l.length) : Txt.slice (TL l) none (some (j : Int)) = TL (l.take j) := by
  have h1 := eq_of_beq (slice_closes_toL (x := TL l) (j := (j : Int)) (by omega) (by rw [TL_len]; omega))
  rw [h1]
  show TL ((l.toArray.toList.drop (0 : Int).toNat).take ((j : Int) - 0).toNat) = _
  rw [Int.sub_zero, Int.toNat_natCast]
  rfl
theorem sl_mid {l : List Nat} {i j : Nat} (h0 : i ≤ j) (h : j ≤ l.length) : Txt.slice (TL l) (some (i : Int)) (some (j : Int)) = TL ((l.drop i).take (j - i)) := by
  have h1 := eq_of_beq (slice_closesL (x := TL l) (i := (i : Int)) (j := (j : Int)) (by omega) (by omega) (by rw [TL_len]; omega))
  rw [h1]
  show TL ((l.toArray.toList.drop (i : Int).toNat).take ((j : Int) - i).toNat) = _
  have e : ((j : Int) - i).toNat = j - i := by omega
  rw [Int.toNat_natCast, e]
-- period
theorem per_iff {l : List Nat} {p : Nat} (h : p ≤ l.length) : perB (TL l) (p : Int) = false ↔ l.drop p = l.take (l.length - p) := by
  unfold perB
  have e : (((TL l).length : Int) - p) = ((l.length - p : Nat) : Int) := by rw [TL_len]; omega
  rw [e, sl_from h, sl_to (by omega)]
  constructor
  · intro q
    exact TL_inj (by simpa using q)
  · intro q
    rw [q]
    simp
-- the cut
theorem agF_ge {l : List Nat} {cut many : Nat} (h : l.length ≤ many) : agF (TL l) cut many = true := by
  unfold agF
  refine if_pos ?_
  unfold agH agL
  rw [TL_len]
  split <;> split <;> omega
def lo (cut many : Nat) : Nat := cut - many
def hi (l : List Nat) (cut many : Nat) : Nat := min cut (l.length - many)
theorem agL_lo (cut many : Nat) : agL cut many = (lo cut many : Nat) := by
  unfold agL lo
  split <;> omega
theorem agH_hi {l : List Nat} {cut many : Nat} (h : many ≤ l.length) : agH (TL l).length cut many = (hi l cut many : Nat) := by
  unfold agH hi
  rw [TL_len, Nat.min_def]
  split <;> split <;> omega
theorem agF_iff {l : List Nat} {cut many : Nat} (h : many ≤ l.length) : agF (TL l) cut many = true ↔ (l.drop (lo cut many + many)).take (hi l cut many - lo cut many) = (l.drop (lo cut many)).take (hi l cut many - lo cut many) := by
  unfold agF
  rw [agH_hi h, agL_lo]
  have hh : hi l cut many ≤ l.length - many := Nat.min_le_right _ _
  by_cases c : hi l cut many ≤ lo cut many
  · rw [if_pos (by omega)]
    have e : hi l cut many - lo cut many = 0 := by omega
    rw [e]
    simp
  · rw [if_neg (by omega)]
    have e1 : ((lo cut many : Nat) : Int) + (((hi l cut many : Nat) : Int) - ((lo cut many : Nat) : Int)) = ((hi l cut many : Nat) : Int) := by omega
    rw [e1, sl_mid (by omega) (by omega), TL_len]
    have e2 : ((List.drop (lo cut many) l).take (hi l cut many - lo cut many)).length = hi l cut many - lo cut many := by
      rw [List.length_take, List.length_drop]; omega
    rw [e2]
    have e3 : ((lo cut many : Nat) : Int) + (many : Int) = ((lo cut many + many : Nat) : Int) := by omega
    have e4 : ((lo cut many + many : Nat) : Int) + ((hi l cut many - lo cut many : Nat) : Int) = ((hi l cut many + many : Nat) : Int) := by omega
    rw [e3, e4, sl_mid (by omega) (by omega)]
    have e5 : hi l cut many + many - (lo cut many + many) = hi l cut many - lo cut many := by omega
    rw [e5]
    constructor
    · intro q; exact TL_inj (by simpa using q)
    · intro q; rw [q]; simp
theorem ag_of_per {l : List Nat} {p cut : Nat} (h : p ≤ l.length) (hp : perB (TL l) (p : Int) = false) : agF (TL l) cut p = true := by
  rw [agF_iff h]
  rw [per_iff h] at hp
  have hh : hi l cut p ≤ l.length - p := Nat.min_le_right _ _
  have e : l.drop (lo cut p + p) = (l.drop (lo cut p)).take (l.length - p - lo cut p) := by
    rw [Nat.add_comm, ← List.drop_drop, hp, List.drop_take]
  rw [e, List.take_take]
  congr 1
  omega
-- the least number
theorem lwGo_le {W : PySem.Str} {cut : Int} {p : Int} (e : agF W cut p = true) : ∀ (k : Nat) (i : Int), i ≤ p → p < i + k → lwGo W cut k i ≤ p
  | 0, i, h1, h2 => by omega
  | k + 1, i, h1, h2 => by
    show (if agF W cut i = true then i else lwGo W cut k (i + 1)) ≤ p
    by_cases c : agF W cut i = true
    · rw [if_pos c]; exact h1
    · rw [if_neg c]
      have : i ≠ p := fun h => c (h ▸ e)
      exact lwGo_le e k (i + 1) (by omega) (by omega)
theorem lw_le {l : List Nat} {p cut : Nat} (h0 : 1 ≤ p) (h : p ≤ l.length) (hp : perB (TL l) (p : Int) = false) : lwF (TL l) cut ≤ p :=
  lwGo_le (ag_of_per h hp) _ 1 (by omega) (by rw [TL_len]; omega)
-- the greatest ends
def gtL : List Nat → List Nat → Bool
  | [], _ => false
  | _ :: _, [] => true
  | x :: a, y :: b => bif Nat.beq x y then gtL a b else Nat.blt y x
theorem item_TL {l : List Nat} {k : Nat} (h : k < l.length) : Txt.item (TL l) (k : Int) = ⟨#[l[k]]⟩ := by
  unfold Txt.item Txt.charAt
  have e : seqIndex? (k : Int) (TL l).length = some k := by
    unfold seqIndex?
    rw [TL_len]
    simp
    omega
  rw [e]
  simp [h]
theorem otGo_gt {a b : List Nat} : ∀ (n k : Nat), n + k = min a.length b.length → (decide (otGo (TL a) (TL b) n (k : Int) > 0)) = gtL (a.drop k) (b.drop k)
  | 0, k, h => by
    unfold otGo
    rw [TL_len, TL_len]
    have hm : min a.length b.length = k := by omega
    rw [Nat.min_def] at hm
    by_cases c : a.length ≤ b.length
    · rw [if_pos c] at hm
      have : a.drop k = [] := List.drop_eq_nil_of_le (by omega)
      rw [this]
      split
      · rfl
      · rw [if_pos (by omega)]; rfl
    · rw [if_neg c] at hm
      have : b.drop k = [] := List.drop_eq_nil_of_le (by omega)
      rw [this, if_neg (by omega), if_neg (by omega), List.drop_eq_getElem_cons (by omega)]
      rfl
  | n + 1, k, h => by
    have hm : min a.length b.length = n + 1 + k := by omega
    have ha : k < a.length := by rw [Nat.min_def] at hm; split at hm <;> omega
    have hb : k < b.length := by rw [Nat.min_def] at hm; split at hm <;> omega
    unfold otGo
    rw [item_TL ha, item_TL hb, List.drop_eq_getElem_cons ha, List.drop_eq_getElem_cons hb]
    show _ = (bif Nat.beq a[k] b[k] then gtL (a.drop (k + 1)) (b.drop (k + 1)) else Nat.blt b[k] a[k])
    by_cases c : a[k] = b[k]
    · rw [c]
      rw [if_neg (by simp)]
      have := otGo_gt (a := a) (b := b) n (k + 1) (by omega)
      rw [Nat.beq_refl, cond_true, ← this]
      rfl
    · have c1 : Nat.beq a[k] b[k] = false := by
        rw [Bool.eq_false_iff]
        exact fun q => c (Nat.eq_of_beq_eq_true q)
      rw [c1, cond_false, if_pos (by simpa using c)]
      have e1 : ((#[a[k]] : Array Nat).getD 0 0 : Nat) = a[k] := rfl
      have e2 : ((#[b[k]] : Array Nat).getD 0 0 : Nat) = b[k] := rfl
      rw [e1, e2]
      by_cases d : a[k] < b[k]
      · rw [if_pos (by omega)]
        have : Nat.blt b[k] a[k] = false := by
          rw [Bool.eq_false_iff]
          intro q
          have := Nat.blt_eq.mp q
          omega
        rw [this]; rfl
      · rw [if_neg (by omega)]
        have : Nat.blt b[k] a[k] = true := Nat.blt_eq.mpr (by omega)
        rw [this]; rfl
theorem otF_gt (a b : List Nat) : (decide (otF (TL a) (TL b) > 0)) = gtL a b := by
  have h := otGo_gt (a := a) (b := b) (otN (TL a) (TL b)) 0 (by
    unfold otN
    rw [TL_len, TL_len, Nat.min_def]
    split <;> split <;> omega)
  exact h
def grL (l : List Nat) : Nat := (List.range (l.length - 1)).foldl (fun best k => bif gtL (l.drop (1 + k)) (l.drop best) then 1 + k else best) 0
theorem grF_eq (l : List Nat) : grF (TL l) = (grL l : Nat) := by
  have key : ∀ (ks : List Nat) (b : Nat), (∀ k ∈ ks, 1 + k ≤ l.length) → b ≤ l.length →
      ((ks.map fun (i : Nat) => (1 : Int) + (i : Int)).foldl (grStep (TL l)) (b : Int)) = ((ks.foldl (fun best k => bif gtL (l.drop (1 + k)) (l.drop best) then 1 + k else best) b : Nat) : Int) := by
    intro ks
    induction ks with
    | nil => intro b _ _; rfl
    | cons k r ih =>
      intro b h hb
      have hk := h k (.head _)
      have h1 : grStep (TL l) (b : Int) ((1 : Int) + (k : Int)) = ((bif gtL (l.drop (1 + k)) (l.drop b) then 1 + k else b : Nat) : Int) := by
        unfold grStep
        have e : (1 : Int) + (k : Int) = ((1 + k : Nat) : Int) := by omega
        rw [e, sl_from hk, sl_from hb]
        have := otF_gt (l.drop (1 + k)) (l.drop b)
        rw [← this]
        by_cases c : otF (TL (l.drop (1 + k))) (TL (l.drop b)) > 0
        · rw [if_pos c, decide_eq_true c]; rfl
        · rw [if_neg c, decide_eq_false c]; rfl
      show List.foldl (grStep (TL l)) (grStep (TL l) (b : Int) ((1 : Int) + (k : Int))) _ = _
      rw [h1]
      refine ih _ (fun x hx => h x (.tail _ hx)) ?_
      cases gtL (l.drop (1 + k)) (l.drop b)
      · exact hb
      · exact hk
  unfold grF grL rangeKs
  have e : (((TL l).length : Int) - 1).toNat = l.length - 1 := by rw [TL_len]; omega
  rw [e]
  exact key (List.range (l.length - 1)) 0 (fun k hk => by have := List.mem_range.mp hk; omega) (by omega)
-- the exchanged word
def sw (n : Nat) : Nat := bif Nat.beq n 97 then 99 else bif Nat.beq n 99 then 97 else n
def Abc (n : Nat) : Prop := n = 97 ∨ n = 98 ∨ n = 99
theorem join_TL (l : List Nat) : Txt.join (PySem.Str.ofString "") (l.map fun k => (⟨#[k]⟩ : PySem.Str)) = TL l := by
  show Builtin.Str.glued (PySem.Str.ofString "") _ = _
  rw [StrLaws.glued_eq_join]
  have e : PySem.Str.ofString "" = ⟨#[]⟩ := by decide +kernel
  rw [e]
  exact PyProof.Rows.join_ones l
theorem rsC_sw {n : Nat} (h : Abc n) : rsC ⟨#[n]⟩ = ⟨#[sw n]⟩ := by
  rcases h with h | h | h <;> subst h <;> decide +kernel
theorem rsF_TL {l : List Nat} (h : ∀ x ∈ l, Abc x) : rsF (TL l) = TL (l.map sw) := by
  unfold rsF
  have e : (signs (TL l)).map rsC = (l.map sw).map fun k => (⟨#[k]⟩ : PySem.Str) := by
    show (l.map fun n => (⟨#[n]⟩ : PySem.Str)).map rsC = _
    rw [List.map_map, List.map_map]
    exact List.map_congr_left fun x hx => rsC_sw (h x hx)
  rw [e, join_TL]
theorem letter (m : Int) : ∃ x, Abc x ∧ Txt.item (PySem.Str.ofString "abc") (m.fmod 3) = ⟨#[x]⟩ := by
  have h0 : 0 ≤ m.fmod 3 := Int.fmod_nonneg_of_pos m (by decide)
  have h1 : m.fmod 3 < 3 := Int.fmod_lt_of_pos m (by decide)
  have h : m.fmod 3 = 0 ∨ m.fmod 3 = 1 ∨ m.fmod 3 = 2 := by omega
  rcases h with h | h | h <;> rw [h]
  · exact ⟨97, .inl rfl, by decide +kernel⟩
  · exact ⟨98, .inr (.inl rfl), by decide +kernel⟩
  · exact ⟨99, .inr (.inr rfl), by decide +kernel⟩
theorem letters (c1 : Int) : ∀ ks : List Int, ∃ l : List Nat, l.length = ks.length ∧ (∀ x ∈ l, Abc x) ∧ ks.map (wordG c1) = l.map fun k => (⟨#[k]⟩ : PySem.Str)
  | [] => ⟨[], rfl, (fun x h => nomatch h), rfl⟩
  | k :: r => by
    obtain ⟨l, h1, h2, h3⟩ := letters c1 r
    obtain ⟨x, hx, ex⟩ := letter (c1.fdiv (3 ^ k.toNat))
    refine ⟨x :: l, by rw [List.length_cons, List.length_cons, h1], fun y hy => ?_, ?_⟩
    · cases hy with
      | head => exact hx
      | tail _ h => exact h2 y h
    · rw [List.map_cons, List.map_cons, h3]
      exact congrArg (· :: _) ex
theorem abc_list {W : PySem.Str} (h : AbcWord W) : ∃ l : List Nat, 2 ≤ l.length ∧ l.length ≤ 6 ∧ (∀ x ∈ l, Abc x) ∧ W = TL l := by
  obtain ⟨c1, n, h2, h6, rfl⟩ := h
  obtain ⟨l, e1, e2, e3⟩ := letters c1 (rangeKs 0 n)
  rw [rangeKs_length] at e1
  refine ⟨l, by omega, by omega, e2, ?_⟩
  rw [e3, join_TL]
-- the finite check
def eqL : List Nat → List Nat → Bool
  | [], [] => true
  | x :: a, y :: b => bif Nat.beq x y then eqL a b else false
  | _, _ => false
theorem eqL_iff : ∀ (a b : List Nat), eqL a b = true ↔ a = b
  | [], [] => ⟨fun _ => rfl, fun _ => rfl⟩
  | [], _ :: _ => ⟨(nomatch ·), (nomatch ·)⟩
  | _ :: _, [] => ⟨(nomatch ·), (nomatch ·)⟩
  | x :: a, y :: b => by
    show (bif Nat.beq x y then eqL a b else false) = true ↔ _
    by_cases h : x = y
    · subst h
      rw [Nat.beq_refl, cond_true, eqL_iff a b]
      simp
    · have c1 : Nat.beq x y = false := by
        rw [Bool.eq_false_iff]
        exact fun q => h (Nat.eq_of_beq_eq_true q)
      rw [c1, cond_false]
      simp [h]
def cutL (l : List Nat) : Nat := bif Nat.blt (grL l) (grL (l.map sw)) then grL (l.map sw) else grL l
def perL (l : List Nat) (p : Nat) : Bool := eqL (l.drop p) (l.take (l.length - p))
def agB (l : List Nat) (cut many : Nat) : Bool := eqL ((l.drop (lo cut many + many)).take (hi l cut many - lo cut many)) ((l.drop (lo cut many)).take (hi l cut many - lo cut many))
def chkP (l : List Nat) (c : Nat) : Nat → Nat → Bool
  | 0, _ => true
  | k + 1, p => bif perL l p then Nat.blt c p else bif agB l c p then false else chkP l c k (p + 1)
def chk (l : List Nat) : Bool := [0, 1, 2, 3, 4, 5].all fun c => bif Nat.beq (cutL l) c then chkP l c l.length 1 else true
def allW : Nat → (List Nat → Bool) → Bool
  | 0, f => f []
  | n + 1, f => bif allW n (fun r => f (97 :: r)) then bif allW n (fun r => f (98 :: r)) then allW n (fun r => f (99 :: r)) else false else false
theorem allW_of : ∀ (n : Nat) (f : List Nat → Bool), allW n f = true → ∀ l : List Nat, l.length = n → (∀ x ∈ l, Abc x) → f l = true
  | 0, f, h, l, e, _ => by
    have : l = [] := List.eq_nil_of_length_eq_zero e
    subst this
    exact h
  | n + 1, f, h, l, e, a => by
    match l, e with
    | x :: r, e =>
      have er : r.length = n := by rw [List.length_cons] at e; omega
      have ar : ∀ y ∈ r, Abc y := fun y hy => a y (.tail _ hy)
      have h' : (bif allW n (fun r => f (97 :: r)) then bif allW n (fun r => f (98 :: r)) then allW n (fun r => f (99 :: r)) else false else false) = true := h
      cases h1 : allW n (fun r => f (97 :: r)) with
      | false => rw [h1] at h'; exact nomatch h'
      | true =>
        cases h2 : allW n (fun r => f (98 :: r)) with
        | false => rw [h1, h2] at h'; exact nomatch h'
        | true =>
          rw [h1, h2] at h'
          rcases a x (.head _) with q | q | q <;> subst q
          · exact allW_of n _ h1 r er ar
          · exact allW_of n _ h2 r er ar
          · exact allW_of n _ h' r er ar
theorem w2 : allW 2 chk = true := by decide +kernel
theorem w3 : allW 3 chk = true := by decide +kernel
theorem w4 : allW 4 chk = true := by decide +kernel
theorem w5_97 : allW 4 (fun r => chk (97 :: r)) = true := by decide +kernel
theorem w5_98 : allW 4 (fun r => chk (98 :: r)) = true := by decide +kernel
theorem w5_99 : allW 4 (fun r => chk (99 :: r)) = true := by decide +kernel
theorem w6_97_97 : allW 4 (fun r => chk (97 :: 97 :: r)) = true := by decide +kernel
theorem w6_97_98 : allW 4 (fun r => chk (97 :: 98 :: r)) = true := by decide +kernel
theorem w6_97_99 : allW 4 (fun r => chk (97 :: 99 :: r)) = true := by decide +kernel
theorem w6_98_97 : allW 4 (fun r => chk (98 :: 97 :: r)) = true := by decide +kernel
theorem w6_98_98 : allW 4 (fun r => chk (98 :: 98 :: r)) = true := by decide +kernel
theorem w6_98_99 : allW 4 (fun r => chk (98 :: 99 :: r)) = true := by decide +kernel
theorem w6_99_97 : allW 4 (fun r => chk (99 :: 97 :: r)) = true := by decide +kernel
theorem w6_99_98 : allW 4 (fun r => chk (99 :: 98 :: r)) = true := by decide +kernel
theorem w6_99_99 : allW 4 (fun r => chk (99 :: 99 :: r)) = true := by decide +kernel
theorem chk_all {l : List Nat} (h2 : 2 ≤ l.length) (h6 : l.length ≤ 6) (a : ∀ x ∈ l, Abc x) : chk l = true := by
  have hl : l.length = 2 ∨ l.length = 3 ∨ l.length = 4 ∨ l.length = 5 ∨ l.length = 6 := by omega
  rcases hl with e | e | e | e | e
  · exact allW_of 2 _ w2 l e a
  · exact allW_of 3 _ w3 l e a
  · exact allW_of 4 _ w4 l e a
  · match l, e with
    | x :: r, e =>
      have er : r.length = 4 := by rw [List.length_cons] at e; omega
      have ar : ∀ y ∈ r, Abc y := fun y hy => a y (.tail _ hy)
      rcases a x (.head _) with q | q | q <;> subst q
      · exact allW_of 4 _ w5_97 r er ar
      · exact allW_of 4 _ w5_98 r er ar
      · exact allW_of 4 _ w5_99 r er ar
  · match l, e with
    | x :: y :: r, e =>
      have er : r.length = 4 := by rw [List.length_cons, List.length_cons] at e; omega
      have ar : ∀ y ∈ r, Abc y := fun y hy => a y (.tail _ (.tail _ hy))
      rcases a x (.head _) with q | q | q <;> subst q <;> rcases a y (.tail _ (.head _)) with q | q | q <;> subst q
      · exact allW_of 4 _ w6_97_97 r er ar
      · exact allW_of 4 _ w6_97_98 r er ar
      · exact allW_of 4 _ w6_97_99 r er ar
      · exact allW_of 4 _ w6_98_97 r er ar
      · exact allW_of 4 _ w6_98_98 r er ar
      · exact allW_of 4 _ w6_98_99 r er ar
      · exact allW_of 4 _ w6_99_97 r er ar
      · exact allW_of 4 _ w6_99_98 r er ar
      · exact allW_of 4 _ w6_99_99 r er ar
theorem chkP_of {l : List Nat} {c p : Nat} (hp : perL l p = true) : ∀ (k i : Nat), i ≤ p → p < i + k → chkP l c k i = true → (∀ j, i ≤ j → j < p → perL l j = false) → c < p ∧ ∀ j, i ≤ j → j < p → agB l c j = false
  | 0, i, h1, h2, _, _ => by omega
  | k + 1, i, h1, h2, h, hj => by
    have h' : (bif perL l i then Nat.blt c i else bif agB l c i then false else chkP l c k (i + 1)) = true := h
    by_cases e : i = p
    · subst e
      rw [hp, cond_true] at h'
      exact ⟨Nat.blt_eq.mp h', fun j a b => by omega⟩
    · rw [hj i (Nat.le_refl _) (by omega), cond_false] at h'
      cases ha : agB l c i with
      | true => rw [ha] at h'; exact nomatch h'
      | false =>
        rw [ha, cond_false] at h'
        obtain ⟨q1, q2⟩ := chkP_of hp k (i + 1) (by omega) (by omega) h' (fun j a b => hj j (by omega) b)
        refine ⟨q1, fun j a b => ?_⟩
        by_cases ej : j = i
        · rw [ej]; exact ha
        · exact q2 j (by omega) b
theorem perL_of {l : List Nat} {p : Nat} (h : p ≤ l.length) : perL l p = !perB (TL l) (p : Int) := by
  cases e : perB (TL l) (p : Int) with
  | false => exact (eqL_iff _ _).mpr ((per_iff h).mp e)
  | true =>
    rw [Bool.not_true, Bool.eq_false_iff]
    intro q
    have := (per_iff h).mpr ((eqL_iff _ _).mp q)
    rw [e] at this
    exact nomatch this
theorem agB_of {l : List Nat} {cut many : Nat} (h : many ≤ l.length) : agB l cut many = agF (TL l) cut many := by
  cases e : agB l cut many with
  | true => exact ((agF_iff h).mpr ((eqL_iff _ _).mp e)).symm
  | false =>
    refine (Bool.eq_false_iff.mpr fun q => ?_).symm
    have : agB l cut many = true := (eqL_iff _ _).mpr ((agF_iff h).mp q)
    rw [e] at this
    exact nomatch this
theorem cutF_eq {l : List Nat} (a : ∀ x ∈ l, Abc x) : cutF (TL l) = (cutL l : Nat) := by
  unfold cutF cutL
  rw [rsF_TL a, grF_eq, grF_eq]
  by_cases h : grL l < grL (l.map sw)
  · rw [if_pos (by omega), Nat.blt_eq.mpr h]; rfl
  · rw [if_neg (by omega)]
    have : Nat.blt (grL l) (grL (l.map sw)) = false := Bool.eq_false_iff.mpr fun q => h (Nat.blt_eq.mp q)
    rw [this]; rfl
theorem grL_lt {l : List Nat} (h : 1 ≤ l.length) : grL l < l.length := by
  have key : ∀ (ks : List Nat) (b : Nat), (∀ k ∈ ks, 1 + k < l.length) → b < l.length → (ks.foldl (fun best k => bif gtL (l.drop (1 + k)) (l.drop best) then 1 + k else best) b) < l.length := by
    intro ks
    induction ks with
    | nil => intro b _ hb; exact hb
    | cons k r ih =>
      intro b h hb
      refine ih _ (fun x hx => h x (.tail _ hx)) ?_
      show (bif gtL (l.drop (1 + k)) (l.drop b) then 1 + k else b) < l.length
      cases gtL (l.drop (1 + k)) (l.drop b)
      · exact hb
      · exact h k (.head _)
  exact key _ 0 (fun k hk => by have := List.mem_range.mp hk; omega) (by omega)
theorem cutL_lt {l : List Nat} (h : 1 ≤ l.length) : cutL l < l.length := by
  unfold cutL
  have h2 := grL_lt (l := l.map sw) (by rw [List.length_map]; exact h)
  rw [List.length_map] at h2
  cases Nat.blt (grL l) (grL (l.map sw))
  · exact grL_lt h
  · exact h2
theorem crit_list {l : List Nat} {p : Nat} (h2 : 2 ≤ l.length) (h6 : l.length ≤ 6) (a : ∀ x ∈ l, Abc x) (h1 : 1 ≤ p) (hp : p ≤ l.length) (hj : ∀ j, 1 ≤ j → j < p → perL l j = false) (e : perL l p = true) :
    cutL l < p ∧ ∀ j, 1 ≤ j → j < p → agB l (cutL l) j = false := by
  have hc := chk_all h2 h6 a
  have hl := cutL_lt (l := l) (by omega)
  have hm : cutL l ∈ [0, 1, 2, 3, 4, 5] := by
    have : cutL l = 0 ∨ cutL l = 1 ∨ cutL l = 2 ∨ cutL l = 3 ∨ cutL l = 4 ∨ cutL l = 5 := by omega
    simpa using this
  have := List.all_eq_true.mp hc _ hm
  rw [Nat.beq_refl, cond_true] at this
  exact chkP_of e _ 1 h1 (by omega) this hj
-- what the law asks
theorem per_len {W : PySem.Str} (h : AbcWord W) : perB W W.length = false := by
  obtain ⟨l, _, _, _, rfl⟩ := abc_list h
  rw [TL_len]
  refine (per_iff (Nat.le_refl _)).mpr ?_
  simp
theorem crit_list2 {l : List Nat} {p : Int} (h2 : 2 ≤ l.length) (h6 : l.length ≤ 6) (a : ∀ x ∈ l, Abc x) (q : prP (TL l) p) (e : perB (TL l) p = false) :
    ∃ n : Nat, p = n ∧ 1 ≤ n ∧ n ≤ l.length ∧ cutL l < n ∧ ∀ j, 1 ≤ j → j < n → agB l (cutL l) j = false := by
  obtain ⟨q1, q2, q3⟩ := q
  rw [TL_len] at q2
  obtain ⟨n, rfl⟩ := Int.eq_ofNat_of_zero_le (show 0 ≤ p by omega)
  have hn : n ≤ l.length := by omega
  have hr := crit_list h2 h6 a (p := n) (by omega) hn (fun j a b => by
    rw [perL_of (by omega)]
    have := q3 (j : Int) (by omega) (by omega)
    rw [this]; rfl) (by
    rw [perL_of hn]
    have e' : perB (TL l) (n : Int) = false := e
    rw [e']; rfl)
  exact ⟨n, rfl, by omega, hn, hr⟩
theorem crit_lt {W : PySem.Str} {p : Int} (h : AbcWord W) (q : prP W p) (e : perB W p = false) : cutF W < p := by
  obtain ⟨l, h2, h6, a, rfl⟩ := abc_list h
  obtain ⟨n, rfl, h1, hn, hc, _⟩ := crit_list2 h2 h6 a q e
  rw [cutF_eq a]
  omega
theorem crit_eq {W : PySem.Str} {p : Int} (h : AbcWord W) (q : prP W p) (e : perB W p = false) : lwF W (cutF W) = p := by
  obtain ⟨l, h2, h6, a, rfl⟩ := abc_list h
  obtain ⟨n, rfl, h1, hn, hc, hj⟩ := crit_list2 h2 h6 a q e
  rw [cutF_eq a]
  have key : ∀ (k i : Nat), i ≤ n → n < i + k → 1 ≤ i → lwGo (TL l) (cutL l : Nat) k (i : Int) = n := by
    intro k
    induction k with
    | zero => intro i a b; omega
    | succ k ih =>
      intro i hi hk h1
      show (if agF (TL l) (cutL l : Nat) (i : Int) = true then (i : Int) else lwGo (TL l) (cutL l : Nat) k ((i : Int) + 1)) = n
      by_cases c : i = n
      · subst c
        rw [if_pos (ag_of_per hn e)]
      · have := hj i h1 (by omega)
        rw [agB_of (by omega)] at this
        rw [this, if_neg Bool.false_ne_true]
        exact ih (i + 1) (by omega) (by omega) (by omega)
  refine key _ 1 (by omega) ?_ (by omega)
  rw [TL_len]
  omega
theorem crit_le {W : PySem.Str} {p : Int} (h : AbcWord W) (q : prP W p) (e : perB W p = false) {k : Int} (h0 : 0 ≤ k) : lwF W k ≤ p := by
  obtain ⟨l, h2, h6, a, rfl⟩ := abc_list h
  obtain ⟨n, rfl, h1, hn, _⟩ := crit_list2 h2 h6 a q e
  obtain ⟨c, rfl⟩ := Int.eq_ofNat_of_zero_le h0
  exact lw_le h1 hn e
end
theorem p3_ne (n : Nat) : (3 : Int) ^ n ≠ 0 := Int.pow_ne_zero (by decide)
theorem p3_log {k : Int} (h : k < 1000) : ((3 : Int) ^ k.toNat).natAbs.log2 < 9000 := by
  rw [Int.natAbs_pow]
  have h1 : (3 : Nat) ^ k.toNat < 2 ^ (2 * k.toNat + 1) := by
    have : (3 : Nat) ^ k.toNat ≤ 4 ^ k.toNat := Nat.pow_le_pow_left (by decide) _
    have e : (4 : Nat) ^ k.toNat = 2 ^ (2 * k.toNat) := by rw [Nat.pow_mul]
    rw [e] at this
    exact Nat.lt_of_le_of_lt this (Nat.pow_lt_pow_right (by decide) (by omega))
  have h2 : ((3 : Nat) ^ k.toNat).log2 < 2 * k.toNat + 1 := (Nat.log2_lt (Nat.ne_of_gt (Nat.pow_pos (by decide)))).mpr h1
  show ((3 : Nat) ^ k.toNat).log2 < 9000
  omega
theorem usual_ints {t u : Tok} {n : Nat} : IntsAre (slicePick #[Value.int 3 t, Value.int 84 u] (some (n : Int)) none none).toList (List.drop ((n : Int)).toNat [3, 84]) :=
  kmk_from (vs := [Value.int 3 t, Value.int 84 u]) (ns := [3, 84]) (.cons _ _ (.cons _ _ .nil)) (Int.natCast_nonneg _)
theorem wordG_def {c1 k : Int} : wordG c1 k = Txt.item (PySem.Str.ofString "abc") ((c1.fdiv (3 ^ k.toNat)).fmod 3) := rfl
theorem join_word {prog : PySem.Program} {w : World} {A : Around} {E : Value → Shared → Prop} {s : Shared} {t : Tok} {Q : Value → Shared → Prop} {D : Addr} {ys : List Value} {c1 : Int} {n : Nat} (hl : s.heap.IsList D ys.toArray) (hc : CarriedAll ys ((rangeKs 0 n).map fun k => PyData.str (wordG c1 k))) (h2 : 2 ≤ n) (h6 : n ≤ 6)
    (h : ∀ (W : PySem.Str) t' k, AbcWord W → 2 ≤ W.length → W.length ≤ 6 → Q (.str W t') { s with toks := k }) :
    wpAny (model prog w) A (call (.builtin "str.join") [.str (PySem.Str.ofString "") t, .ref D]) Q E s := by
  have hlen : (rangeKs 0 n).length = n := rangeKs_length 0 n
  refine KT.join_1 hl hc (fun a _ => rfl) (by omega) fun t' k hk => h _ t' k ⟨c1, n, h2, h6, rfl⟩ ?_ ?_
  · rw [hk, hlen]; exact h2
  · rw [hk, hlen]; exact h6
theorem pr_start {W : PySem.Str} (h : 2 ≤ W.length) : prP W 1 := ⟨by omega, by omega, fun j a b => by omega⟩
theorem pr_lt {W : PySem.Str} {p : Int} (h : AbcWord W) (q : prP W p) (e : perB W p = true) : p < W.length := by
  have : p ≠ W.length := fun x => by rw [x, per_len h] at e; cases e
  have := q.2.1
  omega
theorem pr_step {W : PySem.Str} {p : Int} (h : AbcWord W) (q : prP W p) (e : perB W p = true) : prP W (p + 1) := by
  have := pr_lt h q e
  have := q.1
  refine ⟨by omega, by omega, fun j a b => ?_⟩
  by_cases x : j = p
  · rw [x]; exact e
  · exact q.2.2 j a (by omega)
theorem pr_less {W : PySem.Str} {p : Int} (h : AbcWord W) (q : prP W p) (e : perB W p = true) : prM W (p + 1) < prM W p := by
  have := pr_lt h q e
  unfold prM
  omega
theorem rsF_len (a : PySem.Str) : (rsF a).length = a.length := by
  unfold rsF
  rw [KT.join_ones]
  · simp [signs, PySem.Str.length]
  · intro b hb
    obtain ⟨c, hc, rfl⟩ := List.mem_map.mp hb
    obtain ⟨n, _, rfl⟩ := List.mem_map.mp hc
    exact rsC_len n
theorem at_le {k : Int} {n : Nat} (h : k < 0 + ((((n : Int) - 0).toNat : Nat) : Int)) : k ≤ n := by omega
theorem le100 {a : PySem.Str} (h : a.length ≤ 6) : a.length ≤ 100 := by omega
theorem rs100 {a : PySem.Str} (h : a.length ≤ 6) : (rsF a).length ≤ 100 := by rw [rsF_len]; omega
theorem nums_pos {α : Type} {g : Int → α} {W : PySem.Str} (h : 2 ≤ W.length) : 0 < (List.map g (rangeKs 0 ((W.length : Int) - 0).toNat)).length := by
  rw [List.length_map, rangeKs_length]
  omega
theorem fold_in {a : PySem.Str} {p : Int → Prop} : ∀ (l : List Int) (b : Int), p b → (∀ x ∈ l, p x) → p (l.foldl (grStep a) b)
  | [], _, hb, _ => hb
  | x :: r, b, hb, h => by
    refine fold_in r _ ?_ (fun y hy => h y (.tail _ hy))
    unfold grStep
    split
    · exact h x (.head _)
    · exact hb
theorem gr_bounds {a : PySem.Str} (h : 1 ≤ a.length) : 0 ≤ grF a ∧ grF a < a.length := by
  refine fold_in (p := fun x => 0 ≤ x ∧ x < a.length) _ 0 ⟨by omega, by omega⟩ fun x hx => ?_
  have := mem_rangeKs hx
  omega
theorem cut_ok {W : PySem.Str} (h : 2 ≤ W.length) : 0 ≤ cutF W ∧ cutF W < W.length := by
  have h1 := gr_bounds (a := W) (by omega)
  have h2 := gr_bounds (a := rsF W) (by rw [rsF_len]; omega)
  rw [rsF_len] at h2
  unfold cutF
  split
  · exact h2
  · exact h1
theorem cut_lo {W : PySem.Str} (h : 2 ≤ W.length) : 0 ≤ (if grF (rsF W) > grF W then grF (rsF W) else grF W) := (cut_ok h).1
theorem cut_hi {W : PySem.Str} {g : Int → Int} (h : 2 ≤ W.length) : (if grF (rsF W) > grF W then grF (rsF W) else grF W) < ((List.map g (rangeKs 0 ((W.length : Int) - 0).toNat)).length : Int) := by
  have := (cut_ok h).2
  rw [List.length_map, rangeKs_length]
  unfold cutF at this
  omega
theorem cut_63 {W : PySem.Str} (h : 2 ≤ W.length) (h6 : W.length ≤ 6) : (if grF (rsF W) > grF W then grF (rsF W) else grF W) < 2 ^ 63 := by
  have := (cut_ok h).2
  unfold cutF at this
  omega
theorem end_max {W : PySem.Str} {p M : Int} (h : AbcWord W) (q : prP W p) (e : perB W p = false) (m : M ∈ List.map (fun k' => lwF W k') (rangeKs 0 ((W.length : Int) - 0).toNat)) : (decide (M ≤ p) == true) = true := by
  obtain ⟨k, hk, ek⟩ := List.mem_map.mp m
  have := mem_rangeKs hk
  have : M ≤ p := by rw [← ek]; exact crit_le h q e this.1
  rw [decide_eq_true this]
  rfl
theorem end_cut {W : PySem.Str} {p : Int} (h : AbcWord W) (q : prP W p) (e : perB W p = false) : (decide ((if grF (rsF W) > grF W then grF (rsF W) else grF W) < p) == true) = true := by
  have : (if grF (rsF W) > grF W then grF (rsF W) else grF W) < p := crit_lt h q e
  rw [decide_eq_true this]
  rfl
theorem end_num {W : PySem.Str} {p : Int} (h : AbcWord W) (q : prP W p) (e : perB W p = false) (h2 : 2 ≤ W.length) :
    (((List.map (fun k' => lwF W k') (rangeKs 0 ((W.length : Int) - 0).toNat)).getD (if grF (rsF W) > grF W then grF (rsF W) else grF W).toNat 0 == p) == true) = true := by
  have hc := cut_ok h2
  have e1 := crit_eq h q e
  unfold cutF at hc e1
  generalize (if grF (rsF W) > grF W then grF (rsF W) else grF W) = c at hc e1
  have hl : c.toNat < ((W.length : Int) - 0).toNat := by omega
  have e2 : (rangeKs 0 ((W.length : Int) - 0).toNat)[c.toNat]? = some c := by
    unfold rangeKs
    rw [List.getElem?_map, List.getElem?_range hl]
    show some ((0 : Int) + (c.toNat : Int)) = some c
    congr 1
    omega
  rw [List.getD_eq_getElem?_getD, List.getElem?_map, e2]
  show ((lwF W c == p) == true) = true
  rw [e1]
  simp
local macro_rules | `(tactic| kmk_nums) => `(tactic| k_extra "m1")
local macro_rules | `(tactic| walk_at "binaryOp Pow int int") => `(tactic| k_extra "m2")
local macro_rules | `(tactic| walk_at "binaryOp FloorDiv int int") => `(tactic| k_extra "m3")
local macro_rules | `(tactic| walk_at "CompSrc Subscript cons ref") => `(tactic| k_extra "m4")
local macro_rules | `(tactic| walk_at "call builtin:str.join") => `(tactic| k_extra "myjoin")
local macro_rules | `(tactic| kso_len) => `(tactic| k_extra "m6")
local macro_rules | `(tactic| walk_at "subscriptTail Name Name ref int") => `(tactic| k_extra "myitem")
local macro_rules | `(tactic| kc_close) => `(tactic| k_extra "myclose")
theorem main : PySem.Challenge.rw_xm0937_01.Holds := hd (by
  w_top off
  k_with_none
  k_with "r1" => first
    | (k_here; (with_reducible show wpAny _ _ (compareOp CmpOp.Eq (Value.ref _) (Value.str _ _)) _ _ _); k_dflt (refine' eq_tup_str ?k1Q9 ?k2Q9 ?_; (case k1Q9 => exact News.isTup (by k_asm) (by k_mem)); (case k2Q9 => ktr_units); k_whole))
  k_with "r2" => first
    | (k_here; (with_reducible show wpAny _ _ (compareOp CmpOp.NotIn (Value.str _ _) (Value.ref _)) _ _ _); (with_unfolding_all refine' notin_tuple_strs ?k1Q9 ?k2Q9 ?_; (case k1Q9 => exact kun_topT (by k_asm) (by k_asm) (by k_is)); (case k2Q9 => kde_strs); k_whole))
  k_with "r3" => first
    | (k_here; (with_reducible show wpAny _ _ (compareOp CmpOp.In (Value.str _ _) (Value.ref _)) _ _ _); (with_unfolding_all refine' in_tuple_strs ?k1Q9 ?k2Q9 ?_; (case k1Q9 => exact kun_topT (by k_asm) (by k_asm) (by k_is)); (case k2Q9 => kde_strs); k_whole))
  k_with "r4" => first
    | (k_here; (with_reducible show wpAny _ _ (callWith _ (Value.ref _) _ (backTo _ (starEach [] _)) []) _ _ _); k_dflt (refine' callWith_K0F ?k1Q9 ?k2Q9 ?k3Q9 ?_; (case k1Q9 => k_asm); (case k2Q9 => k_asm); (case k3Q9 => k_is); k_whole; try dsimp only [List.nil_append, List.cons_append]))
    | (k_here; (with_reducible show wpAny _ _ (callWith _ (Value.ref _) _ (backTo _ (starEach (_ :: _) _)) []) _ _ _); k_dflt (refine' callWith_K ?k1Q9 ?k2Q9 ?_ ?k3Q9 ?k4Q9; (case k1Q9 => k_asm); (case k2Q9 => k_is); (case k3Q9 => exact rfl); (case k4Q9 => exact rfl); k_whole))
    | (k_here; (with_reducible show wpAny _ _ (callWith _ (Value.ref _) _ (backTo _ (starEach [] _)) []) _ _ _); k_dflt (refine' callWith_M0 ?k1Q9 ?k2Q9 ?_; (case k1Q9 => k_meth); (case k2Q9 => k_is); k_whole; try dsimp only [List.nil_append, List.cons_append]))
  k_with "r5" => first
    | (k_here; (with_reducible show wpAny _ _ (subscriptTail _ _ (Value.ref _) (Value.int _ _)) _ _ _); k_dflt (refine' item_tupleT ?tQ9 ?aQ9 ?bQ9 ?cQ9 ?dQ9 ?_; (case tQ9 => exact News.isTup (by k_asm) (by k_mem)); (case aQ9 => decide); (case bQ9 => decide); (case cQ9 => rfl); (case dQ9 => rfl); k_whole))
  k_with "updp" => first | exact UpdP.head | (refine' UpdP.tail ?uQ9; (case uQ9 => k_extra "updp"))
  k_with "updq" => first | exact UpdQ.head | (refine' UpdQ.tail ?uQ9; (case uQ9 => k_extra "updq"))
  k_with "updq2" => first | exact UpdQ2.head | (refine' UpdQ2.tail ?uQ9; (case uQ9 => k_extra "updq2"))
  k_with "as_mem" => first | exact List.Mem.head _ | (refine' List.Mem.tail _ ?_; k_extra "as_mem")
  k_with "srt_ne" => ((rename Srt _ _ => hSrt); (first | exact Srt.ne0 hSrt (by k_extra "as_mem") | (replace hSrt := Srt.tail hSrt; k_extra "srt_ne")))
  k_with "upd" => first
    | ((rename Srt _ _ => hSrt); (refine' Srt.upd hSrt rfl (by k_extra "as_mem") ?uQ9); (case uQ9 => k_extra "updp"))
  k_with "updF" => first
    | ((rename Srt _ _ => hSrt); (refine' Srt.updF hSrt rfl (by k_extra "as_mem") ?uQ9); (case uQ9 => k_extra "updq"))
  k_with "m1" => first
    | exact usual_ints
  k_with "m2" => first
    | (k_here; (with_reducible refine pow_int_small ?kb1Q9 ?kb2Q9 ?kb3Q9 ?_); (case kb1Q9 => omega); (case kb2Q9 => omega); (case kb3Q9 => decide))
  k_with "m3" => first
    | (k_here; (with_reducible refine floordiv_int ?kbeQ9 ?_ (Or.inl (PyProof.noPylong_of_log2 ?kbpQ9))); (case kbeQ9 => exact p3_ne _); (case kbpQ9 => exact p3_log (by omega)))
  k_with "m4" => first
    | (k_here; (try k_fmods); k_dflt (refine LCg.CompSrc.range (by rfl) (by k_asm) (by k_asm) (by assumption) (by first | decide | exact small_one (by l_bnd) (by l_bnd) (by l_bnd) (by l_bnd)) (by first | exact rangeSize_nat _ _ | rfl) (by first | (rw [PySem.sizeLine_eq]; omega) | size_fits) ?_; intro g'; (refine' kct_range (wordG _) (fun k' t' I' oI' C' oC' D' m' ys' h' tk' E' hlo' hhi' hC' hx' F' N' off' ne' mk' => ?_) ?_)))
  k_with "m6" => first
    | exact nums_pos (by assumption)
  k_go0
  (all_goals try k_fold)
  k_with "CompEnd" => (unfold PyProof.Rows.LCg.CompEnd; (refine ⟨_, _, _, rfl, ?_, ?_, ?_, trivial, kct_el ?_ rfl rfl⟩); k_asm; k_asm; assumption; with_reducible exact wordG_def)
  k_with "myjoin" => (k_here; k_dflt (refine join_word (News.isList (by k_asm) (by k_mem)) (by assumption) (by omega) (by omega) ?_); intro W9 t9 k9 hW9 hW2 hW6)
  k_with "exec While Compare cons nil" => (k_while (fun _ p => prP W9 p) (fun _ p => prM W9 p) "period")
  k_with "state" => first | exact pr_start hW2 | exact pr_step hW9 (by assumption) (by assumption)
  k_with "measure" => exact pr_less hW9 (by assumption) (by assumption)
  k_with "call ref" => first | (k_here; k_dflt (refine' ClaimN.use (great_c _ _ _ _ _ _ _ _ _ _ ?h1) ?kB ?kF ?kX ?kN ?kT ?kk ?kd ?ku ?_; (case kB => k_asm); (case kF => k_asm); (case kX => k_asm); (case kN => k_asm); (case kT => k_asm); (case kk => first | exact rfl | assumption); (case kd => ktr_room); (case ku => ktr_units); (case h1 => first | exact le100 hW6 | exact rs100 hW6)); intro t9 h9 tk9 F9 N9) | (k_here; k_dflt (refine' ClaimN.use (repl_c _ _ _ _ _ _ _ _ _ _ _ _ ?h1) ?kB ?kF ?kX ?kN ?kT ?kk ?kd ?ku ?_; (case kB => k_asm); (case kF => k_asm); (case kX => k_asm); (case kN => k_asm); (case kT => k_asm); (case kk => first | exact rfl | assumption); (case kd => ktr_room); (case ku => ktr_units); (case h1 => exact le100 hW6)); intro t9 h9 tk9 F9 N9) | (k_here; k_dflt (refine' ClaimN.use (least_c _ _ _ _ _ _ _ _ _ _ _ _ ?h1 ?h2 ?h3 ?h4) ?kB ?kF ?kX ?kN ?kT ?kk ?kd ?ku ?_; (case kB => k_asm); (case kF => k_asm); (case kX => k_asm); (case kN => k_asm); (case kT => k_asm); (case kk => first | exact rfl | assumption); (case kd => ktr_room); (case ku => ktr_units); (case h1 => assumption); (case h2 => exact at_le (by assumption)); (case h3 => exact hW6); (case h4 => exact Nat.le_trans (by decide) hW2)); intro t9 h9 tk9 F9 N9)
  k_with "myitem" => (k_here; (with_unfolding_all refine' item_list_ints ?k1 ?k2 ?k3 ?k4 ?k5 ?_; (case k1 => is_list); (case k2 => l_ints); (case k3 => exact cut_lo hW2); (case k4 => exact cut_hi hW2); (case k5 => exact cut_63 hW2 hW6); k_whole); intro t9)
  k_with "myclose" => (kc_bool; (refine goodW_bool (by assumption) (by assumption) (raisesW_false ?_) ?_); (· wrow_none_raised); (refine postW_of (by wrow_shape) (w_eq_bool (w_res rfl) w_lit) ?_); first | exact end_max hW9 (by assumption) (by assumption) (by assumption) | exact end_num hW9 (by assumption) (by assumption) hW2 | exact end_cut hW9 (by assumption) (by assumption))
  k_steps)
end Mine
theorem PySem.Challenge.cw_xm0937_01_holds : PySem.Challenge.rw_xm0937_01.Holds :=
  Mine.main
