import PyProof.Rows.All
import Wide.All
import OpenK.AllK
import Wide.FinOn
import PySem.Challenge.RW_pb0168_01
set_option Elab.async false
set_option maxRecDepth 100000
set_option maxHeartbeats 8000000

-- the head
section
open PySem PySem.W PyProof.Rows
namespace PB
/-- the top's statements but the three that set __name__ -/
noncomputable abbrev viewBody : List Stmt := (⟨[Stmt.FunctionDef _ _ _ _ _ _ _ _ _ _, Stmt.ClassDef _ _ _ _ _ _ _ _ _ _ _, Stmt.ClassDef _ _ _ _ _ _ _ _ _ _ _, Stmt.FunctionDef _ _ _ _ _ _ _ _ _ _, Stmt.FunctionDef _ _ _ _ _ _ _ _ _ _,
    Stmt.ClassDef _ _ _ _ _ _ _ _ _ _ _, Stmt.ClassDef _ _ _ _ _ _ _ _ _ _ _, Stmt.FunctionDef _ _ _ _ _ _ _ _ _ _, Stmt.FunctionDef _ _ _ _ _ _ _ _ _ _, Stmt.Assign _ _ _, Stmt.FunctionDef _ _ _ _ _ _ _ _ _ _,
    Stmt.FunctionDef _ _ _ _ _ _ _ _ _ _, Stmt.FunctionDef _ _ _ _ _ _ _ _ _ _, Stmt.FunctionDef _ _ _ _ _ _ _ _ _ _], rfl⟩ :
  { l : List Stmt // ((PySem.Challenge.pw_pb0168_01.main.body.zipIdx.filter fun x => ![1, 6, 9].contains x.2).map (·.1)) = l }).1
noncomputable def hd.view_39 : Program := { PySem.Challenge.pw_pb0168_01 with main := { PySem.Challenge.pw_pb0168_01.main with body := viewBody } }
theorem left_of_boot {p q : Program} {loose : List Str} {Xt : Shared → Bool} {α : Type} {Yf : Shared → α} {Ya : World → α} {N : Nat} {g0 : Bool} {H₀ : Params → Heap} {gs₀ : Array GenState} {d₀ : Drawn} {k₀ : Nat}
    (open_ : ∀ w : World, (fencedOpening treeTable p w N).map (fun s => (s.heap, s.gens, s.drawn, s.toks)) = some (H₀ w.params, gs₀, d₀, k₀))
    (rest : ∀ (w : World) (os : OsState), (topFrom treeTable p w N ⟨H₀ w.params, gs₀, d₀, k₀, os⟩).map (fun s => (openSeen q loose (importedModules p.main.body) Xt g0 s, Yf s)) = some (openGood q loose, Ya w)) : LeftO p q loose Xt Yf Ya N g0 := fun w => by
  have o := open_ w
  unfold openEnds
  cases hs : fencedOpening treeTable p w N with
  | none => rw [hs] at o; cases o
  | some s =>
    rw [hs] at o
    cases s
    simp only [Option.map_some, Option.some.injEq, Prod.mk.injEq] at o
    obtain ⟨rfl, rfl, rfl, rfl⟩ := o
    exact rest w _
theorem booted (w : World) : (fencedOpening treeTable PySem.Challenge.rw_pb0168_01.row.prog w 3190).map (fun s => (s.heap, s.gens, s.drawn, s.toks)) = some (boot_heap w.params, Array.mk [], boot_drawn, boot_toks) :=
  boot_open (by kernel_rfl) rfl (fun s => by kernel_rfl) w
section
set_option hygiene false in
local macro_rules | `(tactic| o_head $H) => `(tactic| (
  refine holds_open (r := PySem.Challenge.rw_pb0168_01.row) (q := hd.view_39) (loose := [Str.ofString "Plan"]) (Xt := fun s => xlAt hd.view_39 [] s && recOk (RowW.records PySem.Challenge.rw_pb0168_01.row.toRowW) s) (XP := XL hd.view_39 []) (Yf := Hook.obs $H) (Ya := Hook.val $H) (YP := Hook.says $H) (N := 3190) ?hl (Hook.of $H) (Hook.keeps $H)
    (fun s e => xl_of s (Bool.and_eq_true_iff.mp e).1) XL.keeps (by rfl) (by rfl) (by rfl) (fun s e => recFacts_of (Bool.and_eq_true_iff.mp e).2) (by rfl) (by assumption) (by decide +kernel) ⟨rfl, rfl, rfl, rfl, rfl, by decide +kernel⟩ ?hw ?hc
  (case hl => (
    refine left_of_boot (H₀ := boot_heap) (gs₀ := Array.mk []) (d₀ := boot_drawn) (k₀ := boot_toks) booted ?_
    intro w os
    first
      | (unfold topFrom
         rw [PySem.W.Fast.te14082659384304107361, PySem.W.Fast.te14364793385576792824, PySem.W.Fast.te4187177175401517315]
         show Option.map _ (match _ with | true => Option.bind (PySem.W.Fast.tw14082659384304107361 _ PySem.Challenge.pw_pb0168_01 _ _ _ _ _ _) _ | false => _) = _
         rw [PySem.W.Fast.te11179629144725210802]
         kernel_rfl)
      | kernel_rfl))))
open_top hd for PySem.Challenge.rw_pb0168_01
end
end PB

end

open PySem PySem.W PySem.Calls PySem.Spec PyProof.Rows
namespace PB

-- part PBbase

section
variable {prog : Program} {w : World} {K : Frag} {p : Program} {loose : List Str} {mean : ExcName → Option Value} {mg mb : Str → Option Value}

/-- what stands behind a called body's end: the heap, its frame over g, and what is said of it -/
def Back (s : Shared) (g : Heap) (L' : Addr) (Post : Value → Heap → Prop) (v : Value) (s' : Shared) : Prop :=
  ∃ h' tk m', s' = { s with heap := h', toks := tk } ∧ Fr g L' h' m' ∧ Post v h'

theorem Back.mk' {s : Shared} {g : Heap} {L' : Addr} {Post : Value → Heap → Prop} {v : Value} {h' : Heap} {tk : Nat} {m' : Str → Option Value} (F : Fr g L' h' m') (q : Post v h') :
    Back s g L' Post v { s with heap := h', toks := tk } := ⟨h', tk, m', rfl, F, q⟩

theorem enter {dp un : Nat} {gd : Option (List Code)} {cn : Str} {cs : Scope} {a : Addr} {ccd : Value} {cl : List (Str × Addr)} {outer : List Env} {A₀ : Around} {base h₀ : Heap} {L : Addr} {m : Str → Option Value} {s : Shared} {Q E : Value → Shared → Prop}
    {name qual : Str} {params : Arguments} {body : List Stmt} {scope : Scope} {dV kV doc pm cdv ct oc : Value} {an od : Option Addr} {osl : Array (Option Value)} {f : Addr} {args : List Value} {binds : List (Str × Value)} {D : List Addr} {Post : Value → Heap → Prop}
    (B : Below A₀ base outer h₀) (F : Fr h₀ L s.heap m) (X : K.In h₀) (T : Top p loose mean mg mb h₀) (hke : cs.kind = .function) (hroom : dp < recursionLimit)
    (ho : K.lookup f = some ⟨oc, od, .func (fnOf name qual params body scope dV kV doc pm an cdv ct), osl⟩) (hcd : codeIn K cdv qual = true)
    (hbind : BindsTo s (fnOf name qual params body scope dV kV doc pm an cdv ct) ⟨args, []⟩ binds) (hloc : ∀ y ∈ binds, scope.names.lookup y.1 = some .local)
    (hD : ∀ d ∈ D, h₀.get? d = none ∧ d ≠ L) (hDl : ∀ d ∈ D, ∃ o, s.heap.get? d = some o)
    (ret : ∀ r h' tk', Fr h₀ L h' m → (∀ b o, b ∉ D → s.heap.get? b = some o → h'.get? b = some o) → Post r h' → Q r { s with heap := h', toks := tk' })
    (h : ∀ g L' h₁, (∀ b o, g.get? b = some o → s.heap.get? b = some o) → (∀ b o, b ∉ D → s.heap.get? b = some o → g.get? b = some o) → (∀ b o, s.heap.get? b = some o → h₁.get? b = some o) →
      (∀ d ∈ D, g.get? d = none ∧ d ≠ L') → L' = s.heap.objs.size → Fr g L' h₁ (fun y => binds.reverse.lookup y) → Below (ktrTop dp un gd cn cs L a ccd cl outer) base (envX cn cs L a ccd cl :: outer) g → K.In g → Top p loose mean mg mb g →
      wpAny (model prog w) ((ktrTop dp un gd cn cs L a ccd cl outer).deeper (envOf qual scope L' f cdv)) (execs body (envOf qual scope L' f cdv))
        (fun fl s' => Back s g L' Post (match fl with | .ret v => v | _ => .none) s') (fun _ _ => False)
        { s with heap := h₁, toks := s.toks + binds.length })
    (hcell : ∀ x ∈ scope.names, x.2 ≠ .cell) (hco : scope.isCoroutine = false) (hgen : scope.isGenerator = false) (hk : scope.kind = .function) :
    wpAny (model prog w) (ktrTop dp un gd cn cs L a ccd cl outer) (call (.ref f) args) Q E s := by
  have nm : ∀ b o, h₀.get? b = some o → b ∉ D := fun b o e q => by rw [(hD b q).1] at e; cases e
  have st : h₀.StaysIn (hideAll s.heap D) := fun b o e => hideAll_get _ (F.keep b o e) (nm b o e)
  have nL : L ∉ D := fun q => (hD L q).2 rfl
  obtain ⟨oL, es, ep, hL, hLd, hLk, hLf⟩ := F.ns
  have hLg := hideAll_get D hL nL
  have B₁ := pushX (env := envX cn cs L a ccd cl) B F rfl hke
  have BG : Below (ktrTop dp un gd cn cs L a ccd cl outer) base (envX cn cs L a ccd cl :: outer) (hideAll s.heap D) := ⟨rfl, fun b o e => st b o (B.stays b o e), funFrames_hideAll B₁.frames fun env' he b hb hf' => by
    cases he with
    | head => exact nL ((Option.some.inj hf' : L = b) ▸ hb)
    | tail _ he =>
      obtain ⟨L₁, o₁, hf₁, ho₁⟩ := funFrames_in B.frames env' he
      rw [hf₁] at hf'
      exact nm L₁ o₁ ho₁ ((Option.some.inj hf' : L₁ = b) ▸ hb)⟩
  refine wpAny_call (codeAny_call_def (fd := fnOf name qual params body scope dV kV doc pm an cdv ct) (body := body) (binds := binds) hroom ((X.keeps F.keep) _ _ ho) rfl (T.nolimit.keeps F.keep) (codeRec_of (X.keeps F.keep) hcd) rfl hbind hcell hloc (fun h₁ hns hk₁ => ?_) hco hgen hk)
  refine wpAny_mono (h (hideAll s.heap D) s.heap.objs.size h₁ (fun b o e => of_hideAll _ e) (fun b o n e => hideAll_get _ e n) hk₁ (fun d hd => ⟨hideAll_none _ hd, ?_⟩) rfl ⟨hns, fun b o e => hk₁ b o (of_hideAll _ e), Nat.le_of_eq (hideAll_size _ _)⟩ BG (X.keeps st) (T.keeps st)) (fun fl s' hl => ?_) fun _ _ y => y.elim
  · obtain ⟨o, e⟩ := hDl d hd
    exact Nat.ne_of_lt (Heap.lt_size e)
  · obtain ⟨h', tk, m', rfl, F', q⟩ := hl
    exact ret _ h' tk ⟨⟨oL, es, ep, F'.keep L oL hLg, hLd, hLk, hLf⟩, fun b o e => F'.keep b o (st b o e), F.above⟩ (fun b o n e => F'.keep b o (hideAll_get _ e n)) q
end

section
variable (prog : Program) (w : World) (K : Frag) (p : Program) (loose : List Str) (mean : ExcName → Option Value) (mg mb : Str → Option Value)
/-- what a call of f with these arguments does, from any frame -/
def Does (f : Addr) (args : List Value) (rd ru : Nat) (D : List Addr) (Pre : Heap → Prop) (Post : Heap → Value → Heap → Prop) : Prop :=
  ∀ (dp un : Nat) (gd : Option (List Code)) (cn : Str) (cs : Scope) (L a : Addr) (ccd : Value) (cl : List (Str × Addr)) (outer : List Env) (A₀ : Around) (base h₀ : Heap) (m : Str → Option Value) (s : Shared) (Q E : Value → Shared → Prop),
    Below A₀ base outer h₀ → Fr h₀ L s.heap m → K.In h₀ → Top p loose mean mg mb h₀ → cs.kind = .function → dp + rd < recursionLimit → un + ru < cLine →
    (∀ d ∈ D, h₀.get? d = none ∧ d ≠ L) → Pre s.heap →
    (∀ r h' tk', Fr h₀ L h' m → (∀ b o, b ∉ D → s.heap.get? b = some o → h'.get? b = some o) → Post s.heap r h' → Q r { s with heap := h', toks := tk' }) →
    wpAny (model prog w) (ktrTop dp un gd cn cs L a ccd cl outer) (call (.ref f) args) Q E s
end

/-- the part of h' that is new since h -/
def newPart (h h' : Heap) : Heap := hideAll h' ((List.range h.objs.size).filter fun b => (h.get? b).isSome)
theorem newPart_get {h h' : Heap} {b : Addr} {o : Obj} (e : h'.get? b = some o) (n : h.get? b = none) : (newPart h h').get? b = some o :=
  hideAll_get _ e fun q => by have := (List.mem_filter.mp q).2; rw [n] at this; cases this
theorem of_newPart {h h' : Heap} {b : Addr} {o : Obj} (e : (newPart h h').get? b = some o) : h'.get? b = some o ∧ h.get? b = none := by
  refine ⟨of_hideAll _ e, ?_⟩
  cases q : h.get? b with
  | none => rfl
  | some o' =>
    have : (newPart h h').get? b = none := hideAll_none _ (List.mem_filter.mpr ⟨List.mem_range.mpr (Heap.lt_size q), by rw [q]; rfl⟩)
    rw [this] at e; cases e


-- part PBm
def DoesL (w : World) (mean : ExcName → Option Value) (mg mb : Str → Option Value) (f : Addr) (args : List Value) (rd ru : Nat) (D : List Addr) (Pre : Heap → Prop) (Post : Heap → Value → Heap → Prop) : Prop :=
  Does PySem.Challenge.rw_pb0168_01.row.prog w (hd.heap_39 w.params) hd.view_39 (looseW hd.view_39 [Str.ofString "Plan"]) mean mg mb f args rd ru D Pre Post

theorem room_of {dp k n : Nat} (h : dp + k < recursionLimit) (e : n ≤ dp + k) : n < recursionLimit := Nat.lt_of_le_of_lt e h

section
variable {prog : Program} {w : World} {KK : Type} [DecidableEq KK] {knd : KeyKind prog w KK} {A : Around} {E : Value → Shared → Prop} {s : Shared} {g : Heap} {L d t : Addr} {m : Str → Option Value} {kvs : List (KK × Value)} {k : KK} {key v : Value}
theorem b_notin {Q : Value → Shared → Prop} (F : Fr g L s.heap m) (hd : g.DictOf knd d kvs) (lo : (d == sysModules) = false) (hkey : knd.is k key = true) (b : Bool) (hb : (valueAt kvs k).isSome = b) (h : Q (.bool (!b)) { s with toks := s.toks + 1 }) :
    wpAny (model prog w) A (compareOp .NotIn key (.ref d)) Q E s := wpAny_notIn_of hkey lo (hd.keep F.keep).mapOf (by rw [hb]; exact h)
theorem b_in {Q : Value → Shared → Prop} (F : Fr g L s.heap m) (hd : g.DictOf knd d kvs) (lo : (d == sysModules) = false) (hkey : knd.is k key = true) (b : Bool) (hb : (valueAt kvs k).isSome = b) (h : Q (.bool b) { s with toks := s.toks + 1 }) :
    wpAny (model prog w) A (compareOp .In key (.ref d)) Q E s := wpAny_in_of hkey lo (hd.keep F.keep).mapOf (by rw [hb]; exact h)
theorem b_tail {value slice : PySem.Expr} {Q : Value → Shared → Prop} (F : Fr g L s.heap m) (hd : g.DictOf knd d kvs) (hkey : knd.is k key = true) (hl : valueAt kvs k = some v) (h : Q v { s with toks := s.toks + 1 })
    (hs : subscripted slice false (.ref d) key = operate [.ref d, key] (getItem (.ref d) key) := by with_unfolding_all rfl) : wpAny (model prog w) A (subscriptTail value slice (.ref d) key) Q E s :=
  tail_any (hd.keep F.keep).typeIs slot_dict_getitem.lookup (wpAny_getItem_of hkey (hd.keep F.keep).mapOf hl h) hs
end

structure MasksAt (w : World) (h : Heap) (md : Addr) : Prop where
  is : ∃ t1 t2 t3 t4 a1 b1 a2 b2 a3 b3 a4 b4, (md == sysModules) = false ∧ h.DictOf (PySem.strKind PySem.Challenge.rw_pb0168_01.row.prog w) md [(Str.ofString "aalt", .ref t1), (Str.ofString "salt", .ref t2), (Str.ofString "ss01", .ref t3), (Str.ofString "liga", .ref t4)] ∧
    IsTup h t1 #[.int 1 a1, .int 3 b1] ∧ IsTup h t2 #[.int 4 a2, .int 2 b2] ∧ IsTup h t3 #[.int 6 a3, .int 4 b3] ∧ IsTup h t4 #[.int 0 a4, .int 1 b4]
theorem MasksAt.keep {w : World} {h h' : Heap} {md : Addr} (M : MasksAt w h md) (k : ∀ b o, h.get? b = some o → h'.get? b = some o) : MasksAt w h' md := by
  obtain ⟨t1, t2, t3, t4, a1, b1, a2, b2, a3, b3, a4, b4, lo, d, x1, x2, x3, x4⟩ := M.is
  exact ⟨t1, t2, t3, t4, a1, b1, a2, b2, a3, b3, a4, b4, lo, d.keep k, x1.keeps k, x2.keeps k, x3.keeps k, x4.keeps k⟩


theorem turnPBm : True ∧ True := by
  w_top off
  first | (walk1; all_goals trivial) | exact ⟨trivial, trivial⟩

section
local macro_rules | `(tactic| k_room) => `(tactic| (refine room_of (by assumption) ?_; (try simp only [depth_under_make, depth_under_kw, depth_in1, depth_deeper, depth_caller]); (try dsimp only [ktrTop]); omega))
section
local macro_rules | `(tactic| walk_at "IN DEF") => `(tactic| (
  refine' enter ?B ?F ?X ?T ?hke ?room ?ho ?hcd ?hbind ?hloc ?hD ?hDl ?ret ?h ?hcell ?hco ?hgen ?hk
  (case B => k_asm)
  (case F => k_asm)
  (case X => k_asm)
  (case T => k_asm)
  (case hke => k_asm)
  (case room => k_room)
  (case ho => k_is)
  (case hcd => k_is)
  (case hbind => first | exact BindsTo.of_eq rfl | exact binds_K (by k_in) rfl (by k_is) rfl rfl rfl)
  (case hloc => exact locs rfl)
  (case hcell => decide)
  (case hco => rfl)
  (case hgen => rfl)
  (case hk => rfl)))
section
local macro_rules | `(tactic| walk_at "compareOp NotIn str ref") => `(tactic| (k_here; k_dflt (first
  | refine b_notin (knd := PySem.strKind _ _) (by k_asm) (by assumption) (by assumption) (strKind_is _ _ _ _) true (by rfl) ?_
  | refine b_notin (knd := PySem.strKind _ _) (by k_asm) (by assumption) (by assumption) (strKind_is _ _ _ _) false (by rfl) ?_); (try dsimp only [Bool.not_true, Bool.not_false])))
section
local macro_rules | `(tactic| walk_at "compareOp In str ref") => `(tactic| (k_here; k_dflt (first
  | refine b_in (knd := PySem.strKind _ _) (by k_asm) (by assumption) (by assumption) (strKind_is _ _ _ _) true (by rfl) ?_
  | refine b_in (knd := PySem.strKind _ _) (by k_asm) (by assumption) (by assumption) (strKind_is _ _ _ _) false (by rfl) ?_)))
section
local macro_rules | `(tactic| walk_at "subscriptTail") => `(tactic| (k_here; (with_reducible show wpAny _ _ (subscriptTail _ _ (Value.ref _) (Value.str _ _)) _ _ _); k_dflt (refine b_tail (knd := PySem.strKind _ _) (by k_asm) (by assumption) (strKind_is _ _ _ _) (by rfl) ?_)))
theorem mask_at_aalt (w : World) (mean : ExcName → Option Value) (mg mb : Str → Option Value) (md : Addr) (tk : Tok) :
    DoesL w mean mg mb 87 [.ref md, .str (Str.ofString "aalt") tk] 3 3 [] (fun h => MasksAt w h md) (fun _ r _ => ∃ t, r = .int 14 t) := by
  unfold DoesL Does
  k_fill
  intro dp un gd cn cs L a ccd cl outer A₀ base h₀ m s Q E B F X T hk hd hu hD hP ret
  with_unfolding_all walk_at "IN DEF"
  case hD => exact hD
  case hDl => intro d hd; cases hd
  case ret => exact ret
  intro g L' h₁ hgs hsg hh₁ hD' hL' F' B' X' T'
  have N' : News g L' h₁ [] := News.nil
  have hM := hP.keep (fun b o e => hsg b o (by simp) e)
  obtain ⟨t1, t2, t3, t4, a1, b1, a2, b2, a3, b3, a4, b4, lo, d, x1, x2, x3, x4⟩ := hM.is
  (try dsimp only)
  try k_fold
  k_steps
  all_goals (exact Back.mk' (by k_asm) ⟨_, rfl⟩)

theorem mask_at_salt (w : World) (mean : ExcName → Option Value) (mg mb : Str → Option Value) (md : Addr) (tk : Tok) :
    DoesL w mean mg mb 87 [.ref md, .str (Str.ofString "salt") tk] 3 3 [] (fun h => MasksAt w h md) (fun _ r _ => ∃ t, r = .int 48 t) := by
  unfold DoesL Does
  k_fill
  intro dp un gd cn cs L a ccd cl outer A₀ base h₀ m s Q E B F X T hk hd hu hD hP ret
  with_unfolding_all walk_at "IN DEF"
  case hD => exact hD
  case hDl => intro d hd; cases hd
  case ret => exact ret
  intro g L' h₁ hgs hsg hh₁ hD' hL' F' B' X' T'
  have N' : News g L' h₁ [] := News.nil
  have hM := hP.keep (fun b o e => hsg b o (by simp) e)
  obtain ⟨t1, t2, t3, t4, a1, b1, a2, b2, a3, b3, a4, b4, lo, d, x1, x2, x3, x4⟩ := hM.is
  (try dsimp only)
  try k_fold
  k_steps
  all_goals (exact Back.mk' (by k_asm) ⟨_, rfl⟩)

theorem mask_at_ss01 (w : World) (mean : ExcName → Option Value) (mg mb : Str → Option Value) (md : Addr) (tk : Tok) :
    DoesL w mean mg mb 87 [.ref md, .str (Str.ofString "ss01") tk] 3 3 [] (fun h => MasksAt w h md) (fun _ r _ => ∃ t, r = .int 960 t) := by
  unfold DoesL Does
  k_fill
  intro dp un gd cn cs L a ccd cl outer A₀ base h₀ m s Q E B F X T hk hd hu hD hP ret
  with_unfolding_all walk_at "IN DEF"
  case hD => exact hD
  case hDl => intro d hd; cases hd
  case ret => exact ret
  intro g L' h₁ hgs hsg hh₁ hD' hL' F' B' X' T'
  have N' : News g L' h₁ [] := News.nil
  have hM := hP.keep (fun b o e => hsg b o (by simp) e)
  obtain ⟨t1, t2, t3, t4, a1, b1, a2, b2, a3, b3, a4, b4, lo, d, x1, x2, x3, x4⟩ := hM.is
  (try dsimp only)
  try k_fold
  k_steps
  all_goals (exact Back.mk' (by k_asm) ⟨_, rfl⟩)

theorem mask_at_liga (w : World) (mean : ExcName → Option Value) (mg mb : Str → Option Value) (md : Addr) (tk : Tok) :
    DoesL w mean mg mb 87 [.ref md, .str (Str.ofString "liga") tk] 3 3 [] (fun h => MasksAt w h md) (fun _ r _ => ∃ t, r = .int 1 t) := by
  unfold DoesL Does
  k_fill
  intro dp un gd cn cs L a ccd cl outer A₀ base h₀ m s Q E B F X T hk hd hu hD hP ret
  with_unfolding_all walk_at "IN DEF"
  case hD => exact hD
  case hDl => intro d hd; cases hd
  case ret => exact ret
  intro g L' h₁ hgs hsg hh₁ hD' hL' F' B' X' T'
  have N' : News g L' h₁ [] := News.nil
  have hM := hP.keep (fun b o e => hsg b o (by simp) e)
  obtain ⟨t1, t2, t3, t4, a1, b1, a2, b2, a3, b3, a4, b4, lo, d, x1, x2, x3, x4⟩ := hM.is
  (try dsimp only)
  try k_fold
  k_steps
  all_goals (exact Back.mk' (by k_asm) ⟨_, rfl⟩)

theorem mask_at_none (w : World) (mean : ExcName → Option Value) (mg mb : Str → Option Value) (md : Addr) (tk : Tok) :
    DoesL w mean mg mb 87 [.ref md, .str (Str.ofString "none") tk] 3 3 [] (fun h => MasksAt w h md) (fun _ r _ => ∃ t, r = .int 0 t) := by
  unfold DoesL Does
  k_fill
  intro dp un gd cn cs L a ccd cl outer A₀ base h₀ m s Q E B F X T hk hd hu hD hP ret
  with_unfolding_all walk_at "IN DEF"
  case hD => exact hD
  case hDl => intro d hd; cases hd
  case ret => exact ret
  intro g L' h₁ hgs hsg hh₁ hD' hL' F' B' X' T'
  have N' : News g L' h₁ [] := News.nil
  have hM := hP.keep (fun b o e => hsg b o (by simp) e)
  obtain ⟨t1, t2, t3, t4, a1, b1, a2, b2, a3, b3, a4, b4, lo, d, x1, x2, x3, x4⟩ := hM.is
  (try dsimp only)
  try k_fold
  k_steps
  all_goals (exact Back.mk' (by k_asm) ⟨_, rfl⟩)



-- part PBd

structure PoolAt (h : Heap) (p cl : Addr) (pl : Int) : Prop where
  is : ∃ vs ns g st t1 t2 t3 n, h.get? p = some (listOf #[.ref cl, .int g t1, .int st t2, .int pl t3] n) ∧ cl ≠ p ∧ h.IsList cl (vs : List Value).toArray ∧ IntsAre vs ns ∧ ns.length ≤ 63 ∧ 0 ≤ st ∧ st < 2147483647 ∧ 0 ≤ pl

theorem pool_end {g h' : Heap} {L' p cc : Addr} {m' : Str → Option Value} {vs : List Value} {ns : List Int} {gr st pl : Int} {t1 t2 t3 n : Nat} (F : Fr g L' h' m') (N : News g L' h' [(p, listOf #[.ref cc, .int gr t1, .int st t2, .int (pl + 1) t3] n)])
    (hne : cc ≠ p) (hl : g.IsList cc vs.toArray) (hi : IntsAre vs ns) (hlen : ns.length ≤ 63) (h0 : 0 ≤ st) (h1 : st < 2147483647) (hp : 0 ≤ pl) : PoolAt h' p cc (pl + 1) :=
  ⟨vs, ns, gr, st, t1, t2, t3, n, (N _ (.head _)).1, hne, hl.at fun o e => F.keep _ _ e, hi, hlen, h0, h1, by omega⟩

theorem draw_does (w : World) (mean : ExcName → Option Value) (mg mb : Str → Option Value) (p cc : Addr) (pl most : Int) (tk : Tok) (h1 : 1 ≤ most) (h2 : most ≤ 16) (h3 : pl ≤ 1000) :
    DoesL w mean mg mb 196 [.ref p, .int most tk] 3 3 [p] (fun h => PoolAt h p cc pl) (fun _ r h' => (∃ k t, r = .int k t ∧ 0 ≤ k ∧ k < most) ∧ PoolAt h' p cc (pl + 1)) := by
  unfold DoesL Does
  k_fill
  intro dp un gd cn cs L a ccd cl outer A₀ base h₀ m s Q E B F X T hk hd hu hD hP ret
  obtain ⟨vs, ns, gr, st, t1, t2, t3, n, hp, hne, hl, hi, hlen, hs0, hs1, hpl⟩ := hP.is
  with_unfolding_all walk_at "IN DEF"
  case hD => exact hD
  case hDl => intro d hd; rw [List.mem_singleton.mp hd]; exact ⟨_, hp⟩
  case ret => exact ret
  intro g L' h₁ hgs hsg hh₁ hD' hL' F' B' X' T'
  have N' : News g L' h₁ [(p, listOf #[.ref cc, .int gr t1, .int st t2, .int pl t3] n)] := fun q hq => by
    rw [List.mem_singleton.mp hq]
    exact ⟨hh₁ _ _ hp, (hD' p (by simp)).2, (hD' p (by simp)).1⟩
  have hl' : g.IsList cc vs.toArray := hl.at fun o e => hsg _ _ (by simpa using hne) e
  clear hl
  (try dsimp only)
  try k_fold
  k_steps
  all_goals (
    refine Back.mk' (by k_asm) ⟨⟨_, _, rfl, ?_, ?_⟩, ?_⟩
    · exact Int.fmod_nonneg_of_pos _ (by omega)
    · exact Int.fmod_lt_of_pos _ (by omega)
    · refine pool_end (by k_asm) (by k_asm) hne hl' hi hlen ?_ ?_ hpl
      · first | exact hs0 | exact Int.fmod_nonneg_of_pos _ (by decide)
      · first | exact hs1 | exact Int.fmod_lt_of_pos _ (by decide))


-- part PBl
section
variable {prog : Program} {w : World} {A : Around} {E : Value → Shared → Prop} {s : Shared} {env : Env} {g : Heap} {x : Str} {body : List Stmt} {Q : Flow → Shared → Prop}

/-- where a turn of a loop ends -/
def TurnEnd (g : Heap) (L : Addr) (s : Shared) (own : List (Addr × Obj)) (I : Addr) (Jn : (Str → Option Value) → List (Addr × Obj) → Prop) (Q : Flow → Shared → Prop) (f : Flow) (s₂ : Shared) : Prop :=
  match f with
  | .ret v => Q (.ret v) s₂
  | .brk => Q .next s₂
  | _ => ∃ h' tk' m' news', s₂ = { s with heap := h', toks := tk' } ∧ Fr g L h' m' ∧ News g L h' (own ++ news') ∧ (∀ q ∈ news', q.1 ≠ I) ∧ Jn m' news'
theorem TurnEnd.next {g : Heap} {L : Addr} {s : Shared} {own : List (Addr × Obj)} {I : Addr} {Jn : (Str → Option Value) → List (Addr × Obj) → Prop} {Q : Flow → Shared → Prop} {h' : Heap} {tk' : Nat} {m' : Str → Option Value} {news' : List (Addr × Obj)}
    (F : Fr g L h' m') (N : News g L h' (own ++ news')) (off : ∀ q ∈ news', q.1 ≠ I) (j : Jn m' news') : TurnEnd g L s own I Jn Q .next { s with heap := h', toks := tk' } := ⟨h', tk', m', news', rfl, F, N, off, j⟩

theorem loop_list {l : Addr} {its : Array Value} {m₀ : Str → Option Value} {news : List (Addr × Obj)} (J : Nat → (Str → Option Value) → List (Addr × Obj) → Prop)
    (hh : A.handled = none) (hl : s.heap.IsList l its) (hlL : l ≠ env.locals) (F : Fr g env.locals s.heap m₀) (N : News g env.locals s.heap news) (h0 : J 0 m₀ news)
    (turn : ∀ i v m₁ news₁ h tk own I, its[i]? = some v → J i m₁ news₁ → (∀ p ∈ own, p.1 = I ∨ p.1 = l) → (∀ q ∈ news₁, q.1 ≠ I) → Fr g env.locals h (fun y => if y = x then some v else m₁ y) → News g env.locals h (own ++ news₁) →
      wpAny (model prog w) A (execs body env) (TurnEnd g env.locals s own I (J (i + 1)) Q) E { s with heap := h, toks := tk })
    (done : ∀ m₁ news₁ h tk, J its.size m₁ news₁ → Fr g env.locals h m₁ → News g env.locals h news₁ → Q .next { s with heap := h, toks := tk }) :
    wpAny (model prog w) A (pyIter (.ref l)) (fun it s₂ => LoopAtV prog w A g env x body Q E it s₂) E s := by
  obtain ⟨ol, hol, _⟩ := id hl
  have hlt : l < s.heap.objs.size := Heap.lt_size hol
  have hne : l ≠ s.heap.objs.size := Nat.ne_of_lt hlt
  refine wpAny_pyIter_list hl ?_
  have W := Walks.list (prog := prog) (w := w) hh s.heap.objs.size l hne its
  have up : ∀ b o, s.heap.get? b = some o → (s.heap.push { cls := .type "list_iterator", data := .fields #[.ref l, .int 0 0] }).get? b = some o := fun b o e => Heap.get?_push_of_some _ e
  refine ⟨_, _, _, its.size, _, _, m₀, news, J, rfl, W, ?_, ?_, ?_, ⟨⟨_, Heap.get?_push_size _ rfl, rfl, rfl⟩, hl.push _⟩, F.push _, N.grown up, h0, ?_, ?_⟩
  · intro hm
    rcases List.mem_cons.mp hm with e | hm
    · exact absurd F.ns.lt (e ▸ Nat.lt_irrefl _)
    · exact hlL (List.mem_singleton.mp hm).symm
  · intro b hb
    rw [List.mem_singleton.mp hb]
    exact next_is_new F
  · intro p hp hI
    exact absurd (Heap.lt_size (N p hp).1) ((List.mem_singleton.mp hI) ▸ Nat.lt_irrefl _)
  · rintro i v m₁ news₁ s₁ own ⟨hh', tk', rfl⟩ _ hP hJ hoff hown _ _ _ F₁ N₁
    refine wpAny_mono (turn i v m₁ news₁ hh' tk' own s.heap.objs.size hP hJ (fun p hp => ?_) (fun q hq e => hoff q hq (List.mem_singleton.mpr e)) F₁ N₁) (fun f s₂ p => ?_) fun _ _ e => e
    · rcases List.mem_cons.mp (hown p hp) with e | e
      · exact .inl e
      · exact .inr (List.mem_singleton.mp e)
    · have fin : (∃ h' tk' m' news', s₂ = { s with heap := h', toks := tk' } ∧ Fr g env.locals h' m' ∧ News g env.locals h' (own ++ news') ∧ (∀ q ∈ news', q.1 ≠ s.heap.objs.size) ∧ J (i + 1) m' news') → LoopStepU g env.locals [s.heap.objs.size] own (J (i + 1)) { s with heap := hh', toks := tk' } .next s₂ := by
        rintro ⟨h', tk, m', news', e, F', N', ho, hm⟩
        exact ⟨rfl, h', tk, m', news', e, F', N', fun p hp hq => ho p hp (List.mem_singleton.mp hq), hm⟩
      cases f with
      | ret v => exact .ret p
      | brk => exact .brk p
      | next => exact .next (fin p)
      | cont => exact .cont (fin p)
  · rintro h' tk m' news' F' N' _ hJ
    exact done m' news' h' tk hJ F' N'

def SameMap (x : Str) (stored : List Str) (m₀ m' : Str → Option Value) : Prop := ∀ z, z ≠ x → stored.contains z = false → m' z = m₀ z
theorem map_form {stored : List Str} {v : Option Value} {m₀ m₁ : Str → Option Value} (hm : SameMap x stored m₀ m₁) : (fun y => if y = x then v else m₁ y) = fun y => if y = x then v else if stored.contains y then m₁ y else m₀ y := by
  funext z
  by_cases h1 : z = x
  · simp [h1]
  · simp only [if_neg h1]
    cases h3 : stored.contains z with
    | true => simp
    | false => simp only [Bool.false_eq_true, if_false]; exact hm z h1 h3
theorem map_form' {stored : List Str} {m₀ m₁ : Str → Option Value} (hm : SameMap x stored m₀ m₁) : m₁ = fun y => if y = x then m₁ y else if stored.contains y then m₁ y else m₀ y := by
  funext z
  by_cases h1 : z = x
  · simp [h1]
  · simp only [if_neg h1]
    cases h3 : stored.contains z with
    | true => simp
    | false => simp only [Bool.false_eq_true, if_false]; exact hm z h1 h3

/-- a loop over a list: what holds of the ledger between the turns; the frame's map but for the names that a turn stores -/
theorem loop_led {l : Addr} {its : Array Value} {m₀ : Str → Option Value} {news : List (Addr × Obj)} (stored : List Str) (J : Nat → List (Addr × Obj) → Prop)
    (hh : A.handled = none) (hl : s.heap.IsList l its) (hlL : l ≠ env.locals) (F : Fr g env.locals s.heap m₀) (N : News g env.locals s.heap news) (h0 : J 0 news)
    (turn : ∀ i v (u : Str → Option Value) news₁ h tk own I, its[i]? = some v → J i news₁ → (∀ p ∈ own, p.1 = I ∨ p.1 = l) → (∀ q ∈ news₁, q.1 ≠ I) → Fr g env.locals h (fun y => if y = x then some v else if stored.contains y then u y else m₀ y) → News g env.locals h (own ++ news₁) →
      wpAny (model prog w) A (execs body env) (TurnEnd g env.locals s own I (fun m' nx => SameMap x stored m₀ m' ∧ J (i + 1) nx) Q) E { s with heap := h, toks := tk })
    (done : ∀ (u : Str → Option Value) news₁ h tk, J its.size news₁ → Fr g env.locals h (fun y => if y = x then u y else if stored.contains y then u y else m₀ y) → News g env.locals h news₁ → Q .next { s with heap := h, toks := tk }) :
    wpAny (model prog w) A (pyIter (.ref l)) (fun it s₂ => LoopAtV prog w A g env x body Q E it s₂) E s := by
  refine loop_list (fun i m' nx => SameMap x stored m₀ m' ∧ J i nx) hh hl hlL F N ⟨fun _ _ _ => rfl, h0⟩ ?_ ?_
  · rintro i v m₁ news₁ h tk own I hv ⟨hm, hj⟩ ho hI F₁ N₁
    rw [map_form hm] at F₁
    exact turn i v m₁ news₁ h tk own I hv hj ho hI F₁ N₁
  · rintro m₁ news₁ h tk ⟨hm, hj⟩ F₁ N₁
    rw [map_form' hm] at F₁
    exact done m₁ news₁ h tk hj F₁ N₁

/-- a ledger that holds one object for each of the second addresses -/
def Led (ids : List (Addr × Addr)) (R : Nat → Obj → Prop) (news : List (Addr × Obj)) : Prop :=
  (∀ q ∈ news, q.1 ∈ ids.map (·.2)) ∧ ∀ j p, ids[j]? = some p → ∃ o, (p.2, o) ∈ news ∧ R j o
def InfoTurn (g : Heap) (L : Addr) (s : Shared) (d : Addr) (others : List (Addr × Obj)) (R : Obj → Prop) (x : Str) (stored : List Str) (m₀ : Str → Option Value) (f : Flow) (s₂ : Shared) : Prop :=
  f = .next ∧ ∃ h' tk' m' o', s₂ = { s with heap := h', toks := tk' } ∧ Fr g L h' m' ∧ News g L h' ((d, o') :: others) ∧ R o' ∧ SameMap x stored m₀ m'
theorem InfoTurn.mk' {g : Heap} {L : Addr} {s : Shared} {d : Addr} {others : List (Addr × Obj)} {R : Obj → Prop} {x : Str} {stored : List Str} {m₀ : Str → Option Value} {h' : Heap} {tk' : Nat} {m' : Str → Option Value} {o' : Obj}
    (F : Fr g L h' m') (N : News g L h' ((d, o') :: others)) (r : R o') (hm : SameMap x stored m₀ m') : InfoTurn g L s d others R x stored m₀ .next { s with heap := h', toks := tk' } := ⟨rfl, h', tk', m', o', rfl, F, N, r, hm⟩

theorem nodup_idx {ids : List (Addr × Addr)} (nd : (ids.map (·.2)).Nodup) {i j : Nat} {p q : Addr × Addr} (hi : ids[i]? = some p) (hj : ids[j]? = some q) (hne : i ≠ j) : p.2 ≠ q.2 := by
  intro e
  have hi' : (ids.map (·.2))[i]? = some p.2 := by rw [List.getElem?_map, hi]; rfl
  have hj' : (ids.map (·.2))[j]? = some p.2 := by rw [List.getElem?_map, hj, e]; rfl
  obtain ⟨a, _⟩ := List.getElem?_eq_some_iff.mp hi'
  exact hne ((List.getElem?_inj a nd).mp (hi'.trans hj'.symm))

theorem loop_infos {r : Addr} {ids : List (Addr × Addr)} {m₀ : Str → Option Value} {own0 news : List (Addr × Obj)} (stored : List Str) (R0 R1 : Nat → Obj → Prop)
    (hh : A.handled = none) (hl : s.heap.IsList r (ids.map fun p => Value.ref p.1).toArray) (hrL : r ≠ env.locals) (hrD : r ∉ ids.map (·.2)) (nd : (ids.map (·.2)).Nodup) (F : Fr g env.locals s.heap m₀) (N : News g env.locals s.heap (own0 ++ news)) (ho0 : ∀ p ∈ own0, p.1 ∉ ids.map (·.2)) (h0 : Led ids R0 news)
    (turn : ∀ j xx d o (u : Str → Option Value) h tk others, ids[j]? = some (xx, d) → R0 j o → (∀ p ∈ others, p.1 ≠ d) → Fr g env.locals h (fun y => if y = x then some (.ref xx) else if stored.contains y then u y else m₀ y) → News g env.locals h ((d, o) :: others) →
      wpAny (model prog w) A (execs body env) (InfoTurn g env.locals { s with heap := h, toks := tk } d others (R1 j) x stored m₀) E { s with heap := h, toks := tk })
    (done : ∀ (u : Str → Option Value) news₁ h tk, Led ids R1 news₁ → Fr g env.locals h (fun y => if y = x then u y else if stored.contains y then u y else m₀ y) → News g env.locals h (own0 ++ news₁) → Q .next { s with heap := h, toks := tk }) :
    wpAny (model prog w) A (pyIter (.ref r)) (fun it s₂ => LoopAtV prog w A g env x body Q E it s₂) E s := by
  refine loop_led stored (fun i nx => ∃ nx', nx = own0 ++ nx' ∧ Led ids (fun j o => if j < i then R1 j o else R0 j o) nx') hh hl hrL F N ?_ ?_ ?_
  · exact ⟨news, rfl, h0.1, fun j p hp => by obtain ⟨o, a, b⟩ := h0.2 j p hp; exact ⟨o, a, by show (if j < 0 then R1 j o else R0 j o); rw [if_neg (Nat.not_lt_zero _)]; exact b⟩⟩
  · rintro i v u news₁ h tk own I hv ⟨nx, rfl, ha, hj⟩ ho hI F₁ N₁
    have hv' : (ids.map fun p => Value.ref p.1)[i]? = some v := by simpa using hv
    rw [List.getElem?_map] at hv'
    obtain ⟨⟨xx, d⟩, hp, rfl⟩ := Option.map_eq_some_iff.mp hv'
    obtain ⟨o, hm, hR⟩ := hj i _ hp
    replace hR : (if i < i then R1 i o else R0 i o) := hR
    rw [if_neg (Nat.lt_irrefl _)] at hR
    have hdI : d ≠ I := hI _ (List.mem_append_right _ hm)
    have hdm : d ∈ ids.map (·.2) := List.mem_map.mpr ⟨_, List.mem_of_getElem? hp, rfl⟩
    have hdr : r ≠ d := fun e => hrD (by rw [e]; exact hdm)
    let others := own ++ (own0 ++ nx.filter (fun q => decide (q.1 ≠ d)))
    have hoth : ∀ p ∈ others, p.1 ≠ d := by
      intro p hp
      rcases List.mem_append.mp hp with hp | hp
      · rcases ho p hp with e | e
        · rw [e]; exact Ne.symm hdI
        · rw [e]; exact hdr
      · rcases List.mem_append.mp hp with hp | hp
        · exact fun e => ho0 p hp (by rw [e]; exact hdm)
        · exact of_decide_eq_true (List.mem_filter.mp hp).2
    have N₂ : News g env.locals h ((d, o) :: others) := by
      intro p hp
      rcases List.mem_cons.mp hp with rfl | hp
      · exact N₁ _ (List.mem_append_right _ (List.mem_append_right _ hm))
      · rcases List.mem_append.mp hp with hp | hp
        · exact N₁ _ (List.mem_append_left _ hp)
        · rcases List.mem_append.mp hp with hp | hp
          · exact N₁ _ (List.mem_append_right _ (List.mem_append_left _ hp))
          · exact N₁ _ (List.mem_append_right _ (List.mem_append_right _ (List.mem_filter.mp hp).1))
    refine wpAny_mono (turn i xx d o u h tk others hp hR hoth F₁ N₂) (fun f s₂ e => ?_) fun _ _ e => e
    obtain ⟨rfl, h', tk', m', o', rfl, F', N', hR', hm'⟩ := e
    refine TurnEnd.next (news' := own0 ++ ((d, o') :: nx.filter (fun q => decide (q.1 ≠ d)))) F' (fun p hp => ?_) (fun q hq => ?_) ⟨hm', _, rfl, fun q hq => ?_, fun j p hp' => ?_⟩
    · rcases List.mem_append.mp hp with hp | hp
      · exact N' _ (.tail _ (List.mem_append_left _ hp))
      · rcases List.mem_append.mp hp with hp | hp
        · exact N' _ (.tail _ (List.mem_append_right _ (List.mem_append_left _ hp)))
        · rcases List.mem_cons.mp hp with rfl | hp
          · exact N' _ (.head _)
          · exact N' _ (.tail _ (List.mem_append_right _ (List.mem_append_right _ hp)))
    · rcases List.mem_append.mp hq with hq | hq
      · exact hI _ (List.mem_append_left _ hq)
      · rcases List.mem_cons.mp hq with rfl | hq
        · exact hdI
        · exact hI _ (List.mem_append_right _ (List.mem_filter.mp hq).1)
    · rcases List.mem_cons.mp hq with rfl | hq
      · exact ha (d, o) hm
      · exact ha _ (List.mem_filter.mp hq).1
    · by_cases hij : j = i
      · subst hij
        rw [hp] at hp'; cases hp'
        exact ⟨o', .head _, by show (if j < j + 1 then R1 j o' else R0 j o'); rw [if_pos (Nat.lt_succ_self _)]; exact hR'⟩
      · obtain ⟨o2, hm2, hR2⟩ := hj j p hp'
        refine ⟨o2, .tail _ (List.mem_filter.mpr ⟨hm2, decide_eq_true ?_⟩), ?_⟩
        · exact nodup_idx nd hp' hp hij
        · show (if j < i + 1 then R1 j o2 else R0 j o2)
          replace hR2 : (if j < i then R1 j o2 else R0 j o2) := hR2
          by_cases hlt : j < i
          · rw [if_pos hlt] at hR2; rw [if_pos (Nat.lt_succ_of_lt hlt)]; exact hR2
          · rw [if_neg hlt] at hR2; rw [if_neg (by omega)]; exact hR2
  · rintro u news₁ h tk ⟨nx, rfl, ha, hj⟩ F₁ N₁
    refine done u nx h tk ⟨ha, fun j p hp => ?_⟩ F₁ N₁
    obtain ⟨o, hm, hR⟩ := hj j p hp
    have hlt : j < ids.length := (List.getElem?_eq_some_iff.mp hp).1
    exact ⟨o, hm, by replace hR : (if j < _ then R1 j o else R0 j o) := hR; rw [if_pos (by simpa using hlt)] at hR; exact hR⟩
end

section
open LCg
variable {prog : Program} {w : World} {A : Around} {s : Shared} {h₀ : Heap} {L : Addr} {m : Str → Option Value} {env : Env}
theorem compEnd_mono {s₁ : Shared} {I C D : Addr} {oI oC oD : Obj} {S : List (Addr × Obj) → Prop} {r r' : Value → List (Addr × Obj) → Prop} {y : Value} {s₂ : Shared} (h : CompEnd h₀ L m s₁ I oI C oC D oD S r y s₂) (k : ∀ news, r y news → r' y news) : CompEnd h₀ L m s₁ I oI C oC D oD S r' y s₂ := by
  obtain ⟨h', tk, news', e, F, N, off, hS, q⟩ := h
  exact ⟨h', tk, news', e, F, N, off, hS, k _ q⟩
/-- a comprehension by what holds between its turns -/
theorem comp_inv {elt : Expr} {x : Str} {scope : Scope} {cl : List (Str × Addr)} {S : List (Addr × Obj) → Prop} {P : Nat → Value → Prop} {Fin : List Value → List (Addr × Obj) → Prop} {news : List (Addr × Obj)} {n : Nat} (J : Nat → List Value → List (Addr × Obj) → Prop)
    (h0 : J 0 [] news) (fin : ∀ ys news, J n ys news → Fin ys news)
    (turn : ∀ i ys news v I oI C oC D m₂ h tk (E' : Value → Shared → Prop), i < n → J i ys news → P i v → NsObj oC m₂ → m₂ x = some v → Fr h₀ L h m → News h₀ L h ((I, oI) :: (C, oC) :: (D, lst ys) :: news) → Off3 I C D news → ((@Ne Nat I C) ∧ (@Ne Nat I D) ∧ (@Ne Nat C D)) →
      wpAny (model prog w) A (eval elt (compEnvC scope cl C env)) (CompEnd h₀ L m { s with heap := h, toks := tk } I oI C oC D (lst ys) S (fun y news' => J (i + 1) (ys ++ [y]) news')) E' { s with heap := h, toks := tk }) :
    CompRest prog w A h₀ L m env elt x scope cl s S P Fin n 0 [] news := by
  have main : ∀ k i ys news, i + k = n → J i ys news → CompRest prog w A h₀ L m env elt x scope cl s S P Fin k i ys news := by
    intro k
    induction k with
    | zero => intro i ys news e hJ; exact CompRest.zero (fin _ _ (by rw [← e]; exact hJ))
    | succ k ih =>
      intro i ys news e hJ
      refine CompRest.succ ?_
      intro v I oI C oC D m₂ h tk E' hv hC hx F N off ne
      exact wpAny_mono (turn i ys news v I oI C oC D m₂ h tk E' (by omega) hJ hv hC hx F N off ne) (fun y s₂ q => compEnd_mono q fun nw hj => ih (i + 1) (ys ++ [y]) nw (by omega) hj) fun _ _ e => e
  exact main n 0 [] news (Nat.zero_add _) h0
open LCt
theorem comp_invT {ct elt : Expr} {x : Str} {scope : Scope} {cl : List (Str × Addr)} {S : List (Addr × Obj) → Prop} {P : Nat → Value → Prop} {Fin : List Value → List (Addr × Obj) → Prop} {news : List (Addr × Obj)} {n : Nat} (J : Nat → List Value → List (Addr × Obj) → Prop)
    (h0 : J 0 [] news) (fin : ∀ ys news, J n ys news → Fin ys news)
    (turn : ∀ i ys news v I oI C oC D m₂ h tk (E' : Value → Shared → Prop), i < n → J i ys news → P i v → NsObj oC m₂ → m₂ x = some v → Fr h₀ L h m → News h₀ L h ((I, oI) :: (C, oC) :: (D, lst ys) :: news) → Off3 I C D news → ((@Ne Nat I C) ∧ (@Ne Nat I D) ∧ (@Ne Nat C D)) →
      wpAny (model prog w) A (isTrue ct (compEnvC scope cl C env) (eval ct (compEnvC scope cl C env))) (fun ok s' => if ok = true then
        wpAny (model prog w) A (eval elt (compEnvC scope cl C env)) (CompEnd h₀ L m { s with heap := h, toks := tk } I oI C oC D (lst ys) S (fun y news' => J (i + 1) (ys ++ [y]) news')) E' s'
        else CompEnd h₀ L m { s with heap := h, toks := tk } I oI C oC D (lst ys) S (fun _ news' => J (i + 1) ys news') Value.none s') E' { s with heap := h, toks := tk }) :
    CompRestT prog w A h₀ L m env ct elt x scope cl s S P Fin n 0 [] news := by
  have main : ∀ k i ys news, i + k = n → J i ys news → CompRestT prog w A h₀ L m env ct elt x scope cl s S P Fin k i ys news := by
    intro k
    induction k with
    | zero => intro i ys news e hJ; exact CompRestT.zero (fin _ _ (by rw [← e]; exact hJ))
    | succ k ih =>
      intro i ys news e hJ
      refine CompRestT.succ ?_
      intro v I oI C oC D m₂ h tk E' hv hC hx F N off ne
      refine wpAny_mono (turn i ys news v I oI C oC D m₂ h tk E' (by omega) hJ hv hC hx F N off ne) (fun ok s₂ q => ?_) fun _ _ e => e
      cases ok with
      | true =>
        simp only [if_true] at q ⊢
        exact wpAny_mono q (fun y s₃ q => compEnd_mono q fun nw hj => ih (i + 1) (ys ++ [y]) nw (by omega) hj) fun _ _ e => e
      | false =>
        simp only [Bool.false_eq_true, if_false] at q ⊢
        exact compEnd_mono q fun nw hj => ih (i + 1) ys nw (by omega) hj
  exact main n 0 [] news (Nat.zero_add _) h0
end

theorem ints_append : ∀ {vs us : List Value} {ns ks : List Int}, IntsAre vs ns → IntsAre us ks → IntsAre (vs ++ us) (ns ++ ks)
  | _, _, _, _, .nil, h => h
  | _, _, _, _, .cons n t h, k => .cons n t (ints_append h k)
theorem ints_snoc {vs : List Value} {ns : List Int} {k : Int} {t : Tok} (h : IntsAre vs ns) : IntsAre (vs ++ [.int k t]) (ns ++ [k]) := ints_append h (.cons k t .nil)
theorem none_of_keep {h g : Heap} {b : Addr} (k : ∀ b o, h.get? b = some o → g.get? b = some o) (n : g.get? b = none) : h.get? b = none := by
  cases e : h.get? b with
  | none => rfl
  | some o => rw [k _ _ e] at n; cases n

section
variable {prog : Program} {w : World} {A : Around} {E : Value → Shared → Prop} {s : Shared} {env : Env} {g : Heap} {target : Expr} {body : List Stmt} {Q : Flow → Shared → Prop}
theorem turns_list {l : Addr} {its : Array Value} {m₀ : Str → Option Value} {news : List (Addr × Obj)} (J : Nat → (Str → Option Value) → List (Addr × Obj) → Prop)
    (hh : A.handled = none) (hl : s.heap.IsList l its) (hlL : l ≠ env.locals) (F : Fr g env.locals s.heap m₀) (N : News g env.locals s.heap news) (h0 : J 0 m₀ news)
    (turn : ∀ i v m₁ news₁ h tk own I, its[i]? = some v → J i m₁ news₁ → (∀ p ∈ own, p.1 = I ∨ p.1 = l) → (∃ o, (I, o) ∈ own) → (∀ q ∈ news₁, q.1 ≠ I) → Fr g env.locals h m₁ → News g env.locals h (own ++ news₁) →
      wpAny (model prog w) A (assign target env v) (fun _ s₃ => wpAny (model prog w) A (execs body env) (TurnEnd g env.locals s own I (J (i + 1)) Q) E s₃) E { s with heap := h, toks := tk })
    (done : ∀ m₁ news₁ h tk, J its.size m₁ news₁ → Fr g env.locals h m₁ → News g env.locals h news₁ → Q .next { s with heap := h, toks := tk }) :
    wpAny (model prog w) A (pyIter (.ref l)) (fun it s₂ => TurnsAt prog w A g env target body Q E it s₂) E s := by
  obtain ⟨ol, hol, _⟩ := id hl
  have hlt : l < s.heap.objs.size := Heap.lt_size hol
  have hne : l ≠ s.heap.objs.size := Nat.ne_of_lt hlt
  refine wpAny_pyIter_list hl ?_
  have W := Walks.list (prog := prog) (w := w) hh s.heap.objs.size l hne its
  have up : ∀ b o, s.heap.get? b = some o → (s.heap.push { cls := .type "list_iterator", data := .fields #[.ref l, .int 0 0] }).get? b = some o := fun b o e => Heap.get?_push_of_some _ e
  refine ⟨_, _, _, its.size, _, _, _, m₀, news, J, rfl, KTurns.ofWalks W fun i v s Q E st q => letGo_listiter st.1 q, ?_, ?_, ?_, ⟨⟨_, Heap.get?_push_size _ rfl, rfl, rfl⟩, hl.push _⟩, F.push _, N.grown up, h0, ?_, ?_⟩
  · intro hm
    rcases List.mem_cons.mp hm with e | hm
    · exact absurd F.ns.lt (e ▸ Nat.lt_irrefl _)
    · exact hlL (List.mem_singleton.mp hm).symm
  · intro b hb
    rw [List.mem_singleton.mp hb]
    exact next_is_new F
  · intro p hp hI
    exact absurd (Heap.lt_size (N p hp).1) ((List.mem_singleton.mp hI) ▸ Nat.lt_irrefl _)
  · rintro i v m₁ news₁ hh' tk' own _ hP hJ hoff hown _ hall hst F₁ N₁
    obtain ⟨⟨oI, heI, _⟩, _⟩ := hst
    refine wpAny_mono (turn i v m₁ news₁ hh' tk' own s.heap.objs.size hP hJ (fun p hp => ?_) ⟨oI, hall _ (.head _) (next_is_new F) oI heI⟩ (fun q hq e => hoff q hq (List.mem_singleton.mpr e)) F₁ N₁) (fun _ s₁ q => wpAny_mono q (fun f s₂ p => ?_) fun _ _ e => e) fun _ _ e => e
    · rcases List.mem_cons.mp (hown p hp) with e | e
      · exact .inl e
      · exact .inr (List.mem_singleton.mp e)
    · have fin : (∃ h' tk' m' news', s₂ = { s with heap := h', toks := tk' } ∧ Fr g env.locals h' m' ∧ News g env.locals h' (own ++ news') ∧ (∀ q ∈ news', q.1 ≠ s.heap.objs.size) ∧ J (i + 1) m' news') → LoopStepU g env.locals [s.heap.objs.size] own (J (i + 1)) { s with heap := hh', toks := tk' } .next s₂ := by
        rintro ⟨h', tk, m', news', e, F', N', ho, hm⟩
        exact ⟨rfl, h', tk, m', news', e, F', N', fun p hp hq => ho p hp (List.mem_singleton.mp hq), hm⟩
      cases f with
      | ret v => exact .ret p
      | brk => exact .brk p
      | next => exact .next (fin p)
      | cont => exact .cont (fin p)
  · rintro h' tk m' news' F' N' _ hJ
    exact done m' news' h' tk hJ F' N'

/-- the same, the frame's map kept but for the names that a turn stores -/
theorem turns_led {l : Addr} {its : Array Value} {m₀ : Str → Option Value} {news : List (Addr × Obj)} (stored : List Str) (J : Nat → List (Addr × Obj) → Prop)
    (hh : A.handled = none) (hl : s.heap.IsList l its) (hlL : l ≠ env.locals) (F : Fr g env.locals s.heap m₀) (N : News g env.locals s.heap news) (h0 : J 0 news)
    (turn : ∀ i v (u : Str → Option Value) news₁ h tk own I, its[i]? = some v → J i news₁ → (∀ p ∈ own, p.1 = I ∨ p.1 = l) → (∃ o, (I, o) ∈ own) → (∀ q ∈ news₁, q.1 ≠ I) → Fr g env.locals h (fun y => if stored.contains y then u y else m₀ y) → News g env.locals h (own ++ news₁) →
      wpAny (model prog w) A (assign target env v) (fun _ s₃ => wpAny (model prog w) A (execs body env) (TurnEnd g env.locals s own I (fun m' nx => (∀ z, stored.contains z = false → m' z = m₀ z) ∧ J (i + 1) nx) Q) E s₃) E { s with heap := h, toks := tk })
    (done : ∀ (u : Str → Option Value) news₁ h tk, J its.size news₁ → Fr g env.locals h (fun y => if stored.contains y then u y else m₀ y) → News g env.locals h news₁ → Q .next { s with heap := h, toks := tk }) :
    wpAny (model prog w) A (pyIter (.ref l)) (fun it s₂ => TurnsAt prog w A g env target body Q E it s₂) E s := by
  have form : ∀ m₁ : Str → Option Value, (∀ z, stored.contains z = false → m₁ z = m₀ z) → m₁ = fun y => if stored.contains y then m₁ y else m₀ y := fun m₁ hm => by
    funext z
    cases h3 : stored.contains z with
    | true => simp
    | false => simp only [Bool.false_eq_true, if_false]; exact hm z h3
  refine turns_list (fun i m' nx => (∀ z, stored.contains z = false → m' z = m₀ z) ∧ J i nx) hh hl hlL F N ⟨fun _ _ => rfl, h0⟩ ?_ ?_
  · rintro i v m₁ news₁ h tk own I hv ⟨hm, hj⟩ ho hIo hI F₁ N₁
    rw [form m₁ hm] at F₁
    exact turn i v m₁ news₁ h tk own I hv hj ho hIo hI F₁ N₁
  · rintro m₁ news₁ h tk ⟨hm, hj⟩ F₁ N₁
    rw [form m₁ hm] at F₁
    exact done m₁ news₁ h tk hj F₁ N₁
end


-- part PBb

end
end
end

theorem turnPBb : True ∧ True := by
  w_top off
  first | (walk1; all_goals trivial) | exact ⟨trivial, trivial⟩

theorem box_fold : ∀ (ks : List Int) (a : Int), 0 ≤ a → a < 2147483647 → 0 ≤ ks.foldl (fun a' n' => (a' * 48271 + n'.fmod 2147483647 + 11).fmod 2147483647) a ∧ ks.foldl (fun a' n' => (a' * 48271 + n'.fmod 2147483647 + 11).fmod 2147483647) a < 2147483647
  | [], a, h0, h1 => ⟨h0, h1⟩
  | k :: r, a, h0, h1 => by
    rw [List.foldl_cons]
    exact box_fold r _ (Int.fmod_nonneg_of_pos _ (by decide)) (Int.fmod_lt_of_pos _ (by decide))
theorem box_end {sh g h' : Heap} {L' p cc : Addr} {ys : List Value} {ks : List Int} {gr : Int} {t1 t2 t3 n : Nat} {rest : List (Addr × Obj)} (hsg' : ∀ b o, sh.get? b = some o → g.get? b = some o)
    (N : News g L' h' ((p, listOf #[.ref cc, .int gr t1, .int (ks.foldl (fun a' n' => (a' * 48271 + n'.fmod 2147483647 + 11).fmod 2147483647) 7) t2, .int 0 t3] n) :: (cc, LCg.lst ys) :: rest))
    (hi : IntsAre ys ks) (hlen : ks.length ≤ 63) : ∃ p', Value.ref p = .ref p' ∧ sh.get? p' = none ∧ ∃ cc', PoolAt (newPart sh h') p' cc' 0 := by
  have h1 := N _ (.head _)
  have h2 := N _ (.tail _ (.head _))
  have e1 := none_of_keep hsg' h1.2.2
  have e2 := none_of_keep hsg' h2.2.2
  obtain ⟨b0, b1⟩ := box_fold ks 7 (by decide) (by decide)
  refine ⟨p, rfl, e1, cc, ys, ks, gr, _, t1, t2, t3, n, newPart_get h1.1 e1, ?_, ⟨_, newPart_get h2.1 e2, rfl, _, rfl⟩, hi, hlen, b0, b1, by decide⟩
  intro q
  have q1 := h1.1
  have q2 := h2.1
  dsimp only at q1 q2
  rw [q, q1] at q2
  have := congrArg (fun o => o.map fun o : Obj => match o.data with | .seq xs _ => xs.toList | _ => []) q2
  simp [LCg.lst] at this
  subst this
  cases hi
theorem box_does (w : World) (mean : ExcName → Option Value) (mg mb : Str → Option Value) (sl : Addr) (vs : List Value) (ns : List Int) (hi : IntsAre vs ns) (hlen : ns.length ≤ 63) :
    DoesL w mean mg mb 189 [.ref sl] 6 6 []
      (fun h => h.IsList sl vs.toArray)
      (fun h r h' => ∃ p, r = .ref p ∧ h.get? p = none ∧ ∃ cc, PoolAt (newPart h h') p cc 0) := by
  unfold DoesL Does
  k_fill
  intro dp un gd cn cs L a ccd cl outer A₀ base h₀ m s Q E B F X T hk hd hu hD hP ret
  with_unfolding_all walk_at "IN DEF"
  case hD => exact hD
  case hDl => intro d hd; cases hd
  case ret => exact ret
  intro g L' h₁ hgs hsg hh₁ hD' hL' F' B' X' T'
  have hsg' : ∀ b o, s.heap.get? b = some o → g.get? b = some o := fun b o e => hsg b o (by simp) e
  have N' : News g L' h₁ [] := News.nil
  have r1 : g.IsList sl vs.toArray := hP.at fun o e => hsg' _ _ e
  clear hP
  generalize s.toks + _ = tk0
  (try dsimp only)
  try k_fold
  k_steps
  all_goals exact Back.mk' (by k_asm) (box_end hsg' (by k_asm) (by assumption) (by simp; omega))


-- part PBpl


theorem turnPBpl : True ∧ True := by
  w_top off
  first | (walk1; all_goals trivial) | exact ⟨trivial, trivial⟩

section
local macro_rules | `(tactic| walk_at "compareOp NotIn str ref") => `(tactic| (k_here; k_dflt (first
  | refine b_notin (knd := PySem.strKind _ _) (by k_asm) (by assumption) (by assumption) (strKind_is _ _ _ _) true (by rfl) ?_
  | refine b_notin (knd := PySem.strKind _ _) (by k_asm) (by assumption) (by assumption) (strKind_is _ _ _ _) false (by rfl) ?_); (try dsimp only [Bool.not_true, Bool.not_false])))
section
local macro_rules | `(tactic| walk_at "compareOp In str ref") => `(tactic| (k_here; k_dflt (first
  | refine b_in (knd := PySem.strKind _ _) (by k_asm) (by assumption) (by assumption) (strKind_is _ _ _ _) true (by rfl) ?_
  | refine b_in (knd := PySem.strKind _ _) (by k_asm) (by assumption) (by assumption) (strKind_is _ _ _ _) false (by rfl) ?_)))
section
local macro_rules | `(tactic| walk_at "subscriptTail") => `(tactic| (k_here; (with_reducible show wpAny _ _ (subscriptTail _ _ (Value.ref _) (Value.str _ _)) _ _ _); k_dflt (refine b_tail (knd := PySem.strKind _ _) (by k_asm) (by assumption) (strKind_is _ _ _ _) (by rfl) ?_)))
section
local macro_rules | `(tactic| walk_at "eval Dict") => `(tactic| (k_here; k_dflt (refine' kdn_str ?q ?F ?N ?b ?a ?l ?e ?n ?_; (case q => rfl); (case F => k_asm); (case N => first | k_asm | exact News.nil); (case b => exact Top.nolimit (by k_asm)); (case a => rfl); (case l => rfl); (case e => exact List.cons_ne_nil _ _); (case n => exact Nat.le_of_ble_eq_true rfl)); intro d' h' o' F' N' l1 lo' hd'; (try k_lt l1)))
structure PlanAt (w : World) (h : Heap) (pl : Addr) : Prop where
  is : ∃ dp es n md t, h.get? pl = some (instObj 76 dp) ∧ h.get? dp = some (dictOf es n) ∧ getL (Str.ofString "masks") es = some (some (.ref md)) ∧ getL (Str.ofString "defaults") es = some (some (.int 139 t)) ∧ MasksAt w h md

theorem plan_end {w : World} {G : Heap} {x d md t1 t2 t3 t4 : Addr} {es : List DictEntry} {n : Nat} {rest : List (Addr × Obj)} {o : Obj} {t a1 b1 a2 b2 a3 b3 a4 b4 : Tok}
    (N : ∀ q ∈ ((x, instObj 76 d) :: (d, dictOf es n) :: rest), G.get? q.1 = some q.2) (hm : getL (Str.ofString "masks") es = some (some (.ref md))) (hdf : getL (Str.ofString "defaults") es = some (some (.int 139 t)))
    (lo : (md == sysModules) = false) (hmd : (md, o) ∈ rest) (ho : o.IsDictOf (PySem.strKind PySem.Challenge.rw_pb0168_01.row.prog w) [(Str.ofString "aalt", .ref t1), (Str.ofString "salt", .ref t2), (Str.ofString "ss01", .ref t3), (Str.ofString "liga", .ref t4)])
    (h1 : (t1, ({ cls := .type "tuple", data := .seq #[.int 1 a1, .int 3 b1] } : Obj)) ∈ rest) (h2 : (t2, ({ cls := .type "tuple", data := .seq #[.int 4 a2, .int 2 b2] } : Obj)) ∈ rest)
    (h3 : (t3, ({ cls := .type "tuple", data := .seq #[.int 6 a3, .int 4 b3] } : Obj)) ∈ rest) (h4 : (t4, ({ cls := .type "tuple", data := .seq #[.int 0 a4, .int 1 b4] } : Obj)) ∈ rest) : PlanAt w G x := by
  have up : ∀ {p : Addr × Obj}, p ∈ rest → G.get? p.1 = some p.2 := fun hp => N _ (.tail _ (.tail _ hp))
  exact ⟨d, es, n, md, t, N _ (.head _), N _ (.tail _ (.head _)), hm, hdf, ⟨t1, t2, t3, t4, a1, b1, a2, b2, a3, b3, a4, b4, lo, Heap.dictOf_iff.mpr ⟨o, up hmd, ho⟩, ⟨_, up h1, rfl, _, rfl⟩, ⟨_, up h2, rfl, _, rfl⟩, ⟨_, up h3, rfl, _, rfl⟩, ⟨_, up h4, rfl, _, rfl⟩⟩⟩

theorem new_of {s g h' : Heap} {L' : Addr} {news : List (Addr × Obj)} (hsg : ∀ b o, b ∉ ([] : List Addr) → s.get? b = some o → g.get? b = some o) (N : News g L' h' news) : ∀ q ∈ news, (newPart s h').get? q.1 = some q.2 := fun q hq =>
  newPart_get (N q hq).1 (by
    cases e : s.get? q.1 with
    | none => rfl
    | some o => have := hsg _ o (by simp) e; rw [(N q hq).2.2] at this; cases this)

theorem plan_does (w : World) (mean : ExcName → Option Value) (mg mb : Str → Option Value) :
    DoesL w mean mg mb 204 [] 6 6 [] (fun _ => True) (fun h r h' => ∃ a, r = .ref a ∧ PlanAt w (newPart h h') a) := by
  unfold DoesL Does
  k_fill
  intro dp un gd cn cs L a ccd cl outer A₀ base h₀ m s Q E B F X T hk hd hu hD hP ret
  with_unfolding_all walk_at "IN DEF"
  case hD => exact hD
  case hDl => intro d hd; cases hd
  case ret => exact ret
  intro g L' h₁ hgs hsg hh₁ hD' hL' F' B' X' T'
  have N' : News g L' h₁ [] := News.nil
  (try dsimp only)
  try k_fold
  k_steps
  all_goals (
    refine Back.mk' (by k_asm) ⟨_, rfl, ?_⟩
    refine plan_end (new_of hsg (by k_asm)) (by k_get) (by k_get) (by assumption) (by k_mem) (by assumption) (by k_mem) (by k_mem) (by k_mem) (by k_mem))


-- part PBs1
section
variable {g h : Heap} {L x C dx : Addr} {m : Str → Option Value} {news : List (Addr × Obj)} {od : Obj} {sl : Array (Option Value)}
theorem InstAt.base2 (F : Fr g L h m) (h1 : g.get? x = some (⟨.ref C, some dx, .plain, sl⟩ : Obj)) (h2 : g.get? dx = some od) : InstAt h x ⟨.ref C, some dx, .plain, sl⟩ C (some od) := ⟨F.keep _ _ h1, rfl, rfl, F.keep _ _ h2⟩
theorem InstAt.baseN (F : Fr g L h m) (h1 : g.get? x = some (⟨.ref C, some dx, .plain, sl⟩ : Obj)) (N : News g L h news) (h2 : (dx, od) ∈ news) : InstAt h x ⟨.ref C, some dx, .plain, sl⟩ C (some od) := ⟨F.keep _ _ h1, rfl, rfl, (N _ h2).1⟩
end
theorem isSome_of {name : Str} {es : List DictEntry} {v : Option Value} (h : getL name es = some v) : (getL name es).isSome = true := by rw [h]; rfl
theorem find_of_getL {name : Str} {es : List DictEntry} {v : Value} (h : getL name es = some (some v)) : ∃ e, es.find? (·.key.isStr name) = some e ∧ e.val = v := by
  unfold getL at h
  split at h
  · rename_i e he; cases h; exact ⟨e, he, rfl⟩
  · split at h <;> cases h
theorem getL_of_find {name : Str} {es : List DictEntry} {e : DictEntry} (h : es.find? (·.key.isStr name) = some e) : getL name es = some (some e.val) := by
  unfold getL; rw [h]
theorem putL_length {name : Str} {hsh : Int} {key v : Value} : ∀ {es : List DictEntry} {e : DictEntry}, es.find? (·.key.isStr name) = some e → (putL name hsh key v es).length = es.length
  | [], _, h => by cases h
  | e :: r, e', h => by
    unfold putL
    cases q : e.key.isStr name with
    | true => rfl
    | false =>
      simp only [List.find?_cons, q] at h
      simp only [Bool.false_eq_true, if_false, List.length_cons]
      rw [putL_length h]
theorem putL_len {name : Str} {hsh : Int} {key v v₀ : Value} {es : List DictEntry} (h : getL name es = some (some v₀)) (hz : es.length ≤ 100) : (putL name hsh key v es).length ≤ 1000 := by
  obtain ⟨e, he, _⟩ := find_of_getL h
  rw [putL_length he]; omega
theorem putL_find_self {name : Str} {hsh : Int} {key v : Value} : ∀ {es : List DictEntry} {e : DictEntry}, es.find? (·.key.isStr name) = some e → ∃ e', (putL name hsh key v es).find? (·.key.isStr name) = some e' ∧ e'.val = v
  | [], _, h => by cases h
  | e :: r, e', h => by
    unfold putL
    cases q : e.key.isStr name with
    | true => exact ⟨⟨e.hash, e.key, v⟩, by simp [q], rfl⟩
    | false =>
      simp only [List.find?_cons, q] at h
      obtain ⟨e2, h2, h3⟩ := putL_find_self (hsh := hsh) (key := key) (v := v) h
      exact ⟨e2, by simp [q, h2], h3⟩
theorem putL_find_other {name name' : Str} {hsh : Int} {key v : Value} (hne : name ≠ name') : ∀ {es : List DictEntry} {e : DictEntry}, es.find? (·.key.isStr name') = some e → (putL name hsh key v es).find? (·.key.isStr name') = some e
  | [], _, h => by cases h
  | e :: r, e', h => by
    unfold putL
    cases q : e.key.isStr name with
    | true =>
      have n' : e.key.isStr name' = false := by
        cases z : e.key.isStr name' with
        | false => rfl
        | true => exact absurd (Value.isStr_inj _ _ _ q z) hne
      simp only [List.find?_cons, n'] at h
      simp [n', h]
    | false =>
      cases z : e.key.isStr name' with
      | true =>
        simp only [List.find?_cons, z] at h
        simp [z, h]
      | false =>
        simp only [List.find?_cons, z] at h
        have := putL_find_other (hsh := hsh) (key := key) (v := v) hne h
        simp [z, this]

/-- an Info's dict: its cluster and its mask -/
structure InfoD (o : Obj) (c m : Int) : Prop where
  is : ∃ es n t1 t2, o = dictOf es n ∧ es.length ≤ 100 ∧ getL (Str.ofString "cluster") es = some (some (.int c t1)) ∧ getL (Str.ofString "mask") es = some (some (.int m t2))
theorem InfoD.put {es : List DictEntry} {n : Nat} {c m : Int} {t t1 t2 : Tok} {hsh : Int} (hz : es.length ≤ 100) (hc : getL (Str.ofString "cluster") es = some (some (.int c t1))) {v₀ : Value} (hm : getL (Str.ofString "mask") es = some (some v₀)) :
    InfoD (dictOf (putL (Str.ofString "mask") hsh (.str (Str.ofString "mask") t) (.int m t2) es) n) c m := by
  obtain ⟨e, he, _⟩ := find_of_getL hm
  obtain ⟨e1, he1, hv1⟩ := find_of_getL hc
  obtain ⟨e2, he2, hv2⟩ := putL_find_self (hsh := hsh) (key := .str (Str.ofString "mask") t) (v := .int m t2) he
  refine ⟨_, _, t1, t2, rfl, by rw [putL_length he]; exact hz, ?_, ?_⟩
  · rw [getL_of_find (putL_find_other (by decide) he1), hv1]
  · rw [getL_of_find he2, hv2]

/-- a Wish -/
structure Wsh where
  t : Nat
  v : Int
  b : Int
  e : Int
def tagS : Nat → Str
  | 0 => Str.ofString "aalt"
  | 1 => Str.ofString "salt"
  | _ => Str.ofString "ss01"
structure WishAt (h : Heap) (x : Addr) (u : Wsh) : Prop where
  is : ∃ dx es n t1 t2 t3 t4, h.get? x = some (instObj 46 dx) ∧ h.get? dx = some (dictOf es n) ∧ getL (Str.ofString "tag") es = some (some (.str (tagS u.t) t1)) ∧ getL (Str.ofString "value") es = some (some (.int u.v t2)) ∧
    getL (Str.ofString "begin") es = some (some (.int u.b t3)) ∧ getL (Str.ofString "end") es = some (some (.int u.e t4)) ∧ getL (Str.ofString "is_whole") es = some none
theorem WishAt.keep {h h' : Heap} {x : Addr} {u : Wsh} (W : WishAt h x u) (k : ∀ b o, h.get? b = some o → h'.get? b = some o) : WishAt h' x u := by
  obtain ⟨dx, es, n, t1, t2, t3, t4, a, b, r⟩ := W.is
  exact ⟨dx, es, n, t1, t2, t3, t4, k _ _ a, k _ _ b, r⟩



/-- a wish's bounds -/
def Wsh.ok (u : Wsh) : Prop := u.t < 3 ∧ 0 ≤ u.b ∧ u.b < u.e ∧ 0 ≤ u.v ∧ u.v < 16
def mval : Nat → Int
  | 0 => 14
  | 1 => 48
  | _ => 960
def mshift : Nat → Int
  | 0 => 1
  | 1 => 4
  | _ => 6
def stepW (u : Wsh) (c m : Int) : Int := if u.b ≤ c ∧ c < u.e then Builtin.bitOr (Builtin.bitAnd m (Builtin.bitNot (mval u.t))) (u.v * 2 ^ (mshift u.t).toNat) else m
def runW (us : List Wsh) (c m : Int) : Int := us.foldl (fun m u => stepW u c m) (Builtin.bitOr m 139)

structure BufAt (h : Heap) (b : Addr) (ids : List (Addr × Addr)) : Prop where
  is : ∃ bd es n r, h.get? b = some (instObj 180 bd) ∧ h.get? bd = some (dictOf es n) ∧ getL (Str.ofString "row") es = some (some (.ref r)) ∧ h.IsList r (ids.map fun p => Value.ref p.1).toArray ∧ ∀ p ∈ ids, h.get? p.1 = some (instObj 125 p.2)
theorem BufAt.keep {h h' : Heap} {b : Addr} {ids : List (Addr × Addr)} (W : BufAt h b ids) (k : ∀ b o, h.get? b = some o → h'.get? b = some o) : BufAt h' b ids := by
  obtain ⟨bd, es, n, r, a1, a2, a3, a4, a5⟩ := W.is
  exact ⟨bd, es, n, r, k _ _ a1, k _ _ a2, a3, a4.at fun o e => k _ _ e, fun p hp => k _ _ (a5 p hp)⟩
def WishesAt (h : Heap) (wl : Addr) (ws : List (Addr × Wsh)) : Prop := h.IsList wl (ws.map fun p => Value.ref p.1).toArray ∧ ∀ p ∈ ws, WishAt h p.1 p.2
theorem WishesAt.keep {h h' : Heap} {wl : Addr} {ws : List (Addr × Wsh)} (W : WishesAt h wl ws) (k : ∀ b o, h.get? b = some o → h'.get? b = some o) : WishesAt h' wl ws :=
  ⟨W.1.at fun o e => k _ _ e, fun p hp => (W.2 p hp).keep k⟩
theorem PlanAt.keep {w : World} {h h' : Heap} {pl : Addr} (W : PlanAt w h pl) (k : ∀ b o, h.get? b = some o → h'.get? b = some o) : PlanAt w h' pl := by
  obtain ⟨dp, es, n, md, t, a1, a2, a3, a4, a5⟩ := W.is
  exact ⟨dp, es, n, md, t, k _ _ a1, k _ _ a2, a3, a4, a5.keep k⟩

theorem use0 {w : World} {mean : ExcName → Option Value} {mg mb : Str → Option Value} {f : Addr} {args : List Value} {rd ru : Nat} {Pre : Heap → Prop} {Post : Heap → Value → Heap → Prop}
    {dp un : Nat} {gd : Option (List Code)} {cn : Str} {cs : Scope} {L a : Addr} {ccd : Value} {cl : List (Str × Addr)} {outer : List Env} {A₀ : Around} {base h₀ : Heap} {m : Str → Option Value} {s : Shared} {Q E : Value → Shared → Prop} {news : List (Addr × Obj)}
    (C : DoesL w mean mg mb f args rd ru [] Pre Post)
    (B : Below A₀ base outer h₀) (F : Fr h₀ L s.heap m) (N : News h₀ L s.heap news) (X : Frag.In (hd.heap_39 w.params) h₀) (T : Top hd.view_39 (looseW hd.view_39 [Str.ofString "Plan"]) mean mg mb h₀) (hk : cs.kind = .function)
    (hd : dp + rd < recursionLimit) (hu : un + ru < cLine) (hP : Pre s.heap)
    (ret : ∀ r h' tk', Fr h₀ L h' m → News h₀ L h' news → Post s.heap r h' → Q r { s with heap := h', toks := tk' }) :
    wpAny (model PySem.Challenge.rw_pb0168_01.row.prog w) (ktrTop dp un gd cn cs L a ccd cl outer) (call (.ref f) args) Q E s :=
  C dp un gd cn cs L a ccd cl outer A₀ base h₀ m s Q E B F X T hk hd hu (fun d hd => nomatch hd) hP fun r h' tk' F' k P' => ret r h' tk' F' (N.grown fun b o e => k b o (by simp) e) P'



theorem turnPBs1 : True ∧ True := by
  w_top off
  first | (walk1; all_goals trivial) | exact ⟨trivial, trivial⟩

section
local macro_rules | `(tactic| k_inst) => `(tactic| first
  | (refine' InstAt.base2 ?F ?h1 ?h2; (case F => k_asm); (case h1 => assumption); (case h2 => assumption))
  | (refine' InstAt.baseN ?F ?h1 ?N ?h2; (case F => k_asm); (case h1 => assumption); (case N => k_asm); (case h2 => k_mem)))
section
local macro_rules | `(tactic| k_get) => `(tactic| first | assumption | exact isSome_of (by assumption))
section
local macro_rules | `(tactic| k_all) => `(tactic| assumption)
section
local macro_rules | `(tactic| walk_at "setAttr ref") => `(tactic| (k_here; k_dflt (
  (refine' set_dict ?k1 ?k2 ?k3 ?k4 ?k5 ?k6 ?k7 ?k8 ?k9 ?k10 ?k11 ?k12 ?k13 ?_; (case k1 => k_asm); (case k2 => k_asm); (case k3 => k_asm); (case k4 => k_inst); (case k5 => exact rfl); (case k6 => k_is); (case k7 => k_is); (case k8 => k_is); (case k9 => k_is); (case k10 => k_get); (case k11 => exact rfl); (case k12 => k_upd); (case k13 => exact putL_len (by assumption) (by assumption)); k_whole; intro h' F' N'; (try k_sweep)))))
section
local macro_rules | `(tactic| walk_at "exec For Name Name cons nil") => `(tactic| (k_here; (rename Fr _ _ _ _ => lF'); (with_unfolding_all refine' For_invVF lF' ?k1 ?k2 ?_; (case k1 => exact rfl); (case k2 => exact rfl); k_whole)))
section
local macro_rules | `(tactic| ktr_room) => `(tactic| ((try simp only [depth_under_make, depth_under_kw, depth_in1, depth_deeper, depth_caller] at *); (try dsimp only [ktrTop] at *); omega))
theorem is_whole_does (w : World) (mean : ExcName → Option Value) (mg mb : Str → Option Value) (x : Addr) (u : Wsh) (he : 0 < u.e) :
    DoesL w mean mg mb 43 [.ref x] 3 3 [] (fun h => WishAt h x u) (fun _ r _ => r = .bool false) := by
  unfold DoesL Does
  k_fill
  intro dp un gd cn cs L a ccd cl outer A₀ base h₀ m s Q E B F X T hk hd hu hD hP ret
  obtain ⟨dx, es, n, t1, t2, t3, t4, a1, a2, a3, a4, a5, a6, _⟩ := hP.is
  with_unfolding_all walk_at "IN DEF"
  case hD => exact hD
  case hDl => intro d hd; cases hd
  case ret => exact ret
  intro g L' h₁ hgs hsg hh₁ hD' hL' F' B' X' T'
  have N' : News g L' h₁ [] := News.nil
  have a1' := hsg _ _ (by simp) a1
  have a2' := hsg _ _ (by simp) a2
  clear a1 a2
  (try dsimp only)
  try k_fold
  k_steps
  all_goals (
    refine Back.mk' (by k_asm) ?_
    (show Value.bool _ = Value.bool false)
    congr 1
    first | (exact beq_false_of_ne (by omega)) | (simp_all; done))


-- part PBs2

end

theorem turnPBs2 : True ∧ True := by
  w_top off
  first | (walk1; all_goals trivial) | exact ⟨trivial, trivial⟩

section
local macro_rules | `(tactic| walk_at "ROOM") => `(tactic| ((try simp only [depth_under_make, depth_under_kw, depth_in1, depth_deeper, depth_caller]); (try dsimp only [ktrTop]); omega))
section
local macro_rules | `(tactic| walk_at "UNITS") => `(tactic| ((try simp only [units_in1, units_deeper, Around.mark_units, units_caller]); (try dsimp only [ktrTop]); omega))
section
local macro_rules | `(tactic| walk_at "call ref") => `(tactic| (k_here; (with_reducible show wpAny _ _ (call (Value.ref 87) _) _ _ _); k_dflt (first
  | (refine' use0 (mask_at_aalt _ _ _ _ _ _) ?B ?F ?N ?X ?T ?hk ?hd ?hu ?hP ?_; (case B => k_asm); (case F => k_asm); (case N => k_asm); (case X => k_asm); (case T => k_asm); (case hk => first | exact rfl | assumption); (case hd => walk_at "ROOM"); (case hu => walk_at "UNITS"); (case hP => exact MasksAt.keep (by assumption) (Fr.keep (by k_asm))))
  | (refine' use0 (mask_at_salt _ _ _ _ _ _) ?B ?F ?N ?X ?T ?hk ?hd ?hu ?hP ?_; (case B => k_asm); (case F => k_asm); (case N => k_asm); (case X => k_asm); (case T => k_asm); (case hk => first | exact rfl | assumption); (case hd => walk_at "ROOM"); (case hu => walk_at "UNITS"); (case hP => exact MasksAt.keep (by assumption) (Fr.keep (by k_asm))))
  | (refine' use0 (mask_at_ss01 _ _ _ _ _ _) ?B ?F ?N ?X ?T ?hk ?hd ?hu ?hP ?_; (case B => k_asm); (case F => k_asm); (case N => k_asm); (case X => k_asm); (case T => k_asm); (case hk => first | exact rfl | assumption); (case hd => walk_at "ROOM"); (case hu => walk_at "UNITS"); (case hP => exact MasksAt.keep (by assumption) (Fr.keep (by k_asm))))); (intro r' h' tk' F' N' P'; obtain ⟨t', P'⟩ := P'; subst P'; (try k_sweep))))
section
local macro_rules | `(tactic| walk_at "call ref") => `(tactic| (k_here; (with_reducible show wpAny _ _ (call (Value.ref 43) _) _ _ _); k_dflt (refine' use0 (is_whole_does _ _ _ _ _ _ ?he) ?B ?F ?N ?X ?T ?hk ?hd ?hu ?hP ?_; (case hP => exact WishAt.keep (by assumption) (Fr.keep (by k_asm))); (case he => assumption); (case B => k_asm); (case F => k_asm); (case N => k_asm); (case X => k_asm); (case T => k_asm); (case hk => first | exact rfl | assumption); (case hd => walk_at "ROOM"); (case hu => walk_at "UNITS")); (intro r' h' tk' F' N' P'; subst P'; (try k_sweep))))
theorem same_map {x : Str} {stored : List Str} {m₀ m' : Str → Option Value} (h : ∀ z, z ≠ x → stored.contains z = false → m' z = m₀ z) : SameMap x stored m₀ m' := h
theorem led_of {g h h₁ : Heap} {L : Addr} {ids : List (Addr × Addr)} {R : Nat → Obj → Prop} (hI : ∀ j p, ids[j]? = some p → ∃ o, h.get? p.2 = some o ∧ R j o) (hk : ∀ b o, h.get? b = some o → h₁.get? b = some o)
    (hD : ∀ d ∈ ids.map (·.2), g.get? d = none ∧ d ≠ L) : ∃ led, Led ids R led ∧ News g L h₁ led := by
  refine ⟨(ids.map (·.2)).filterMap fun d => (h.get? d).map fun o => (d, o), ⟨fun q hq => ?_, fun j p hp => ?_⟩, fun q hq => ?_⟩
  · obtain ⟨d, hd, e⟩ := List.mem_filterMap.mp hq
    obtain ⟨o, _, rfl⟩ := Option.map_eq_some_iff.mp e
    exact hd
  · obtain ⟨o, ho, hR⟩ := hI j p hp
    exact ⟨o, List.mem_filterMap.mpr ⟨p.2, List.mem_map.mpr ⟨p, List.mem_of_getElem? hp, rfl⟩, by rw [ho]; rfl⟩, hR⟩
  · obtain ⟨d, hd, e⟩ := List.mem_filterMap.mp hq
    obtain ⟨o, ho, rfl⟩ := Option.map_eq_some_iff.mp e
    exact ⟨hk _ _ ho, (hD d hd).2, (hD d hd).1⟩
theorem set_does (w : World) (mean : ExcName → Option Value) (mg mb : Str → Option Value) (b pl wl : Addr) (ids : List (Addr × Addr)) (ws : List (Addr × Wsh)) (c M : Nat → Int) (nd : (ids.map (·.2)).Nodup) (hok : ∀ p ∈ ws, p.2.ok) :
    DoesL w mean mg mb 94 [.ref b, .ref pl, .ref wl] 9 30 (ids.map (·.2))
      (fun h => (∃ G, (∀ a o, G.get? a = some o → h.get? a = some o) ∧ (∀ d ∈ ids.map (·.2), G.get? d = none) ∧ BufAt G b ids ∧ PlanAt w G pl ∧ WishesAt G wl ws) ∧ ∀ j p, ids[j]? = some p → ∃ o, h.get? p.2 = some o ∧ InfoD o (c j) (M j))
      (fun _ _ h' => ∀ j p, ids[j]? = some p → ∃ o, h'.get? p.2 = some o ∧ InfoD o (c j) (runW (ws.map (·.2)) (c j) (M j))) := by
  unfold DoesL Does
  k_fill
  intro dp un gd cn cs L a ccd cl outer A₀ base h₀ m s Q E B F X T hk hd hu hD hP ret
  obtain ⟨⟨G, hGs, hGD, hB, hPl, hW⟩, hI⟩ := hP
  with_unfolding_all walk_at "IN DEF"
  case hD => exact hD
  case hDl => intro d hd; obtain ⟨p, hp, rfl⟩ := List.mem_map.mp hd; obtain ⟨j, hj⟩ := List.mem_iff_getElem?.mp hp; obtain ⟨o, ho, _⟩ := hI j p hj; exact ⟨o, ho⟩
  case ret => exact ret
  intro g L' h₁ hgs hsg hh₁ hD' hL' F' B' X' T'
  have hGg : ∀ a o, G.get? a = some o → g.get? a = some o := fun a o e => hsg a o (fun q => by rw [hGD a q] at e; cases e) (hGs a o e)
  have hB' := hB.keep hGg
  have hPl' := hPl.keep hGg
  have hW' := hW.keep hGg
  obtain ⟨bd, es, n, r, b1, b2, b3, b4, b5⟩ := hB'.is
  obtain ⟨dp', es', n', md, tt, p1, p2, p3, p4, p5⟩ := hPl'.is
  obtain ⟨t1, t2, t3, t4, a1, c1, a2, c2, a3, c3, a4, c4, lo, dd, y1, y2, y3, y4⟩ := p5.is
  clear hB hPl hW hGs hGD hGg
  obtain ⟨led, hled, N'⟩ := led_of (h := s.heap) (h₁ := h₁) (R := fun j o => InfoD o (c j) (M j)) hI hh₁ hD'
  generalize s.toks + _ = tk0
  (try dsimp only)
  try k_fold
  k_steps
  rename Fr g L' _ _ => F0
  rename News g L' _ _ => N0
  have hrg : r ∉ ids.map (·.2) := fun q => by obtain ⟨o, e, _⟩ := b4; rw [(hD' r q).1] at e; cases e
  have hrL : r ≠ L' := fun q => by obtain ⟨o, e, _⟩ := b4; exact absurd (Heap.lt_size e) (Nat.not_lt.mpr (q ▸ F0.above))
  refine loop_infos (own0 := []) (stored := []) (fun j o => InfoD o (c j) (M j)) (fun j o => InfoD o (c j) (Builtin.bitOr (M j) 139)) rfl (b4.at fun o e => F0.keep _ _ e) hrL hrg nd F0 N0 (fun _ hp => nomatch hp) hled ?_ ?_
  · intro j xx d o u h tk others hj hR hoth F1 N1
    obtain ⟨es1, n1, ta, tb, rfl, hz, hc, hm⟩ := hR.is
    have hx := b5 (xx, d) (List.mem_of_getElem? hj)
    k_sweep
    try k_fold
    k_steps
    all_goals exact InfoTurn.mk' (by k_asm) (by k_asm) (InfoD.put hz hc hm) (by intro z h1 h2; simp [h1])
  · intro u1 led1 h2 tk1 hled1 F1 N1
    rw [List.nil_append] at N1
    clear N0 hled
    k_sweep
    (try dsimp only)
    try k_fold
    k_steps
    rename Fr g L' _ _ => F0
    rename News g L' _ _ => N0
    have hwL : wl ≠ L' := fun q => by obtain ⟨o, e, _⟩ := hW'.1; exact absurd (Heap.lt_size e) (Nat.not_lt.mpr (q ▸ F0.above))
    refine loop_led (stored := [Str.ofString "shift", Str.ofString "bits", Str.ofString "info", Str.ofString "rest"]) (fun i nx => Led ids (fun j o => InfoD o (c j) (((ws.map (·.2)).take i).foldl (fun m u => stepW u (c j) m) (Builtin.bitOr (M j) 139))) nx) rfl (hW'.1.at fun o e => F0.keep _ _ e) hwL F0 N0 hled1 ?_ ?_
    · intro i v u news₁ h tk own I hv hJ ho hI F1 N1
      have hv' : (ws.map fun p => Value.ref p.1)[i]? = some v := by simpa using hv
      rw [List.getElem?_map] at hv'
      obtain ⟨⟨x, u0⟩, hp, rfl⟩ := Option.map_eq_some_iff.mp hv'
      have hW1 := hW'.2 _ (List.mem_of_getElem? hp)
      have hok1 := hok _ (List.mem_of_getElem? hp)
      have hmem : ∀ d ∈ ids.map (·.2), ∃ o, (d, o) ∈ news₁ := fun d hd => by
        obtain ⟨q, hq, rfl⟩ := List.mem_map.mp hd
        obtain ⟨j, hj⟩ := List.mem_iff_getElem?.mp hq
        obtain ⟨o, ho, _⟩ := hJ.2 j q hj
        exact ⟨o, ho⟩
      have hown : ∀ p ∈ own, p.1 ∉ ids.map (·.2) := fun p hp q => by
        obtain ⟨o, hm⟩ := hmem _ q
        rcases ho p hp with e | e
        · exact hI _ hm e
        · obtain ⟨o', e', _⟩ := hW'.1; rw [← e, (hD' _ q).1] at e'; cases e'
      have htake : ((ws.map (·.2)).take (i + 1)) = ((ws.map (·.2)).take i) ++ [u0] := by
        rw [List.take_add_one, List.getElem?_map, hp]; rfl
      obtain ⟨t, v, b0, e0⟩ := u0
      obtain ⟨ot, ob, obe, ov1, ov2⟩ := hok1
      have he0 : 0 < e0 := by simp only at ob obe; omega
      obtain ⟨dx, wes, wn, t1', t2', t3', t4', w1, w2, w3, w4, w5, w6, w7⟩ := hW1.is
      simp only at ot ob obe ov1 ov2 w1 w3 w4 w5 w6
      obtain ⟨uu, huu⟩ : ∃ uu : Wsh, uu = { t := t, v := v, b := b0, e := e0 } := ⟨_, rfl⟩
      rw [← huu] at htake
      have htt : t = 0 ∨ t = 1 ∨ t = 2 := by omega
      clear hv'
      k_sweep
      dsimp only at F1 w1 hW1
      rcases htt with rfl | rfl | rfl
      all_goals simp only [tagS] at w3
      all_goals (try k_fold)
      all_goals (
        k_steps
        rename Fr g L' _ _ => F2
        rename News g L' _ _ => N2
        refine loop_infos (own0 := own) (stored := [Str.ofString "rest"]) (fun j o => InfoD o (c j) (((ws.map (·.2)).take i).foldl (fun m u => stepW u (c j) m) (Builtin.bitOr (M j) 139))) (fun j o => InfoD o (c j) (stepW uu (c j) (((ws.map (·.2)).take i).foldl (fun m u => stepW u (c j) m) (Builtin.bitOr (M j) 139)))) rfl (b4.at fun o e => F2.keep _ _ e) hrL hrg nd F2 N2 hown hJ ?_ ?_
        · intro j xx d o u h tk others hj hR hoth F1 N1
          obtain ⟨es1, n1, ta, tb, rfl, hz, hc, hm⟩ := hR.is
          have hx := b5 (xx, d) (List.mem_of_getElem? hj)
          k_sweep
          try k_fold
          k_steps
          all_goals first
            | (refine InfoTurn.mk' (by k_asm) (by k_asm) ?_ (same_map (by intro z h1 h2; simp only [List.contains_cons, List.contains_nil, Bool.or_false, beq_eq_false_iff_ne, ne_eq] at h2; simp [h1, h2]))
               rw [huu]; simp only [stepW, mval, mshift]; rw [if_pos ⟨by assumption, by assumption⟩]; exact InfoD.put hz hc hm)
            | (refine InfoTurn.mk' (by k_asm) (by k_asm) ?_ (same_map (by intro z h1 h2; simp only [List.contains_cons, List.contains_nil, Bool.or_false, beq_eq_false_iff_ne, ne_eq] at h2; simp [h1, h2]))
               rw [huu]; simp only [stepW]; rw [if_neg (by omega)]; exact hR)
        · intro u2 led2 h3 tk3 hled2 F3 N3
          clear F2 N2
          k_sweep
          (try dsimp only)
          try k_fold
          k_steps
          refine TurnEnd.next (by k_asm) (by k_asm) (fun q hq => ?_) ⟨same_map (by intro z h1 h2; simp only [List.contains_cons, List.contains_nil, Bool.or_false, Bool.or_eq_false_iff, beq_eq_false_iff_ne, ne_eq] at h2; obtain ⟨z1, z2, z3, z4⟩ := h2; simp [h1, z1, z2, z3, z4]), ?_⟩
          · obtain ⟨o, hm⟩ := hmem _ (hled2.1 q hq)
            exact hI (q.1, o) hm
          · refine ⟨hled2.1, fun j p hp => ?_⟩
            obtain ⟨o, q1, q2⟩ := hled2.2 j p hp
            exact ⟨o, q1, by rw [htake]; simp only [List.foldl_append]; exact q2⟩)
    · intro u3 led3 h4 tk4 hJ3 F3 N3
      k_sweep
      (try dsimp only)
      try k_fold
      k_steps
      refine Back.mk' F3 (fun j p hp => ?_)
      obtain ⟨o, q1, q2⟩ := hJ3.2 j p hp
      refine ⟨o, (N3 _ q1).1, ?_⟩
      have e : ((ws.map (·.2)).take (ws.map fun p => Value.ref p.1).toArray.size) = ws.map (·.2) := List.take_of_length_le (by simp)
      rw [e] at q2
      exact q2


-- part PBk

end
end
end
end

theorem turnPBk : True ∧ True := by
  w_top off
  first | (walk1; all_goals trivial) | exact ⟨trivial, trivial⟩

section
local macro_rules | `(tactic| walk_at "eval ListComp") => `(tactic| (k_here; k_dflt (refine LCg.ListComp_U (F₀ := by k_asm) (by with_unfolding_all rfl) (by decide) (by rfl) (by decide) (by rfl) ?_)))
theorem masks_does (w : World) (mean : ExcName → Option Value) (mg mb : Str → Option Value) (b : Addr) (ids : List (Addr × Addr)) (c M : Nat → Int) (hlen : ids.length ≤ 100) :
    DoesL w mean mg mb 216 [.ref b] 6 6 []
      (fun h => BufAt h b ids ∧ ∀ j p, ids[j]? = some p → ∃ o, h.get? p.2 = some o ∧ InfoD o (c j) (M j))
      (fun h r h' => ∃ l vs n, r = .ref l ∧ h.get? l = none ∧ h'.get? l = some (listOf (vs : List Value).toArray n) ∧ IntsAre vs ((List.range ids.length).map M)) := by
  unfold DoesL Does
  k_fill
  intro dp un gd cn cs L a ccd cl outer A₀ base h₀ m s Q E B F X T hk hd hu hD hP ret
  obtain ⟨hB, hI⟩ := hP
  with_unfolding_all walk_at "IN DEF"
  case hD => exact hD
  case hDl => intro d hd; cases hd
  case ret => exact ret
  intro g L' h₁ hgs hsg hh₁ hD' hL' F' B' X' T'
  have hsg' : ∀ b o, s.heap.get? b = some o → g.get? b = some o := fun b o e => hsg b o (by simp) e
  have N' : News g L' h₁ [] := News.nil
  have hB' := hB.keep hsg'
  obtain ⟨bd, es, n, r, b1, b2, b3, b4, b5⟩ := hB'.is
  have hI' : ∀ j p, ids[j]? = some p → ∃ o, g.get? p.2 = some o ∧ InfoD o (c j) (M j) := fun j p hp => by obtain ⟨o, q1, q2⟩ := hI j p hp; exact ⟨o, hsg' _ _ q1, q2⟩
  clear hB hI
  generalize s.toks + _ = tk0
  (try dsimp only)
  try k_fold
  k_steps
  rename Fr g L' _ _ => F0
  rename News g L' _ _ => N0
  refine LCg.CompSrc.base rfl F0 N0 b4 (by simp; rw [sizeLine_eq]; omega) ?_
  intro g'
  refine comp_inv (fun i ys nx => nx = [] ∧ IntsAre ys ((List.range i).map M)) ⟨rfl, .nil⟩ ?_ ?_
  · rintro ys nx ⟨rfl, hys⟩
    unfold LCg.FinE
    intro D h tk F1 N1 _
    clear N0 F0
    k_sweep
    (try dsimp only)
    try k_fold
    k_steps
    exact Back.mk' (by k_asm) ⟨D, ys, _, rfl, none_of_keep hsg' (N1 _ (.head _)).2.2, (N1 _ (.head _)).1, by simpa using hys⟩
  · rintro i ys nx v I oI C oC D m₂ h tk E' hi ⟨rfl, hys⟩ hv hC hx F1 N1 hoff hne
    clear N0 F0
    have hv' : (ids.map fun p => Value.ref p.1)[i]? = some v := by simpa using hv
    rw [List.getElem?_map] at hv'
    obtain ⟨⟨x, d⟩, hp, rfl⟩ := Option.map_eq_some_iff.mp hv'
    have q1 := b5 _ (List.mem_of_getElem? hp)
    obtain ⟨o, q2, q3⟩ := hI' i _ hp
    obtain ⟨es1, n1, ta, tb, rfl, hz, hc, hm⟩ := q3.is
    k_sweep
    dsimp only at q1 q2
    try k_fold
    k_steps
    rw [List.range_succ, List.map_append]
    exact ints_snoc hys


-- part PBi

end
end
end

theorem turnPBi : True ∧ True := by
  w_top off
  first | (walk1; all_goals trivial) | exact ⟨trivial, trivial⟩

section
local macro_rules | `(tactic| walk_at "setAttr ref") => `(tactic| (k_here; k_dflt (
  (refine' set_dict ?k1 ?k2 ?k3 ?k4 ?k5 ?k6 ?k7 ?k8 ?k9 ?k10 ?k11 ?k12 ?k13 ?_; (case k1 => k_asm); (case k2 => k_asm); (case k3 => k_asm); (case k4 => k_inst); (case k5 => exact rfl); (case k6 => k_is); (case k7 => k_is); (case k8 => k_is); (case k9 => k_is); (case k10 => exact isSome_of (by assumption)); (case k11 => exact rfl); (case k12 => k_upd); (case k13 => exact putL_len (by assumption) (by assumption)); k_whole; intro h' F' N'; (try k_sweep)))))
section
local macro_rules | `(tactic| walk_at "exec For Name Name cons nil") => `(tactic| (k_here; (rename Fr _ _ _ _ => lF'); (with_unfolding_all refine' For_invVF lF' ?k1 ?k2 ?_; (case k1 => exact rfl); (case k2 => exact rfl); k_whole)))
section
local macro_rules | `(tactic| walk_at "eval ListComp") => `(tactic| (k_here; k_dflt (refine LCg.ListComp_U (F₀ := by k_asm) (by with_unfolding_all rfl) (by decide) (by rfl) (by decide) (by rfl) ?_)))
section
local macro_rules | `(tactic| walk_at "exec For Tuple Name cons nil") => `(tactic| (k_here; (rename Fr _ _ _ _ => lF'); (with_unfolding_all refine' For_turns lF' ?_; k_whole)))
section
local macro_rules | `(tactic| walk_at "ROOM") => `(tactic| ((try simp only [depth_under_make, depth_under_kw, depth_in1, depth_deeper, depth_caller]); (try dsimp only [ktrTop]); omega))
section
local macro_rules | `(tactic| walk_at "UNITS") => `(tactic| ((try simp only [units_in1, units_deeper, Around.mark_units, units_caller]); (try dsimp only [ktrTop]); omega))
section
local macro_rules | `(tactic| walk_at "call ref") => `(tactic| (k_here; (with_reducible show wpAny _ _ (call (Value.ref 204) _) _ _ _); k_dflt (refine' use0 (plan_does _ _ _ _) ?B ?F ?N ?X ?T ?hk ?hd ?hu ?hP ?_; (case B => k_asm); (case F => k_asm); (case N => k_asm); (case X => k_asm); (case T => k_asm); (case hk => first | exact rfl | assumption); (case hd => walk_at "ROOM"); (case hu => walk_at "UNITS"); (case hP => exact trivial)); (intro r' h' tk' F' N' P'; obtain ⟨a', e', P'⟩ := P'; subst e')))
/-- the rows that were drawn: tuples of two ints -/
def RowsAt (h : Heap) (rl : Addr) (rs : List (Addr × Int × Int)) : Prop := h.IsList rl (rs.map fun p => Value.ref p.1).toArray ∧ ∀ p ∈ rs, ∃ t1 t2, IsTup h p.1 #[.int p.2.1 t1, .int p.2.2 t2]
def cOf (rs : List (Addr × Int × Int)) (j : Nat) : Int := (rs.getD j (0, 0, 0)).2.1
def mOf (rs : List (Addr × Int × Int)) (j : Nat) : Int := (rs.getD j (0, 0, 0)).2.2

/-- the ledger of _law_laid's loop -/
def JLaid (rs : List (Addr × Int × Int)) (IL : Addr) (i : Nat) (nx : List (Addr × Obj)) : Prop :=
  ∃ (ids : List (Addr × Addr)) (others : List (Addr × Obj)) (nI : Nat), ids.length = i ∧ nx = (IL, listOf (ids.map fun p => Value.ref p.1).toArray nI) :: others ∧ (∀ p ∈ others, IL < p.1) ∧ (ids.map (·.2)).Nodup ∧
    (∀ p ∈ ids, (p.1, instObj 125 p.2) ∈ others) ∧ ∀ j p, ids[j]? = some p → ∃ o, (p.2, o) ∈ others ∧ InfoD o (cOf rs j) (mOf rs j * 2 ^ 20)
theorem all_lt {d : Addr} {l : List (Addr × Obj)} (h : AllLt d l) : ∀ p ∈ l, p.1 < d := tb_ltOf h
theorem laid_turn {g h' : Heap} {L : Addr} {s : Shared} {own others OT : List (Addr × Obj)} {I IL x d : Addr} {od : Obj} {rs : List (Addr × Int × Int)} {ids : List (Addr × Addr)} {i nI' : Nat} {Q : Flow → Shared → Prop} {m' : Str → Option Value} {tk' : Nat} {Mp : (Str → Option Value) → Prop} {c0 m0 : Int}
    (F : Fr g L h' m') (N : News g L h' ((x, instObj 125 d) :: (d, od) :: (IL, listOf ((ids.map fun p => Value.ref p.1).toArray.push (.ref x)) nI') :: OT)) (hOT : OT = own ++ others)
    (hd : IL < d ∧ AllLt d OT) (hx : d < x) (hli : ids.length = i) (hlt : ∀ p ∈ others, IL < p.1) (hnd : (ids.map (·.2)).Nodup) (hins : ∀ p ∈ ids, (p.1, instObj 125 p.2) ∈ others)
    (hinf : ∀ j p, ids[j]? = some p → ∃ o, (p.2, o) ∈ others ∧ InfoD o (cOf rs j) (mOf rs j * 2 ^ 20)) (hc : cOf rs i = c0) (hm : mOf rs i = m0) (hod : InfoD od c0 (m0 * 2 ^ 20))
    (hI : ∀ q ∈ others, q.1 ≠ I) (hIL : IL ≠ I) (hId : I < d) (hM : Mp m') :
    TurnEnd g L s own I (fun m' nx => Mp m' ∧ JLaid rs IL (i + 1) nx) Q .next { s with heap := h', toks := tk' } := by
  have hall := all_lt hd.2
  have hILd := hd.1
  refine TurnEnd.next (news' := (IL, listOf ((ids ++ [(x, d)]).map fun p => Value.ref p.1).toArray nI') :: (x, instObj 125 d) :: (d, od) :: others) F (fun p hp => ?_) (fun q hq => ?_) ⟨hM, ids ++ [(x, d)], (x, instObj 125 d) :: (d, od) :: others, nI', by simp [hli], rfl, ?_, ?_, ?_, ?_⟩
  · rcases List.mem_append.mp hp with hp | hp
    · exact N _ (.tail _ (.tail _ (.tail _ (by rw [hOT]; exact List.mem_append_left _ hp))))
    · rcases List.mem_cons.mp hp with rfl | hp
      · have := N _ (.tail _ (.tail _ (.head _)))
        simpa using this
      · rcases List.mem_cons.mp hp with rfl | hp
        · exact N _ (.head _)
        · rcases List.mem_cons.mp hp with rfl | hp
          · exact N _ (.tail _ (.head _))
          · exact N _ (.tail _ (.tail _ (.tail _ (by rw [hOT]; exact List.mem_append_right _ hp))))
  · rcases List.mem_cons.mp hq with rfl | hq
    · exact hIL
    · rcases List.mem_cons.mp hq with rfl | hq
      · exact Nat.ne_of_gt (Nat.lt_trans hId hx)
      · rcases List.mem_cons.mp hq with rfl | hq
        · exact Nat.ne_of_gt hId
        · exact hI _ hq
  · intro p hp
    rcases List.mem_cons.mp hp with rfl | hp
    · exact Nat.lt_trans hILd hx
    · rcases List.mem_cons.mp hp with rfl | hp
      · exact hILd
      · exact hlt p hp
  · rw [List.map_append]
    refine List.nodup_append.mpr ⟨hnd, by simp, fun a ha b hb => ?_⟩
    have hb' : b = d := by simpa using hb
    obtain ⟨p, hp, rfl⟩ := List.mem_map.mp ha
    obtain ⟨j, hj⟩ := List.mem_iff_getElem?.mp hp
    obtain ⟨o, ho, _⟩ := hinf j p hj
    rw [hb']
    exact Nat.ne_of_lt (hall _ (by rw [hOT]; exact List.mem_append_right _ ho))
  · intro p hp
    rcases List.mem_append.mp hp with hp | hp
    · exact .tail _ (.tail _ (hins p hp))
    · rw [List.mem_singleton.mp hp]; exact .head _
  · intro j p hj
    by_cases hji : j < ids.length
    · rw [List.getElem?_append_left hji] at hj
      obtain ⟨o, ho, h2⟩ := hinf j p hj
      exact ⟨o, .tail _ (.tail _ ho), h2⟩
    · rw [List.getElem?_append_right (Nat.not_lt.mp hji)] at hj
      have hj0 : j - ids.length = 0 := by
        have := (List.getElem?_eq_some_iff.mp hj).1
        simp at this; omega
      have hji' : j = i := by omega
      rw [hj0] at hj
      simp at hj
      subst hj
      rw [hji', hc, hm]
      exact ⟨od, .tail _ (.head _), hod⟩
theorem infoD_of {es : List DictEntry} {n : Nat} {c m : Int} {t1 t2 : Tok} (hz : es.length ≤ 100) (hc : getL (Str.ofString "cluster") es = some (some (.int c t1))) (hm : getL (Str.ofString "mask") es = some (some (.int m t2))) : InfoD (dictOf es n) c m := ⟨es, n, t1, t2, rfl, hz, hc, hm⟩

section
variable {w : World} {g hb h9 : Heap} {L IL x d : Addr} {m : Str → Option Value} {es : List DictEntry} {n nI : Nat} {others : List (Addr × Obj)} {ids : List (Addr × Addr)} {rs : List (Addr × Int × Int)} {ws : List (Addr × Wsh)} {wl a' : Addr}
theorem laid_in (hinf : ∀ j p, ids[j]? = some p → ∃ o, (p.2, o) ∈ others ∧ InfoD o (cOf rs j) (mOf rs j * 2 ^ 20)) : ∀ dd ∈ ids.map (·.2), ∃ o, (dd, o) ∈ others ∧ ∃ es n, o = dictOf es n := fun dd hd => by
  obtain ⟨p, hp, rfl⟩ := List.mem_map.mp hd
  obtain ⟨j, hj⟩ := List.mem_iff_getElem?.mp hp
  obtain ⟨o, ho, hh⟩ := hinf j p hj
  obtain ⟨es, n, _, _, e, _⟩ := hh.is
  exact ⟨o, ho, es, n, e⟩
theorem laid_buf {G h : Heap} (N : News g L h ((x, instObj 180 d) :: (d, dictOf es n) :: (IL, listOf (ids.map fun p => Value.ref p.1).toArray nI) :: others)) (hd : ∀ p ∈ others, p.1 < d) (hx : d < x) (hlt : ∀ p ∈ others, IL < p.1)
    (hins : ∀ p ∈ ids, (p.1, instObj 125 p.2) ∈ others) (hinf : ∀ j p, ids[j]? = some p → ∃ o, (p.2, o) ∈ others ∧ InfoD o (cOf rs j) (mOf rs j * 2 ^ 20)) (hrow : getL (Str.ofString "row") es = some (some (.ref IL)))
    (up : ∀ a o, h.get? a = some o → g.get? a = none → a ∉ ids.map (·.2) → G.get? a = some o) : BufAt G x ids := by
  have nd1 : ∀ a, d ≤ a → a ∉ ids.map (·.2) := fun a ha q => by
    obtain ⟨o, ho, _⟩ := laid_in hinf a q
    exact absurd (hd _ ho) (Nat.not_lt.mpr ha)
  have nd2 : IL ∉ ids.map (·.2) := fun q => by
    obtain ⟨o, ho, _⟩ := laid_in hinf _ q
    exact Nat.lt_irrefl _ (hlt _ ho)
  have nd3 : ∀ p ∈ ids, p.1 ∉ ids.map (·.2) := fun p hp q => by
    obtain ⟨o, ho, e1, e2, e⟩ := laid_in hinf _ q
    have h1 := (N _ (.tail _ (.tail _ (.tail _ ho)))).1
    have h2 := (N _ (.tail _ (.tail _ (.tail _ (hins p hp))))).1
    dsimp only at h1 h2
    rw [h2, e] at h1
    cases h1
  have go : ∀ {q : Addr × Obj}, q ∈ ((x, instObj 180 d) :: (d, dictOf es n) :: (IL, listOf (ids.map fun p => Value.ref p.1).toArray nI) :: others) → q.1 ∉ ids.map (·.2) → G.get? q.1 = some q.2 := fun hq nq => up _ _ (N _ hq).1 (N _ hq).2.2 nq
  exact ⟨d, es, n, IL, go (.head _) (nd1 x (Nat.le_of_lt hx)), go (.tail _ (.head _)) (nd1 d (Nat.le_refl _)), hrow, ⟨_, go (.tail _ (.tail _ (.head _))) nd2, rfl, _, rfl⟩, fun p hp => go (.tail _ (.tail _ (.tail _ (hins p hp)))) (nd3 p hp)⟩
theorem laid_pre (F9 : Fr g L h9 m) (Nb : News g L hb ((x, instObj 180 d) :: (d, dictOf es n) :: (IL, listOf (ids.map fun p => Value.ref p.1).toArray nI) :: others))
    (N9 : News g L h9 ((x, instObj 180 d) :: (d, dictOf es n) :: (IL, listOf (ids.map fun p => Value.ref p.1).toArray nI) :: others)) (hd : ∀ p ∈ others, p.1 < d) (hx : d < x) (hlt : ∀ p ∈ others, IL < p.1)
    (hins : ∀ p ∈ ids, (p.1, instObj 125 p.2) ∈ others) (hinf : ∀ j p, ids[j]? = some p → ∃ o, (p.2, o) ∈ others ∧ InfoD o (cOf rs j) (mOf rs j * 2 ^ 20)) (hrow : getL (Str.ofString "row") es = some (some (.ref IL)))
    (P : PlanAt w (newPart hb h9) a') (W : WishesAt g wl ws) :
    (∃ G, (∀ a o, G.get? a = some o → h9.get? a = some o) ∧ (∀ d ∈ ids.map (·.2), G.get? d = none) ∧ BufAt G x ids ∧ PlanAt w G a' ∧ WishesAt G wl ws) ∧ ∀ j p, ids[j]? = some p → ∃ o, h9.get? p.2 = some o ∧ InfoD o (cOf rs j) (mOf rs j * 2 ^ 20) := by
  have inb : ∀ dd ∈ ids.map (·.2), (∃ o, hb.get? dd = some o) ∧ g.get? dd = none := fun dd hdd => by
    obtain ⟨o, ho, _⟩ := laid_in hinf dd hdd
    have := Nb _ (.tail _ (.tail _ (.tail _ ho)))
    exact ⟨⟨_, this.1⟩, this.2.2⟩
  refine ⟨⟨hideAll h9 (ids.map (·.2)), fun a o e => of_hideAll _ e, fun dd hdd => hideAll_none _ hdd, laid_buf N9 hd hx hlt hins hinf hrow fun a o e _ nd => hideAll_get _ e nd, P.keep fun b o e => ?_, W.keep fun b o e => ?_⟩, fun j p hj => ?_⟩
  · obtain ⟨e1, e2⟩ := of_newPart e
    exact hideAll_get _ e1 fun q => by obtain ⟨⟨o', e3⟩, _⟩ := inb b q; rw [e2] at e3; cases e3
  · exact hideAll_get _ (F9.keep _ _ e) fun q => by have := (inb b q).2; rw [e] at this; cases this
  · obtain ⟨o, ho, hh⟩ := hinf j p hj
    exact ⟨o, (N9 _ (.tail _ (.tail _ (.tail _ ho)))).1, hh⟩
theorem laid_news (N9 : News g L h9 ((x, instObj 180 d) :: (d, dictOf es n) :: (IL, listOf (ids.map fun p => Value.ref p.1).toArray nI) :: others)) (hinf : ∀ j p, ids[j]? = some p → ∃ o, (p.2, o) ∈ others ∧ InfoD o (cOf rs j) (mOf rs j * 2 ^ 20)) :
    ∀ d ∈ ids.map (·.2), g.get? d = none ∧ d ≠ L := fun dd hdd => by
  obtain ⟨o, ho, _⟩ := laid_in hinf dd hdd
  have := N9 _ (.tail _ (.tail _ (.tail _ ho)))
  exact ⟨this.2.2, this.2.1⟩
end
def Hold (P : Prop) : Prop := P
theorem hold_of {P : Prop} (h : Hold P) : P := h
theorem use1 {w : World} {mean : ExcName → Option Value} {mg mb : Str → Option Value} {f : Addr} {args : List Value} {rd ru : Nat} {D : List Addr} {Pre : Heap → Prop} {Post : Heap → Value → Heap → Prop}
    {dp un : Nat} {gd : Option (List Code)} {cn : Str} {cs : Scope} {L a : Addr} {ccd : Value} {cl : List (Str × Addr)} {outer : List Env} {A₀ : Around} {base h₀ : Heap} {m : Str → Option Value} {s : Shared} {Q E : Value → Shared → Prop}
    (C : DoesL w mean mg mb f args rd ru D Pre Post)
    (B : Below A₀ base outer h₀) (F : Fr h₀ L s.heap m) (X : Frag.In (hd.heap_39 w.params) h₀) (T : Top hd.view_39 (looseW hd.view_39 [Str.ofString "Plan"]) mean mg mb h₀) (hk : cs.kind = .function)
    (hd : dp + rd < recursionLimit) (hu : un + ru < cLine) (hD : ∀ d ∈ D, h₀.get? d = none ∧ d ≠ L) (hP : Pre s.heap)
    (ret : ∀ r h' tk', Fr h₀ L h' m → (∀ b o, b ∉ D → s.heap.get? b = some o → h'.get? b = some o) → Post s.heap r h' → Q r { s with heap := h', toks := tk' }) :
    wpAny (model PySem.Challenge.rw_pb0168_01.row.prog w) (ktrTop dp un gd cn cs L a ccd cl outer) (call (.ref f) args) Q E s :=
  C dp un gd cn cs L a ccd cl outer A₀ base h₀ m s Q E B F X T hk hd hu hD hP ret
section
local macro_rules | `(tactic| walk_at "call ref") => `(tactic| ((with_reducible show wpAny _ _ (call (Value.ref 94) _) _ _ _); refine hold_of ?_))
theorem laid_does (w : World) (mean : ExcName → Option Value) (mg mb : Str → Option Value) (rl wl : Addr) (rs : List (Addr × Int × Int)) (ws : List (Addr × Wsh)) (hok : ∀ p ∈ ws, p.2.ok) (hrs : ∀ p ∈ rs, 0 ≤ p.2.2 ∧ p.2.2 < 4) (hlen : rs.length ≤ 100) :
    DoesL w mean mg mb 211 [.ref rl, .ref wl] 20 60 []
      (fun h => RowsAt h rl rs ∧ WishesAt h wl ws)
      (fun h r h' => ∃ b ids, r = .ref b ∧ ids.length = rs.length ∧ ((ids : List (Addr × Addr)).map (·.2)).Nodup ∧ (∃ G, (∀ a o, G.get? a = some o → h'.get? a = some o ∧ h.get? a = none) ∧ (∀ d ∈ ids.map (·.2), G.get? d = none) ∧ BufAt G b ids) ∧
        ∀ j p, ids[j]? = some p → h.get? p.2 = none ∧ ∃ o, h'.get? p.2 = some o ∧ InfoD o (cOf rs j) (runW (ws.map (·.2)) (cOf rs j) (mOf rs j * 2 ^ 20))) := by
  unfold DoesL Does
  k_fill
  intro dp un gd cn cs L a ccd cl outer A₀ base h₀ m s Q E B F X T hk hd hu hD hP ret
  obtain ⟨hR, hW⟩ := hP
  with_unfolding_all walk_at "IN DEF"
  case hD => exact hD
  case hDl => intro d hd; cases hd
  case ret => exact ret
  intro g L' h₁ hgs hsg hh₁ hD' hL' F' B' X' T'
  have hsg' : ∀ b o, s.heap.get? b = some o → g.get? b = some o := fun b o e => hsg b o (by simp) e
  have N' : News g L' h₁ [] := News.nil
  have hW' := hW.keep hsg'
  have r1 : g.IsList rl (rs.map fun p => Value.ref p.1).toArray := hR.1.at fun o e => hsg' _ _ e
  have r2 : ∀ p ∈ rs, ∃ t1 t2, IsTup g p.1 #[.int p.2.1 t1, .int p.2.2 t2] := fun p hp => by obtain ⟨t1, t2, q⟩ := hR.2 p hp; exact ⟨t1, t2, q.keeps hsg'⟩
  clear hR hW
  generalize s.toks + _ = tk0
  (try dsimp only)
  try k_fold
  k_steps
  rename_i IL hA lA hB F0 N0
  clear lA
  have hrL : rl ≠ L' := fun q => by obtain ⟨o, e, _⟩ := r1; exact absurd (Heap.lt_size e) (Nat.not_lt.mpr (q ▸ F0.above))
  have hIg : g.get? IL = none := (N0 _ (.head _)).2.2
  have hrI : rl ≠ IL := fun q => by obtain ⟨o, e, _⟩ := r1; rw [q, hIg] at e; cases e
  refine turns_led (stored := [Str.ofString "cluster", Str.ofString "more", Str.ofString "info"]) (fun i nx => JLaid rs IL i nx) rfl (r1.at fun o e => F0.keep _ _ e) hrL F0 N0 ⟨[], [], 0, rfl, rfl, (fun _ hp => nomatch hp), List.nodup_nil, (fun _ hp => nomatch hp), fun j p hp => by simp at hp⟩ ?_ ?_
  · rintro i v u nx h tk own I hv ⟨ids, others, nI, hli, rfl, hlt, hnd, hins, hinf⟩ ho hIo hI F1 N1
    have hv' : (rs.map fun p => Value.ref p.1)[i]? = some v := by simpa using hv
    rw [List.getElem?_map] at hv'
    obtain ⟨⟨ra, c0, m0⟩, hp, rfl⟩ := Option.map_eq_some_iff.mp hv'
    obtain ⟨ta, tb, htup⟩ := r2 _ (List.mem_of_getElem? hp)
    obtain ⟨hm0, hm1⟩ := hrs _ (List.mem_of_getElem? hp)
    have hilt : i < rs.length := (List.getElem?_eq_some_iff.mp hp).1
    dsimp only at htup hm0 hm1
    obtain ⟨OT, hOT⟩ : ∃ OT, OT = own ++ others := ⟨_, rfl⟩
    have hothI : ∀ p ∈ OT, p.1 ≠ IL := fun p hp => by
      rw [hOT] at hp
      rcases List.mem_append.mp hp with hp | hp
      · rcases ho p hp with e | e
        · exact fun q => hI _ (.head _) (q.symm.trans e)
        · rw [e]; exact hrI
      · exact Nat.ne_of_gt (hlt p hp)
    have N2 : News g L' h ((IL, listOf (ids.map fun p => Value.ref p.1).toArray nI) :: OT) := fun p hp => by
      rcases List.mem_cons.mp hp with rfl | hp
      · exact N1 _ (List.mem_append_right _ (.head _))
      · rw [hOT] at hp
        rcases List.mem_append.mp hp with hp | hp
        · exact N1 _ (List.mem_append_left _ hp)
        · exact N1 _ (List.mem_append_right _ (.tail _ hp))
    clear N1 N0 F0
    k_sweep
    try dsimp only
    try k_fold
    k_steps
    refine laid_turn (by k_asm) (by k_asm) hOT (by assumption) (by assumption) hli hlt hnd hins hinf ?_ ?_ (infoD_of (Nat.le_of_ble_eq_true rfl) (by k_get) (by k_get)) (fun q hq => hI q (.tail _ hq)) (hI _ (.head _)) ?_ ?_
    · simp [cOf, List.getD, hp]
    · simp [mOf, List.getD, hp]
    · rename (_ < _ ∧ AllLt _ _) => hdl
      obtain ⟨o, hIo⟩ := hIo
      exact all_lt hdl.2 _ (by rw [hOT]; exact List.mem_append_left _ hIo)
    · intro z h2
      simp only [List.contains_cons, List.contains_nil, Bool.or_false, Bool.or_eq_false_iff, beq_eq_false_iff_ne, ne_eq] at h2
      obtain ⟨z1, z2, z3⟩ := h2
      simp [z1, z2, z3]
  · intro u nx h tk hJ F1 N1
    obtain ⟨ids, others, nI, hli, rfl, hlt, hnd, hins, hinf⟩ := hJ
    clear N0 F0
    k_sweep
    (try dsimp only)
    try k_fold
    k_steps
    unfold Hold
    refine' use1 (set_does w mean mg mb _ _ wl ids ws (cOf rs) (fun j => mOf rs j * 2 ^ 20) hnd hok) ?B ?F ?X ?T ?hk ?hd ?hu ?hD ?hP ?ret
    case B => k_asm
    case F => k_asm
    case X => k_asm
    case T => k_asm
    case hk => rfl
    case hd => walk_at "ROOM"
    case hu => walk_at "UNITS"
    case hD => exact laid_news (by k_asm) hinf
    case hP =>
      rename (_ < _ ∧ AllLt _ _) => hdl
      rename PlanAt w _ _ => hPl
      exact laid_pre (by k_asm) (by k_asm) (by k_asm) (all_lt hdl.2) (by assumption) hlt hins hinf (by k_get) hPl hW'
    case ret =>
      rename (_ < _ ∧ AllLt _ _) => hdl
      rename News g L' _ _ => N9
      intro r h10 tk10 F10 hk10 hP10
      k_steps
      refine Back.mk' F10 ⟨_, ids, rfl, by simpa using hli, hnd, ⟨hideAll (newPart s.heap h10) (ids.map (·.2)), fun a o e => of_newPart (of_hideAll _ e), fun dd hdd => hideAll_none _ hdd, ?_⟩, fun j p hj => ⟨?_, hP10 j p hj⟩⟩
      · exact laid_buf N9 (all_lt hdl.2) (by assumption) hlt hins hinf (by k_get) fun a o e n nd => hideAll_get _ (newPart_get (hk10 a o nd e) (none_of_keep hsg' n)) nd
      · exact none_of_keep hsg' (laid_news N9 hinf _ (List.mem_map.mpr ⟨p, List.mem_of_getElem? hj, rfl⟩)).1


-- part PBw0
noncomputable def lawX : Option (List Stmt × Scope) := match PySem.Challenge.pw_pb0168_01.main.body.getLast? with
  | some (.FunctionDef _ _ b _ _ _ sc _ _ _) => some (b, sc)
  | _ => none
noncomputable def lawB : List Stmt := (lawX.getD ([], default)).1
noncomputable abbrev lawScope : Scope := (⟨Scope.mk _ _ _ _ _, rfl⟩ : { sc : Scope // (lawX.getD ([], default)).2 = sc }).1
noncomputable abbrev lawS0 : Stmt := (⟨Stmt.Assign _ _ _, rfl⟩ : { x : Stmt // lawB[0]? = some x }).1
noncomputable abbrev lawS1 : Stmt := (⟨Stmt.Assign _ _ _, rfl⟩ : { x : Stmt // lawB[1]? = some x }).1
noncomputable abbrev lawS2 : Stmt := (⟨Stmt.Assign _ _ _, rfl⟩ : { x : Stmt // lawB[2]? = some x }).1
noncomputable abbrev lawS3 : Stmt := (⟨Stmt.For _ _ _ _ _, rfl⟩ : { x : Stmt // lawB[3]? = some x }).1
noncomputable abbrev lawS4 : Stmt := (⟨Stmt.Assign _ _ _, rfl⟩ : { x : Stmt // lawB[4]? = some x }).1
noncomputable abbrev lawS5 : Stmt := (⟨Stmt.Assign _ _ _, rfl⟩ : { x : Stmt // lawB[5]? = some x }).1
noncomputable abbrev lawS6 : Stmt := (⟨Stmt.Assign _ _ _, rfl⟩ : { x : Stmt // lawB[6]? = some x }).1
noncomputable abbrev lawS7 : Stmt := (⟨Stmt.For _ _ _ _ _, rfl⟩ : { x : Stmt // lawB[7]? = some x }).1
noncomputable abbrev lawS8 : Stmt := (⟨Stmt.If _ _ _ _, rfl⟩ : { x : Stmt // lawB[8]? = some x }).1
noncomputable abbrev lawS9 : Stmt := (⟨Stmt.Expr _ _, rfl⟩ : { x : Stmt // lawB[9]? = some x }).1
noncomputable abbrev lawS10 : Stmt := (⟨Stmt.If _ _ _ _, rfl⟩ : { x : Stmt // lawB[10]? = some x }).1
noncomputable abbrev lawS11 : Stmt := (⟨Stmt.For _ _ _ _ _, rfl⟩ : { x : Stmt // lawB[11]? = some x }).1
noncomputable abbrev lawS12 : Stmt := (⟨Stmt.Return _ _, rfl⟩ : { x : Stmt // lawB[12]? = some x }).1

theorem lawB_is : lawB = [lawS0, lawS1, lawS2, lawS3, lawS4, lawS5, lawS6, lawS7, lawS8, lawS9, lawS10, lawS11, lawS12] := rfl

/-- all of h that stands neither in g nor at L nor at one of Mut -/
theorem rest_ex (g : Heap) (L : Addr) (h : Heap) (Mut : List Addr) : ∃ rest : List (Addr × Obj), News g L h rest ∧ (∀ p ∈ rest, p.1 ∉ Mut) ∧ (∀ b o, h.get? b = some o → g.get? b = none → b ≠ L → b ∉ Mut → (b, o) ∈ rest) := by
  refine ⟨(List.range h.objs.size).filterMap fun b => if (g.get? b).isNone && b != L && !Mut.contains b then (h.get? b).map fun o => (b, o) else none, fun p hp => ?_, fun p hp => ?_, fun b o e1 e2 e3 e4 => ?_⟩
  · obtain ⟨b, _, e⟩ := List.mem_filterMap.mp hp
    split at e
    · rename_i q
      simp only [Bool.and_eq_true, Option.isNone_iff_eq_none, bne_iff_ne, ne_eq, Bool.not_eq_true'] at q
      obtain ⟨o, ho, rfl⟩ := Option.map_eq_some_iff.mp e
      exact ⟨ho, q.1.2, q.1.1⟩
    · cases e
  · obtain ⟨b, _, e⟩ := List.mem_filterMap.mp hp
    split at e
    · rename_i q
      simp only [Bool.and_eq_true, Option.isNone_iff_eq_none, bne_iff_ne, ne_eq, Bool.not_eq_true'] at q
      obtain ⟨o, ho, rfl⟩ := Option.map_eq_some_iff.mp e
      have := q.2
      simpa using this
    · cases e
  · refine List.mem_filterMap.mpr ⟨b, List.mem_range.mpr (Heap.lt_size e1), ?_⟩
    rw [if_pos (by simp [e2, e3]; exact e4), e1]; rfl

/-- what a step keeps -/
def Imm (Mut : List Addr) (h h' : Heap) : Prop := ∀ b o, b ∉ Mut → h.get? b = some o → h'.get? b = some o
theorem Imm.of {g h h' : Heap} {L : Addr} {Mut : List Addr} {m m' : Str → Option Value} {rest : List (Addr × Obj)} (F : Fr g L h m) (F' : Fr g L h' m') (N' : News g L h' rest) (hL : L ∈ Mut)
    (hr : ∀ b o, h.get? b = some o → g.get? b = none → b ≠ L → b ∉ Mut → (b, o) ∈ rest) : Imm Mut h h' := fun b o nb e => by
  cases q : g.get? b with
  | some o' =>
    have := F.keep _ _ q
    rw [e] at this
    rw [Option.some.inj this]
    exact F'.keep _ _ q
  | none => exact (N' _ (hr b o e q (fun z => nb (z ▸ hL)) nb)).1
theorem Imm.hide {Mut : List Addr} {h h' : Heap} (k : Imm Mut h h') : ∀ b o, (hideAll h Mut).get? b = some o → (hideAll h' Mut).get? b = some o := fun b o e => by
  have nb : b ∉ Mut := fun q => by rw [hideAll_none _ q] at e; cases e
  exact hideAll_get _ (k b o nb (of_hideAll _ e)) nb
theorem Imm.trans {Mut : List Addr} {h h' h'' : Heap} (k : Imm Mut h h') (k' : Imm Mut h' h'') : Imm Mut h h'' := fun b o nb e => k' b o nb (k b o nb e)

/-- the three cells of the law's frame -/
structure LCells (h : Heap) (L : Addr) (vp : Option Value) : Prop where
  is : ∃ oP oT oI vt vi, h.get? (L + 1) = some oP ∧ oP.data = .cell vp ∧ h.get? (L + 2) = some oT ∧ oT.data = .cell vt ∧ h.get? (L + 3) = some oI ∧ oI.data = .cell vi

/-- the pool's object -/
def PoolO (o : Obj) (cc : Addr) (pl : Int) : Prop := ∃ gr st t1 t2 t3 n, o = listOf #[.ref cc, .int gr t1, .int st t2, .int pl t3] n ∧ 0 ≤ st ∧ st < 2147483647 ∧ 0 ≤ pl
def IntsO (lo : Obj) : Prop := ∃ ys ks n, lo.cls = .type "list" ∧ lo.data = .seq (ys : List Value).toArray n ∧ IntsAre ys ks ∧ ks.length ≤ 63
theorem PoolAt.open {h : Heap} {p : Addr} {cc : Addr} {pl : Int} (P : PoolAt h p cc pl) : ∃ o lo, h.get? p = some o ∧ PoolO o cc pl ∧ h.get? cc = some lo ∧ IntsO lo ∧ cc ≠ p := by
  obtain ⟨vs, ns, gr, st, t1, t2, t3, n, q1, q2, ⟨lo, q3, q4, n', q5⟩, q6, q7, q8, q9, q10⟩ := P.is
  exact ⟨_, lo, q1, ⟨gr, st, t1, t2, t3, n, rfl, q8, q9, q10⟩, q3, ⟨vs, ns, n', q4, q5, q6, q7⟩, q2⟩
theorem PoolAt.mk' {h : Heap} {p : Addr} {pl : Int} {o lo : Obj} {cc : Addr} (q1 : h.get? p = some o) (q2 : PoolO o cc pl) (q3 : h.get? cc = some lo) (q4 : IntsO lo) (q5 : cc ≠ p) : PoolAt h p cc pl := by
  obtain ⟨gr, st, t1, t2, t3, n, rfl, a1, a2, a3⟩ := q2
  obtain ⟨ys, ks, n', b1, b2, b3, b4⟩ := q4
  exact ⟨ys, ks, gr, st, t1, t2, t3, n, q1, q5, ⟨lo, q3, b1, n', b2⟩, b3, b4, a1, a2, a3⟩
theorem news_cons {g h : Heap} {L a : Addr} {o : Obj} {news : List (Addr × Obj)} (N : News g L h news) (e1 : h.get? a = some o) (e2 : a ≠ L) (e3 : g.get? a = none) : News g L h ((a, o) :: news) := fun q hq => by
  rcases List.mem_cons.mp hq with rfl | hq
  · exact ⟨e1, e2, e3⟩
  · exact N q hq


-- part PBw1

section
variable {w : World} {mean : ExcName → Option Value} {mg mb : Str → Option Value} {dp un : Nat} {gd : Option (List Code)} {L fa : Addr} {cdv : Value} {outer : List Env} {A₀ : Around} {base g : Heap} {m : Str → Option Value} {s : Shared} {Q : Flow → Shared → Prop}

theorem addr_ne {a b : Nat} (h : a ≠ b) : @Ne Addr a b := h
theorem news_new {g h h' : Heap} {L a : Addr} {oa : Obj} {m : Str → Option Value} {news : List (Addr × Obj)} (F : Fr g L h m) (N : News g L h' news) (qa : (newPart h h').get? a = some oa) : News g L h' ((a, oa) :: news) := by
  obtain ⟨e1, e2⟩ := of_newPart qa
  refine news_cons N e1 (fun q => ?_) (none_of_keep F.keep e2)
  obtain ⟨oL, _, _, hL, _⟩ := F.ns
  rw [q, hL] at e2; cases e2
theorem off1_of {d : Addr} : ∀ {l : List (Addr × Obj)}, (∀ p ∈ l, p.1 ≠ d) → LCg.Off1 d l
  | [], _ => trivial
  | p :: _, h => ⟨h p (.head _), off1_of fun q hq => h q (.tail _ hq)⟩
theorem off1_mem {d : Addr} : ∀ {l : List (Addr × Obj)}, LCg.Off1 d l → ∀ p ∈ l, p.1 ≠ d
  | [], _, _, hp => nomatch hp
  | q :: r, h, p, hp => by
    rcases List.mem_cons.mp hp with rfl | hp
    · exact h.1
    · exact off1_mem h.2 p hp
section
variable {dp un : Nat} {gd : Option (List Code)} {cn : Str} {cs : Scope} {L a : Addr} {ccd : Value} {cl : List (Str × Addr)} {outer : List Env} {A₀ : Around} {base h₀ : Heap} {m : Str → Option Value} {s : Shared} {Q E : Value → Shared → Prop} {news : List (Addr × Obj)}
theorem use_box {sl : Addr} {vs : List Value} {ns : List Int} (hi : IntsAre vs ns) (hlen : ns.length ≤ 63)
    (B : Below A₀ base outer h₀) (F : Fr h₀ L s.heap m) (N : News h₀ L s.heap news) (X : Frag.In (hd.heap_39 w.params) h₀) (T : Top hd.view_39 (looseW hd.view_39 [Str.ofString "Plan"]) mean mg mb h₀) (hk : cs.kind = .function)
    (hd : dp + 6 < recursionLimit) (hu : un + 6 < cLine) (hP : s.heap.IsList sl vs.toArray)
    (ret : ∀ p o cc lo h' tk', Fr h₀ L h' m → News h₀ L h' ((p, o) :: (cc, lo) :: news) → PoolO o cc 0 → IntsO lo → cc ≠ p → s.heap.get? p = none → LCg.Off1 p ((cc, lo) :: news) → LCg.Off1 cc news → Q (.ref p) { s with heap := h', toks := tk' }) :
    wpAny (model PySem.Challenge.rw_pb0168_01.row.prog w) (ktrTop dp un gd cn cs L a ccd cl outer) (call (.ref 189) [.ref sl]) Q E s := by
  refine use0 (box_does _ _ _ _ _ _ _ hi hlen) B F N X T hk hd hu hP fun r h' tk' F' N' P' => ?_
  obtain ⟨p, rfl, e, cc, P⟩ := P'
  obtain ⟨o, lo, q1, q2, q3, q4, q5⟩ := P.open
  have ne : ∀ {a : Addr} {o : Obj}, (newPart s.heap h').get? a = some o → LCg.Off1 a news := fun qa => off1_of fun q hq z => by
    have := (N q hq).1
    rw [z, (of_newPart qa).2] at this; cases this
  exact ret p o cc lo h' tk' F' (news_new F (news_new F N' q3) q1) q2 q4 q5 e ⟨q5, ne q1⟩ (ne q3)
theorem use_draw {p cc : Addr} {o lo : Obj} {pl most : Int} {tk : Tok} {gf : Obj → List (Addr × Obj)} (hP : PoolO o cc pl) (hlo : IntsO lo) (hcp : cc ≠ p) (h1 : 1 ≤ most) (h2 : most ≤ 16) (h3 : pl ≤ 1000)
    (B : Below A₀ base outer h₀) (F : Fr h₀ L s.heap m) (N : News h₀ L s.heap news) (U : UpdF p o news gf) (hcc : (cc, lo) ∈ news) (X : Frag.In (hd.heap_39 w.params) h₀) (T : Top hd.view_39 (looseW hd.view_39 [Str.ofString "Plan"]) mean mg mb h₀) (hk : cs.kind = .function)
    (hd : dp + 3 < recursionLimit) (hu : un + 3 < cLine)
    (ret : ∀ k t o' h' tk', 0 ≤ k → k < most → Fr h₀ L h' m → News h₀ L h' (gf o') → PoolO o' cc (pl + 1) → Q (.int k t) { s with heap := h', toks := tk' }) :
    wpAny (model PySem.Challenge.rw_pb0168_01.row.prog w) (ktrTop dp un gd cn cs L a ccd cl outer) (call (.ref 196) [.ref p, .int most tk]) Q E s := by
  obtain ⟨pre, post, rfl, hg, ha, hb⟩ := U.split
  have hp := N (p, o) (List.mem_append_right _ (.head _))
  refine use1 (draw_does w mean mg mb p cc pl most tk h1 h2 h3) B F X T hk hd hu (fun d hd => by rw [List.mem_singleton.mp hd]; exact ⟨hp.2.2, hp.2.1⟩) (PoolAt.mk' hp.1 hP (N _ hcc).1 hlo hcp) fun r h' tk' F' k P' => ?_
  obtain ⟨⟨kk, t, rfl, k0, k1⟩, P⟩ := P'
  obtain ⟨o', lo', q1, q2, _⟩ := P.open
  refine ret kk t o' h' tk' k0 k1 F' ?_ q2
  rw [hg]
  intro q hq
  have keepq : ∀ q ∈ pre ++ (p, o) :: post, q.1 ≠ p → h'.get? q.1 = some q.2 ∧ q.1 ≠ L ∧ h₀.get? q.1 = none := fun q hq nq => ⟨k _ _ (by simpa using nq) (N q hq).1, (N q hq).2⟩
  rcases List.mem_append.mp hq with hq | hq
  · exact keepq q (List.mem_append_left _ hq) (ha q hq)
  · rcases List.mem_cons.mp hq with rfl | hq
    · exact ⟨q1, hp.2.1, hp.2.2⟩
    · exact keepq q (List.mem_append_right _ (.tail _ hq)) (hb q hq)
end

end
end
end
end
end
end

theorem turnPBw1 : True ∧ True := by
  w_top off
  first | (walk1; all_goals trivial) | exact ⟨trivial, trivial⟩

section
local macro_rules | `(tactic| walk_at "ROOM") => `(tactic| ((try simp only [depth_under_make, depth_under_kw, depth_in1, depth_deeper, depth_caller]); (try dsimp only [ktrTop]); omega))
section
local macro_rules | `(tactic| walk_at "UNITS") => `(tactic| ((try simp only [units_in1, units_deeper, Around.mark_units, units_caller]); (try dsimp only [ktrTop]); omega))
section
local macro_rules | `(tactic| walk_at "eval Name") => `(tactic| (k_here; k_dflt (refine' nameX_L ?F ?v ?_ ?a ?b; (case F => k_asm); (case a => rfl); (case b => rfl); (case v => assumption); k_whole)))
section
local macro_rules | `(tactic| walk_at "call ref") => `(tactic| (k_here; (with_reducible show wpAny _ _ (call (Value.ref 189) _) _ _ _); k_dflt (refine' use_box (by assumption) (by assumption) ?B ?F ?N ?X ?T ?hk ?hd ?hu ?hP ?_; (case B => k_asm); (case F => k_asm); (case N => k_asm); (case X => k_asm); (case T => k_asm); (case hk => first | exact rfl | assumption); (case hd => walk_at "ROOM"); (case hu => walk_at "UNITS"); (case hP => exact Heap.IsList.at (by assumption) (fun o e => Fr.keep (by k_asm) _ _ e))); intro p' o' cc' lo' h' tk' F' N' q1' q2' q3' q4' of1' of2'; (try simp only [LCg.Off1, and_true] at of1' of2')))
section
variable {w : World} {mean : ExcName → Option Value} {mg mb : Str → Option Value} {dp un : Nat} {gd : Option (List Code)} {L fa : Addr} {cdv : Value} {outer : List Env} {A₀ : Around} {base g : Heap} {m : Str → Option Value} {s : Shared} {Q : Flow → Shared → Prop}
theorem law_s0 {vs : List Value} {ns : List Int} {sl : Addr} {oP oT oI : Obj} (B : Below A₀ base outer g) (X : Frag.In (hd.heap_39 w.params) g) (T : Top hd.view_39 (looseW hd.view_39 [Str.ofString "Plan"]) mean mg mb g) (hd : dp + 60 < recursionLimit) (hu : un + 200 < cLine)
    (F : Fr g L s.heap m) (hs : m (Str.ofString "script") = some (.ref sl)) (hl : g.IsList sl vs.toArray) (hi : IntsAre vs ns) (hlen : ns.length ≤ 63) (N : News g L s.heap [(L + 1, oP), (L + 2, oT), (L + 3, oI)]) (c2 : oP.data = .cell none)
    (k : ∀ h' tk' p o cc lo oP', Fr g L h' m → News g L h' ((p, o) :: [(cc, lo), (L + 1, oP'), (L + 2, oT), (L + 3, oI)]) → PoolO o cc 0 → IntsO lo → cc ≠ p → oP'.data = .cell (some (.ref p)) → LCg.Off1 p [(cc, lo), (L + 1, oP'), (L + 2, oT), (L + 3, oI)] → Q .next { s with heap := h', toks := tk' }) :
    wpAny (model PySem.Challenge.rw_pb0168_01.row.prog w) (ktrTop dp un gd (Str.ofString "law") lawScope L fa cdv (cellsFrom (L + 1) lawScope.names []) outer) (exec lawS0 (envOfC (Str.ofString "law") lawScope L fa cdv)) Q (fun _ _ => False) s := by
  revert X
  k_fill
  intro X
  try k_fold
  k_steps
  rename (_ ∧ _ ∧ _ ∧ _) => hof
  exact k _ _ _ _ _ _ _ (by k_asm) (by k_asm) (by assumption) (by assumption) (by assumption) (by assumption) (by simpa only [LCg.Off1, and_true] using hof)
end


-- part PBw2

section
variable {w : World} {mean : ExcName → Option Value} {mg mb : Str → Option Value} {dp un : Nat} {gd : Option (List Code)} {L fa : Addr} {cdv : Value} {outer : List Env} {A₀ : Around} {base g : Heap} {m : Str → Option Value} {s : Shared} {Q : Flow → Shared → Prop}

end
end

theorem turnPBw2 : True ∧ True := by
  w_top off
  first | (walk1; all_goals trivial) | exact ⟨trivial, trivial⟩

section
local macro_rules | `(tactic| k_mem) => `(tactic| assumption)
section
local macro_rules | `(tactic| walk_at "call ref") => `(tactic| (k_here; (with_reducible show wpAny _ _ (call (Value.ref 196) _) _ _ _); k_dflt (refine' use_draw (by assumption) (by assumption) (by assumption) ?h1 ?h2 ?h3 ?B ?F ?N ?U ?hcc ?X ?T ?hk ?hd ?hu ?_; (case B => k_asm); (case F => k_asm); (case N => k_asm); (case U => k_updF); (case hcc => k_mem); (case X => k_asm); (case T => k_asm); (case hk => first | exact rfl | assumption); (case hd => walk_at "ROOM"); (case hu => walk_at "UNITS"); (case h1 => first | decide | omega); (case h2 => first | decide | omega); (case h3 => first | decide | omega)); intro k' t' o' h' tk' k0' k1' F' N' hp'; (try dsimp only at N'); (try k_sweep)))
section
local macro_rules | `(tactic| walk_at "exec Assign cons ListComp") => `(tactic| (k_here; k_dflt (refine LCg.Assign_ListComp_U (F₀ := by k_asm) (by rfl) (by with_unfolding_all rfl) (by with_unfolding_all rfl) (by decide) (by rfl) (by decide) (by rfl) (by rfl) (by rfl) ?_)))
section
local macro_rules | `(tactic| walk_at "CompSrc") => `(tactic| (refine hold_of ?_))
section
local macro_rules | `(tactic| walk_at "CompEnd") => `(tactic| (refine hold_of ?_))
section
variable {w : World} {mean : ExcName → Option Value} {mg mb : Str → Option Value} {dp un : Nat} {gd : Option (List Code)} {L fa : Addr} {cdv : Value} {outer : List Env} {A₀ : Around} {base g : Heap} {m : Str → Option Value} {s : Shared} {Q : Flow → Shared → Prop}
def tup2 (a b : Value) : Obj := { cls := .type "tuple", data := .seq #[a, b] }
def RowsL (tups : List (Addr × Obj)) (rs : List (Addr × Int × Int)) : Prop := ∀ r ∈ rs, ((0 ≤ r.2.1 ∧ r.2.1 < 9) ∧ 0 ≤ r.2.2 ∧ r.2.2 < 4) ∧ ∃ t1 t2, (r.1, tup2 (.int r.2.1 t1) (.int r.2.2 t2)) ∈ tups
theorem RowsL.sub {tups tups' : List (Addr × Obj)} {rs : List (Addr × Int × Int)} (R : RowsL tups rs) (h : ∀ q ∈ tups, q ∈ tups') : RowsL tups' rs := fun r hr => ⟨(R r hr).1, by obtain ⟨t1, t2, q⟩ := (R r hr).2; exact ⟨t1, t2, h _ q⟩⟩
/-- what the ledger holds between the turns of the rows' comprehension -/
def JRows (p cc : Addr) (rest : List (Addr × Obj)) (i : Nat) (ys : List Value) (nx : List (Addr × Obj)) : Prop :=
  ∃ (o : Obj) (tups : List (Addr × Obj)) (rs : List (Addr × Int × Int)), nx = (p, o) :: tups ∧ PoolO o cc (1 + 2 * i) ∧ (∀ q ∈ tups, q.1 ≠ p) ∧ (∀ q ∈ rest, q ∈ tups) ∧ rs.length = i ∧ ys = rs.map (fun r => Value.ref r.1) ∧ RowsL tups rs

theorem law_s1 {p cc : Addr} {o lo oP : Obj} {rest : List (Addr × Obj)} (B : Below A₀ base outer g) (X : Frag.In (hd.heap_39 w.params) g) (T : Top hd.view_39 (looseW hd.view_39 [Str.ofString "Plan"]) mean mg mb g) (hd : dp + 60 < recursionLimit) (hu : un + 200 < cLine)
    (F : Fr g L s.heap m) (N : News g L s.heap ((p, o) :: rest)) (hP : PoolO o cc 0) (hlo : IntsO lo) (hcp : cc ≠ p) (hcc : (cc, lo) ∈ rest) (hoff : ∀ q ∈ rest, q.1 ≠ p) (hcell : (L + 1, oP) ∈ rest) (hcd : oP.data = .cell (some (.ref p)))
    (k : ∀ h' tk' o' D n rs rest' pl, Fr g L h' (fun z => if z = Str.ofString "rows" then some (.ref D) else m z) → News g L h' ((p, o') :: rest') → PoolO o' cc pl → pl ≤ 13 → (∀ q ∈ rest', q.1 ≠ p) → (∀ q ∈ rest, q ∈ rest') → (D, listOf (rs.map fun r => Value.ref r.1).toArray n) ∈ rest' → RowsL rest' rs → 1 ≤ rs.length → rs.length ≤ 6 → Q .next { s with heap := h', toks := tk' }) :
    wpAny (model PySem.Challenge.rw_pb0168_01.row.prog w) (ktrTop dp un gd (Str.ofString "law") lawScope L fa cdv (cellsFrom (L + 1) lawScope.names []) outer) (exec lawS1 (envOfC (Str.ofString "law") lawScope L fa cdv)) Q (fun _ _ => False) s := by
  revert X
  k_fill
  intro X
  try k_fold
  k_steps
  rename_i k' t' o' h' tk' hk0 hk1 F' N' hP' h'' tk'' t1 t2 t3 hr F'' N'' hup
  clear hup N' F'
  unfold Hold
  refine LCg.CompSrc.range (n := (1 + k' - 0).toNat) rfl F'' N'' hr (small_one (by omega) (by omega) (by omega) (by omega)) (rangeSize_nat _ _) (by rw [sizeLine_eq]; omega) ?_
  intro g'
  refine comp_inv (fun i ys nx => JRows p cc rest i ys nx) ?_ ?_ ?_
  · exact ⟨_, rest, [], rfl, by simpa using hP', hoff, fun _ q => q, rfl, rfl, fun _ q => nomatch q⟩
  · rintro ys nx ⟨o2, tups, rs, rfl, q1, q2, q3, q4, rfl, q5⟩
    unfold LCg.FinA
    intro D h tk F1 N1 of1
    refine k h tk o2 D _ rs ((D, LCg.lst (rs.map fun r => Value.ref r.1)) :: tups) _ F1 (fun q hq => ?_) q1 (by omega) (fun q hq => ?_) (fun q hq => .tail _ (q3 q hq)) (.head _) (q5.sub fun q hq => .tail _ hq) (by omega) (by omega)
    · rcases List.mem_cons.mp hq with rfl | hq
      · exact N1 _ (.tail _ (.head _))
      · rcases List.mem_cons.mp hq with rfl | hq
        · exact N1 _ (.head _)
        · exact N1 _ (.tail _ (.tail _ hq))
    · rcases List.mem_cons.mp hq with rfl | hq
      · exact Ne.symm of1.1
      · exact q2 q hq
  · rintro i ys nx v I oI C oC D m₂ h tk E' hi ⟨o2, tups, rs, rfl, q1, q2, q3, q4, rfl, q5⟩ hv hC hx F1 N1 hoff' hne
    clear N'' F''
    obtain ⟨tv, rfl⟩ := hv
    have hoff2 := hoff'.2
    simp only [LCg.Off3] at hoff'
    have hcc' := q3 _ hcc
    have hcell' := q3 _ hcell
    clear hcc hcell hoff hP
    k_steps
    unfold Hold
    rename_i ka ta oa ha tka ka0 ka1 Pa _ kb tb ob hb tkb kb0 kb1 Pb t hc Fc Nc lt
    have ltT := all_lt lt.2.2.2.2
    refine LCg.CompEnd.intro Fc Nc ((p, ob) :: (t, tup2 (.int ka ta) (.int kb tb)) :: tups) (fun q hq => ?_) ⟨hoff'.1, ⟨Nat.ne_of_gt lt.1, Nat.ne_of_gt lt.2.1, Nat.ne_of_gt lt.2.2.1⟩, hoff2⟩ trivial ⟨ob, (t, tup2 (.int ka ta) (.int kb tb)) :: tups, rs ++ [(t, ka, kb)], rfl, ?_, ?_, fun q hq => .tail _ (q3 q hq), by simp [q4], by simp, ?_⟩
    · simp only [List.mem_cons] at hq ⊢
      rcases hq with h | h | h | h | h | h
      · exact .inr (.inl h)
      · exact .inr (.inr (.inl h))
      · exact .inr (.inr (.inr (.inl h)))
      · exact .inr (.inr (.inr (.inr (.inl h))))
      · exact .inl h
      · exact .inr (.inr (.inr (.inr (.inr h))))
    · rw [show (1 + 2 * ((i + 1 : Nat) : Int)) = 1 + 2 * (i : Int) + 1 + 1 by omega]
      exact Pb
    · intro q hq
      rcases List.mem_cons.mp hq with rfl | hq
      · exact Nat.ne_of_gt lt.2.2.2.1
      · exact q2 q hq
    · intro r hr
      rcases List.mem_append.mp hr with hr | hr
      · exact (q5.sub fun q hq => .tail _ hq) r hr
      · rw [List.mem_singleton.mp hr]
        exact ⟨⟨⟨ka0, ka1⟩, kb0, kb1⟩, ta, tb, .head _⟩
end


-- part PBw3

section
variable {prog : Program} {w : World} {A : Around} {E : Value → Shared → Prop} {s : Shared} {env : Env} {g : Heap} {x : Str} {body : List Stmt} {Q : Flow → Shared → Prop}
theorem loop_range {r : Addr} {a₀ b₀ : Int} {t₀ u₀ v₀ : Tok} {n : Nat} {m₀ : Str → Option Value} {news : List (Addr × Obj)} (stored : List Str) (J : Nat → List (Addr × Obj) → Prop)
    (hh : A.handled = none) (hr : IsRange s.heap r a₀ b₀ 1 t₀ u₀ v₀) (hsmall : Builtin.Range.small a₀ b₀ 1 = true) (hn : Builtin.Range.rangeSize a₀ b₀ 1 = (n : Int)) (F : Fr g env.locals s.heap m₀) (N : News g env.locals s.heap news) (h0 : J 0 news)
    (turn : ∀ i t (u : Str → Option Value) news₁ h tk own I, i < n → J i news₁ → (∀ p ∈ own, p.1 = I) → (∃ o, (I, o) ∈ own) → (∀ q ∈ news₁, q.1 ≠ I) → Fr g env.locals h (fun y => if y = x then some (.int (a₀ + (i : Int)) t) else if stored.contains y then u y else m₀ y) → News g env.locals h (own ++ news₁) →
      wpAny (model prog w) A (execs body env) (TurnEnd g env.locals s own I (fun m' nx => SameMap x stored m₀ m' ∧ J (i + 1) nx) Q) E { s with heap := h, toks := tk })
    (done : ∀ (u : Str → Option Value) news₁ h tk, J n news₁ → Fr g env.locals h (fun y => if y = x then u y else if stored.contains y then u y else m₀ y) → News g env.locals h news₁ → Q .next { s with heap := h, toks := tk }) :
    wpAny (model prog w) A (pyIter (.ref r)) (fun it s₂ => LoopAtV prog w A g env x body Q E it s₂) E s := by
  refine wpAny_pyIter_range hr hsmall ?_
  have W : Walks prog w A s.heap.objs.size [s.heap.objs.size] [s.heap.objs.size] n (fun i v => i < n ∧ ∃ t, v = .int (a₀ + i * 1) t)
      (fun i h => IsRangeIter h s.heap.objs.size (a₀ + (i : Nat) * 1) ((n : Int) - (i : Nat)) 1) := (Walks.range hh _ a₀ 1 n).bound
  have hnew := next_is_new F
  refine ⟨_, _, _, n, _, _, m₀, news, fun i m' nx => SameMap x stored m₀ m' ∧ J i nx, rfl, W, ?_, ?_, ?_, (by show IsRangeIter _ _ _ _ _; rw [hn]; simpa using Heap.get?_push_size _ rfl), F.push _, (fun p hp => ⟨Heap.get?_push_of_some _ (N p hp).1, (N p hp).2⟩), ⟨fun _ _ _ => rfl, h0⟩, ?_, ?_⟩
  · intro hm
    exact absurd F.ns.lt ((List.mem_singleton.mp hm) ▸ Nat.lt_irrefl _)
  · intro b hb
    rw [List.mem_singleton.mp hb]
    exact hnew
  · intro p hp hI
    exact absurd (Heap.lt_size (N p hp).1) ((List.mem_singleton.mp hI) ▸ Nat.lt_irrefl _)
  · rintro i v m₁ news₁ s₁ own ⟨hh', tk', rfl⟩ hin ⟨_, t, rfl⟩ ⟨hm, hJ⟩ hoff hown _ hall hst F₁ N₁
    rw [show a₀ + (i : Int) * 1 = a₀ + (i : Int) by rw [Int.mul_one], map_form hm] at F₁
    refine wpAny_mono (turn i t m₁ news₁ hh' tk' own s.heap.objs.size (by omega) hJ (fun p hp => List.mem_singleton.mp (hown p hp)) ⟨_, hall s.heap.objs.size (List.mem_singleton.mpr rfl) hnew _ hst⟩ (fun q hq e => hoff q hq (List.mem_singleton.mpr e)) F₁ N₁) (fun f s₂ p => ?_) fun _ _ e => e
    have fin : (∃ h' tk' m' news', s₂ = { s with heap := h', toks := tk' } ∧ Fr g env.locals h' m' ∧ News g env.locals h' (own ++ news') ∧ (∀ q ∈ news', q.1 ≠ s.heap.objs.size) ∧ (SameMap x stored m₀ m' ∧ J (i + 1) news')) → LoopStepU g env.locals [s.heap.objs.size] own (fun m' nx => SameMap x stored m₀ m' ∧ J (i + 1) nx) { s with heap := hh', toks := tk' } .next s₂ := by
      rintro ⟨h', tk, m', news', e, F', N', ho, hm⟩
      exact ⟨rfl, h', tk, m', news', e, F', N', fun p hp hq => ho p hp (List.mem_singleton.mp hq), hm⟩
    cases f with
    | ret v => exact .ret p
    | brk => exact .brk p
    | next => exact .next (fin p)
    | cont => exact .cont (fin p)
  · rintro h' tk m' news' F' N' _ ⟨hm, hJ⟩
    rw [map_form' hm] at F'
    exact done m' news' h' tk hJ F' N'
end

theorem map_is {m : Str → Option Value} {x : Str} {v : Value} (h : m x = some v) : m = fun z => if z = x then some v else m z := by
  funext z
  by_cases e : z = x
  · rw [if_pos e, e, h]
  · rw [if_neg e]
structure Bnd (k most : Int) : Prop where
  lo : 0 ≤ k
  hi : k < most
def vlim : Nat → Int
  | 0 => 8
  | 1 => 4
  | _ => 16
def Wsh.good (u : Wsh) : Prop := u.t < 3 ∧ 0 ≤ u.b ∧ u.b < u.e ∧ 0 ≤ u.v ∧ u.v < vlim u.t
theorem Wsh.good.ok {u : Wsh} (h : u.good) : u.ok := ⟨h.1, h.2.1, h.2.2.1, h.2.2.2.1, Int.lt_of_lt_of_le h.2.2.2.2 (by unfold vlim; split <;> decide)⟩
def WishO (dx : Addr) (od : Obj) (u : Wsh) : Prop := ∃ es n t1 t2 t3 t4, od = dictOf es n ∧ getL (Str.ofString "tag") es = some (some (.str (tagS u.t) t1)) ∧ getL (Str.ofString "value") es = some (some (.int u.v t2)) ∧
    getL (Str.ofString "begin") es = some (some (.int u.b t3)) ∧ getL (Str.ofString "end") es = some (some (.int u.e t4)) ∧ getL (Str.ofString "is_whole") es = some none
def WishL (rest : List (Addr × Obj)) (x : Addr) (u : Wsh) : Prop := ∃ dx od, (x, instObj 46 dx) ∈ rest ∧ (dx, od) ∈ rest ∧ WishO dx od u
theorem WishL.sub {rest rest' : List (Addr × Obj)} {x : Addr} {u : Wsh} (W : WishL rest x u) (h : ∀ q ∈ rest, q ∈ rest') : WishL rest' x u := by
  obtain ⟨dx, od, a, b, c⟩ := W
  exact ⟨dx, od, h _ a, h _ b, c⟩
def JWish (p cc wl : Addr) (rest : List (Addr × Obj)) (i : Nat) (nx : List (Addr × Obj)) : Prop :=
  ∃ (o : Obj) (n : Nat) (tl : List (Addr × Obj)) (ws : List (Addr × Wsh)) (pl : Int), nx = (p, o) :: (wl, listOf (ws.map fun q => Value.ref q.1).toArray n) :: tl ∧ PoolO o cc pl ∧ pl ≤ 14 + 4 * i ∧ (∀ q ∈ tl, q.1 ≠ p) ∧ (∀ q ∈ tl, q.1 ≠ wl) ∧ (∀ q ∈ rest, q ∈ tl) ∧ ws.length = i ∧
    ∀ q ∈ ws, q.2.good ∧ WishL tl q.1 q.2

theorem wish_turn {g h' : Heap} {L : Addr} {s : Shared} {own tl OT rest : List (Addr × Obj)} {I p cc wl D d x : Addr} {o' od oD : Obj} {ws : List (Addr × Wsh)} {u : Wsh} {i n' : Nat} {pl' : Int} {Q : Flow → Shared → Prop} {m' : Str → Option Value} {tk' : Nat} {Mp : (Str → Option Value) → Prop} {o2 ow : Obj}
    (F : Fr g L h' m') (N : News g L h' ((x, instObj 46 d) :: (d, od) :: (D, oD) :: (p, o') :: (wl, listOf ((ws.map fun q => Value.ref q.1).toArray.push (.ref x)) n') :: OT)) (hOT : OT = own ++ tl) (ho : ∃ o, (I, o) ∈ own)
    (hd : D < d ∧ p < d ∧ wl < d ∧ AllLt d OT) (hx : d < x) (hP : PoolO o' cc pl') (hpl : pl' ≤ 14 + 4 * ((i + 1 : Nat) : Int)) (q3 : ∀ q ∈ tl, q.1 ≠ p) (q4 : ∀ q ∈ tl, q.1 ≠ wl) (q5 : ∀ q ∈ rest, q ∈ tl) (q6 : ws.length = i)
    (q7 : ∀ q ∈ ws, q.2.good ∧ WishL tl q.1 q.2) (hg : u.good) (hod : WishO d od u) (hI : ∀ q ∈ (p, o2) :: (wl, ow) :: tl, q.1 ≠ I) (hM : Mp m') :
    TurnEnd g L s own I (fun m' nx => Mp m' ∧ JWish p cc wl rest (i + 1) nx) Q .next { s with heap := h', toks := tk' } := by
  have hall := all_lt hd.2.2.2
  have hId : I < d := by obtain ⟨o, ho⟩ := ho; exact hall _ (by rw [hOT]; exact List.mem_append_left _ ho)
  have hpd := hd.2.1
  have hwd := hd.2.2.1
  refine TurnEnd.next (news' := (p, o') :: (wl, listOf ((ws ++ [(x, u)]).map fun q => Value.ref q.1).toArray n') :: (x, instObj 46 d) :: (d, od) :: tl) F (fun q hq => ?_) (fun q hq => ?_) ⟨hM, o', n', (x, instObj 46 d) :: (d, od) :: tl, ws ++ [(x, u)], pl', rfl, hP, hpl, fun q hq => ?_, fun q hq => ?_, fun q hq => .tail _ (.tail _ (q5 q hq)), by simp [q6], fun q hq => ?_⟩
  · rcases List.mem_append.mp hq with hq | hq
    · exact N _ (.tail _ (.tail _ (.tail _ (.tail _ (.tail _ (by rw [hOT]; exact List.mem_append_left _ hq))))))
    · rcases List.mem_cons.mp hq with rfl | hq
      · exact N _ (.tail _ (.tail _ (.tail _ (.head _))))
      · rcases List.mem_cons.mp hq with rfl | hq
        · have := N _ (.tail _ (.tail _ (.tail _ (.tail _ (.head _)))))
          simpa using this
        · rcases List.mem_cons.mp hq with rfl | hq
          · exact N _ (.head _)
          · rcases List.mem_cons.mp hq with rfl | hq
            · exact N _ (.tail _ (.head _))
            · exact N _ (.tail _ (.tail _ (.tail _ (.tail _ (.tail _ (by rw [hOT]; exact List.mem_append_right _ hq))))))
  · rcases List.mem_cons.mp hq with rfl | hq
    · exact hI (p, o2) (.head _)
    · rcases List.mem_cons.mp hq with rfl | hq
      · exact hI (wl, ow) (.tail _ (.head _))
      · rcases List.mem_cons.mp hq with rfl | hq
        · exact Nat.ne_of_gt (Nat.lt_trans hId hx)
        · rcases List.mem_cons.mp hq with rfl | hq
          · exact Nat.ne_of_gt hId
          · exact hI _ (.tail _ (.tail _ hq))
  · rcases List.mem_cons.mp hq with rfl | hq
    · exact Nat.ne_of_gt (Nat.lt_trans hpd hx)
    · rcases List.mem_cons.mp hq with rfl | hq
      · exact Nat.ne_of_gt hpd
      · exact q3 q hq
  · rcases List.mem_cons.mp hq with rfl | hq
    · exact Nat.ne_of_gt (Nat.lt_trans hwd hx)
    · rcases List.mem_cons.mp hq with rfl | hq
      · exact Nat.ne_of_gt hwd
      · exact q4 q hq
  · rcases List.mem_append.mp hq with hq | hq
    · exact ⟨(q7 q hq).1, (q7 q hq).2.sub fun z hz => .tail _ (.tail _ hz)⟩
    · rw [List.mem_singleton.mp hq]
      exact ⟨hg, d, od, .head _, .tail _ (.head _), hod⟩
theorem wgood {t : Nat} {v b d : Int} (ht : t < 3) (h1 : Bnd v (vlim t)) (h2 : Bnd b 6) (h3 : Bnd d 5) : Wsh.good ⟨t, v, b, b + 1 + d⟩ := ⟨ht, h2.lo, by have := h3.lo; show b < b + 1 + d; omega, h1.lo, h1.hi⟩

section
variable {w : World} {mean : ExcName → Option Value} {mg mb : Str → Option Value} {dp un : Nat} {gd : Option (List Code)} {L fa : Addr} {cdv : Value} {outer : List Env} {A₀ : Around} {base g : Heap} {m : Str → Option Value} {s : Shared} {Q : Flow → Shared → Prop}

end
end
end
end
end

theorem turnPBw3 : True ∧ True := by
  w_top off
  first | (walk1; all_goals trivial) | exact ⟨trivial, trivial⟩

section
local macro_rules | `(tactic| walk_at "call ref") => `(tactic| (k_here; (with_reducible show wpAny _ _ (call (Value.ref 196) _) _ _ _); k_dflt (refine' use_draw (by assumption) (by assumption) (by assumption) ?h1 ?h2 ?h3 ?B ?F ?N ?U ?hcc ?X ?T ?hk ?hd ?hu ?_; (case B => k_asm); (case F => k_asm); (case N => k_asm); (case U => k_updF); (case hcc => k_mem); (case X => k_asm); (case T => k_asm); (case hk => first | exact rfl | assumption); (case hd => walk_at "ROOM"); (case hu => walk_at "UNITS"); (case h1 => first | decide | omega); (case h2 => first | decide | omega); (case h3 => first | decide | omega)); intro k' t' o' h' tk' k0' k1' F' N' hp'; (try dsimp only at N'); (try k_sweep); have kb' := Bnd.mk k0' k1'; clear k0' k1'))
section
local macro_rules | `(tactic| walk_at "exec Assign cons ListComp") => `(tactic| (k_here; k_dflt (refine LCg.Assign_ListComp_U (F₀ := by k_asm) (by rfl) (by with_unfolding_all rfl) (by with_unfolding_all rfl) (by decide) (by rfl) (by decide) (by rfl) (by rfl) (by rfl) ?_)))
section
local macro_rules | `(tactic| walk_at "CompSrc") => `(tactic| (refine hold_of ?_))
section
local macro_rules | `(tactic| walk_at "CompEnd") => `(tactic| (refine hold_of ?_))
section
local macro_rules | `(tactic| walk_at "exec For Name Call cons nil") => `(tactic| (k_here; (rename Fr _ _ _ _ => lF'); (with_unfolding_all refine' For_invVF lF' ?k1 ?k2 ?_; (case k1 => exact rfl); (case k2 => exact rfl); k_whole)))
section
local macro_rules | `(tactic| walk_at "pyIter ref") => `(tactic| (refine hold_of ?_))
section
local macro_rules | `(tactic| walk_at "call ref") => `(tactic| ((with_reducible show wpAny _ _ (call (Value.ref 196) [_, Value.int 3 _]) _ _ _); refine hold_of ?_))
section
variable {w : World} {mean : ExcName → Option Value} {mg mb : Str → Option Value} {dp un : Nat} {gd : Option (List Code)} {L fa : Addr} {cdv : Value} {outer : List Env} {A₀ : Around} {base g : Heap} {m : Str → Option Value} {s : Shared} {Q : Flow → Shared → Prop}
theorem law_s2 {news : List (Addr × Obj)} (B : Below A₀ base outer g) (X : Frag.In (hd.heap_39 w.params) g) (T : Top hd.view_39 (looseW hd.view_39 [Str.ofString "Plan"]) mean mg mb g) (hd : dp + 60 < recursionLimit) (hu : un + 200 < cLine)
    (F : Fr g L s.heap m) (N : News g L s.heap news)
    (k : ∀ h' tk' wl n, Fr g L h' (fun z => if z = Str.ofString "wishes" then some (.ref wl) else m z) → News g L h' ((wl, listOf #[] n) :: news) → (∀ q ∈ news, q.1 ≠ wl) → Q .next { s with heap := h', toks := tk' }) :
    wpAny (model PySem.Challenge.rw_pb0168_01.row.prog w) (ktrTop dp un gd (Str.ofString "law") lawScope L fa cdv (cellsFrom (L + 1) lawScope.names []) outer) (exec lawS2 (envOfC (Str.ofString "law") lawScope L fa cdv)) Q (fun _ _ => False) s := by
  revert X
  k_fill
  intro X
  try k_fold
  k_steps
  rename (∀ p ∈ news, p.1 < _) => hlt
  exact k _ _ _ _ (by k_asm) (by k_asm) fun q hq => Nat.ne_of_lt (hlt q hq)

theorem law_s3 {p cc wl : Addr} {o lo oP : Obj} {n : Nat} {rest : List (Addr × Obj)} {pl : Int} (B : Below A₀ base outer g) (X : Frag.In (hd.heap_39 w.params) g) (T : Top hd.view_39 (looseW hd.view_39 [Str.ofString "Plan"]) mean mg mb g) (hd : dp + 60 < recursionLimit) (hu : un + 200 < cLine)
    (F : Fr g L s.heap m) (hm : m (Str.ofString "wishes") = some (.ref wl)) (N : News g L s.heap ((p, o) :: (wl, listOf #[] n) :: rest)) (hpl : pl ≤ 13) (hP : PoolO o cc pl) (hlo : IntsO lo) (hcp : cc ≠ p) (hcc : (cc, lo) ∈ rest) (hwp : wl ≠ p) (hoff : ∀ q ∈ rest, q.1 ≠ p) (hoff2 : ∀ q ∈ rest, q.1 ≠ wl) (hcell : (L + 1, oP) ∈ rest) (hcd : oP.data = .cell (some (.ref p)))
    (k : ∀ (u : Str → Option Value) h' tk' n (ws : List (Addr × Wsh)) tl, Fr g L h' (fun y => if y = Str.ofString "turn" then u y else if [Str.ofString "spot", Str.ofString "begin"].contains y then u y else m y) → News g L h' tl → (wl, listOf (ws.map fun q => Value.ref q.1).toArray n) ∈ tl → ws.length ≤ 4 → (∀ q ∈ ws, q.2.good ∧ WishL tl q.1 q.2) → (∀ q ∈ rest, q ∈ tl) → Q .next { s with heap := h', toks := tk' }) :
    wpAny (model PySem.Challenge.rw_pb0168_01.row.prog w) (ktrTop dp un gd (Str.ofString "law") lawScope L fa cdv (cellsFrom (L + 1) lawScope.names []) outer) (exec lawS3 (envOfC (Str.ofString "law") lawScope L fa cdv)) Q (fun _ _ => False) s := by
  revert X
  k_fill
  intro X
  try k_fold
  obtain ⟨m', rfl⟩ : ∃ m', m = fun z => if z = Str.ofString "wishes" then some (.ref wl) else m' z := ⟨m, map_is hm⟩
  clear hm
  k_steps
  rename_i k0 t0 o0 h0 tk0 F0 N0 P0 kb h1 tk1 t1 t2 t3 hr F1 N1 hup
  clear hup N0 F0
  unfold Hold
  refine loop_range (n := (k0 - 0).toNat) [Str.ofString "spot", Str.ofString "begin"] (fun i nx => JWish p cc wl rest i nx) rfl hr (small_one (by omega) (by omega) (by have := kb.lo; omega) (by have := kb.hi; omega)) (rangeSize_nat _ _) F1 N1 ?_ ?_ ?_
  · exact ⟨_, _, rest, [], _, rfl, P0, by omega, hoff, hoff2, fun _ q => q, rfl, fun _ q => nomatch q⟩
  · clear N1 F1 hP P0
    rintro i t u nx h tk own I hi ⟨o2, n2, tl, ws, pl2, rfl, q1, q2, q3, q4, q5, q6, q7⟩ ho hIo hI F1 N1
    obtain ⟨OT, hOT⟩ : ∃ OT, OT = own ++ tl := ⟨_, rfl⟩
    have hOp : ∀ q ∈ OT, q.1 ≠ p := fun q hq => by
      rw [hOT] at hq
      rcases List.mem_append.mp hq with hq | hq
      · rw [ho q hq]; exact Ne.symm (hI _ (.head _))
      · exact q3 q hq
    have hOw : ∀ q ∈ OT, q.1 ≠ wl := fun q hq => by
      rw [hOT] at hq
      rcases List.mem_append.mp hq with hq | hq
      · rw [ho q hq]; exact Ne.symm (hI _ (.tail _ (.head _)))
      · exact q4 q hq
    have N2 : News g L h ((p, o2) :: (wl, listOf (ws.map fun q => Value.ref q.1).toArray n2) :: OT) := fun q hq => by
      rcases List.mem_cons.mp hq with rfl | hq
      · exact N1 _ (List.mem_append_right _ (.head _))
      · rcases List.mem_cons.mp hq with rfl | hq
        · exact N1 _ (List.mem_append_right _ (.tail _ (.head _)))
        · rw [hOT] at hq
          rcases List.mem_append.mp hq with hq | hq
          · exact N1 _ (List.mem_append_left _ hq)
          · exact N1 _ (List.mem_append_right _ (.tail _ (.tail _ hq)))
    clear N1
    have hcc' : (cc, lo) ∈ OT := by rw [hOT]; exact List.mem_append_right _ (q5 _ hcc)
    have hcell' : (L + 1, oP) ∈ OT := by rw [hOT]; exact List.mem_append_right _ (q5 _ hcell)
    clear hcc hcell hoff hoff2
    have hpl2 : pl2 ≤ 40 := by have := kb.hi; omega
    have hws : ws.length ≤ 10 := by have := kb.hi; omega
    have hwpN : @Ne Nat p wl := fun e => hwp e.symm
    have hilt : i < 100 := by have := kb.hi; omega
    k_steps
    unfold Hold
    refine use_draw q1 hlo hcp (by decide) (by decide) (by omega) B F1 N2 (.head fun q hq => ?_) (.tail _ (.tail _ hcc')) X T rfl (by walk_at "ROOM") (by walk_at "UNITS") ?_
    · rcases List.mem_cons.mp hq with rfl | hq
      · exact hwp
      · exact hOp q hq
    intro k3 t3 o3 h3 tk3 k30 k31 F3 N3 P3
    (try dsimp only at N3)
    (try k_sweep)
    have k3e : k3 = 0 ∨ k3 = 1 ∨ k3 = 2 := by omega
    clear k30 k31
    have hsm : ∀ (a b c : Option Value), SameMap (Str.ofString "turn") [Str.ofString "spot", Str.ofString "begin"] (fun z => if z = Str.ofString "wishes" then some (.ref wl) else m' z) (fun y => if y = Str.ofString "begin" then a else if y = Str.ofString "spot" then b else if y = Str.ofString "turn" then c else if [Str.ofString "spot", Str.ofString "begin"].contains y then u y else if y = Str.ofString "wishes" then some (.ref wl) else m' y) := fun a b c z z1 h2 => by
      have h3 := h2
      simp only [List.contains_cons, List.contains_nil, Bool.or_false, Bool.or_eq_false_iff, beq_eq_false_iff_ne, ne_eq] at h2
      obtain ⟨z2, z3⟩ := h2
      simp only [if_neg z1, if_neg z2, if_neg z3, h3]; simp
    rcases k3e with rfl | rfl | rfl
    · k_steps
      refine wish_turn (by k_asm) (by k_asm) hOT hIo (by assumption) (by assumption) (by assumption) (by omega) q3 q4 q5 q6 q7 (wgood (t := 0) (by decide) (by assumption) (by assumption) (by assumption)) ⟨_, _, _, _, _, _, rfl, by k_get, by k_get, by k_get, by k_get, rfl⟩ hI (hsm _ _ _)
    · k_steps
      refine wish_turn (by k_asm) (by k_asm) hOT hIo (by assumption) (by assumption) (by assumption) (by omega) q3 q4 q5 q6 q7 (wgood (t := 1) (by decide) (by assumption) (by assumption) (by assumption)) ⟨_, _, _, _, _, _, rfl, by k_get, by k_get, by k_get, by k_get, rfl⟩ hI (hsm _ _ _)
    · k_steps
      refine wish_turn (by k_asm) (by k_asm) hOT hIo (by assumption) (by assumption) (by assumption) (by omega) q3 q4 q5 q6 q7 (wgood (t := 2) (by decide) (by assumption) (by assumption) (by assumption)) ⟨_, _, _, _, _, _, rfl, by k_get, by k_get, by k_get, by k_get, rfl⟩ hI (hsm _ _ _)
  · rintro u nx h tk ⟨o2, n2, tl, ws, pl2, rfl, q1, q2, q3, q4, q5, q6, q7⟩ F2 N2
    refine k u h tk n2 ws _ F2 N2 (.tail _ (.head _)) (by have := kb.hi; omega) (fun q hq => ⟨(q7 q hq).1, (q7 q hq).2.sub fun z hz => .tail _ (.tail _ hz)⟩) fun q hq => .tail _ (.tail _ (q5 q hq))
end


-- part PBw4

theorem imm_mono {M M' : List Addr} {h h' : Heap} (k : Imm M h h') (hs : ∀ a ∈ M, a ∈ M') : Imm M' h h' := fun b o nb e => k b o (fun q => nb (hs b q)) e

section
variable {w : World} {mean : ExcName → Option Value} {mg mb : Str → Option Value} {dp un : Nat} {gd : Option (List Code)} {L fa : Addr} {cdv : Value} {outer : List Env} {A₀ : Around} {base g : Heap} {m : Str → Option Value} {s : Shared} {Q : Flow → Shared → Prop}

end
end
end
end
end
end
end
end

theorem turnPBw4 : True ∧ True := by
  w_top off
  first | (walk1; all_goals trivial) | exact ⟨trivial, trivial⟩

section
local macro_rules | `(tactic| walk_at "call ref") => `(tactic| ((with_reducible show wpAny _ _ (call (Value.ref 211) _) _ _ _); refine hold_of ?_))
section
local macro_rules | `(tactic| walk_at "call ref") => `(tactic| ((with_reducible show wpAny _ _ (call (Value.ref 216) _) _ _ _); refine hold_of ?_))
section
local macro_rules | `(tactic| walk_at "call ref") => `(tactic| ((with_reducible show wpAny _ _ (call (Value.ref 204) _) _ _ _); refine hold_of ?_))
section
variable {w : World} {mean : ExcName → Option Value} {mg mb : Str → Option Value} {dp un : Nat} {gd : Option (List Code)} {L fa : Addr} {cdv : Value} {outer : List Env} {A₀ : Around} {base g : Heap} {m : Str → Option Value} {s : Shared} {Q : Flow → Shared → Prop}
theorem law_s4 {rl wl : Addr} {rs : List (Addr × Int × Int)} {ws : List (Addr × Wsh)} (B : Below A₀ base outer g) (X : Frag.In (hd.heap_39 w.params) g) (T : Top hd.view_39 (looseW hd.view_39 [Str.ofString "Plan"]) mean mg mb g) (hd : dp + 60 < recursionLimit) (hu : un + 200 < cLine)
    (F : Fr g L s.heap m) (hm1 : m (Str.ofString "rows") = some (.ref rl)) (hm2 : m (Str.ofString "wishes") = some (.ref wl)) (hR : RowsAt s.heap rl rs) (hW : WishesAt s.heap wl ws) (hok : ∀ p ∈ ws, p.2.ok) (hrs : ∀ p ∈ rs, 0 ≤ p.2.2 ∧ p.2.2 < 4) (hlen : rs.length ≤ 100)
    (k : ∀ h' tk' b ids, Fr g L h' (fun z => if z = Str.ofString "buffer" then some (.ref b) else m z) → Imm [L] s.heap h' → ids.length = rs.length → ((ids : List (Addr × Addr)).map (·.2)).Nodup →
      (∃ G, (∀ a o, G.get? a = some o → h'.get? a = some o ∧ s.heap.get? a = none) ∧ (∀ d ∈ ids.map (·.2), G.get? d = none) ∧ BufAt G b ids) →
      (∀ j p, ids[j]? = some p → s.heap.get? p.2 = none ∧ ∃ o, h'.get? p.2 = some o ∧ InfoD o (cOf rs j) (runW (ws.map (·.2)) (cOf rs j) (mOf rs j * 2 ^ 20))) → Q .next { s with heap := h', toks := tk' }) :
    wpAny (model PySem.Challenge.rw_pb0168_01.row.prog w) (ktrTop dp un gd (Str.ofString "law") lawScope L fa cdv (cellsFrom (L + 1) lawScope.names []) outer) (exec lawS4 (envOfC (Str.ofString "law") lawScope L fa cdv)) Q (fun _ _ => False) s := by
  revert X
  k_fill
  intro X
  try k_fold
  obtain ⟨m0, rfl⟩ : ∃ m', m = fun z => if z = Str.ofString "rows" then some (.ref rl) else m' z := ⟨m, map_is hm1⟩
  clear hm1
  replace hm2 : m0 (Str.ofString "wishes") = some (.ref wl) := hm2
  obtain ⟨m1, rfl⟩ : ∃ m', m0 = fun z => if z = Str.ofString "wishes" then some (.ref wl) else m' z := ⟨m0, map_is hm2⟩
  clear hm2
  have hF0 : ∃ m, Fr g L s.heap m := ⟨_, F⟩
  obtain ⟨rest, N, _, hr⟩ := rest_ex g L s.heap [L]
  k_steps
  unfold Hold
  refine use0 (laid_does w mean mg mb rl wl rs ws hok hrs hlen) B (by k_asm) (by k_asm) X T rfl (by walk_at "ROOM") (by walk_at "UNITS") ⟨hR, hW⟩ ?_
  intro r h' tk' F' N' P'
  obtain ⟨b, ids, rfl, p1, p2, ⟨G, p3, p4, p5⟩, p6⟩ := P'
  have im := Imm.of (Mut := [L]) F F' N' (.head _) hr
  clear N N' hr
  obtain ⟨rest2, N2, _, hr2⟩ := rest_ex g L h' [L]
  have hF2 : ∃ m2, Fr g L h' m2 := ⟨_, F'⟩
  clear F
  k_steps
  rename_i h3 F3 N3
  obtain ⟨m2', F2⟩ := hF2
  obtain ⟨m0', hF0⟩ := hF0
  have im2 := Imm.of (Mut := [L]) F2 F3 N3 (.head _) hr2
  have nL : ∀ {a : Addr}, s.heap.get? a = none → a ∉ [L] := fun e q => by
    obtain ⟨oL, _, _, hL, _⟩ := hF0.ns
    rw [List.mem_singleton.mp q, hL] at e; cases e
  exact k _ _ b ids F3 (im.trans im2) p1 p2 ⟨G, fun a o e => ⟨im2 a o (nL (p3 a o e).2) (p3 a o e).1, (p3 a o e).2⟩, p4, p5⟩ fun j p hj => ⟨(p6 j p hj).1, by obtain ⟨o, q1, q2⟩ := (p6 j p hj).2; exact ⟨o, im2 _ _ (nL (p6 j p hj).1) q1, q2⟩⟩

theorem law_s5 {b : Addr} {ids : List (Addr × Addr)} {c M : Nat → Int} (B : Below A₀ base outer g) (X : Frag.In (hd.heap_39 w.params) g) (T : Top hd.view_39 (looseW hd.view_39 [Str.ofString "Plan"]) mean mg mb g) (hd : dp + 60 < recursionLimit) (hu : un + 200 < cLine)
    (F : Fr g L s.heap m) (hm1 : m (Str.ofString "buffer") = some (.ref b)) (hB : BufAt s.heap b ids) (hI : ∀ j p, ids[j]? = some p → ∃ o, s.heap.get? p.2 = some o ∧ InfoD o (c j) (M j)) (hlen : ids.length ≤ 100)
    (k : ∀ h' tk' l vs n, Fr g L h' (fun z => if z = Str.ofString "held" then some (.ref l) else m z) → Imm [L] s.heap h' → s.heap.get? l = none → h'.get? l = some (listOf (vs : List Value).toArray n) → IntsAre vs ((List.range ids.length).map M) → Q .next { s with heap := h', toks := tk' }) :
    wpAny (model PySem.Challenge.rw_pb0168_01.row.prog w) (ktrTop dp un gd (Str.ofString "law") lawScope L fa cdv (cellsFrom (L + 1) lawScope.names []) outer) (exec lawS5 (envOfC (Str.ofString "law") lawScope L fa cdv)) Q (fun _ _ => False) s := by
  revert X
  k_fill
  intro X
  try k_fold
  obtain ⟨m0, rfl⟩ : ∃ m', m = fun z => if z = Str.ofString "buffer" then some (.ref b) else m' z := ⟨m, map_is hm1⟩
  clear hm1
  have hF0 : ∃ m, Fr g L s.heap m := ⟨_, F⟩
  obtain ⟨rest, N, _, hr⟩ := rest_ex g L s.heap [L]
  k_steps
  unfold Hold
  refine use0 (masks_does w mean mg mb b ids c M hlen) B (by k_asm) (by k_asm) X T rfl (by walk_at "ROOM") (by walk_at "UNITS") ⟨hB, hI⟩ ?_
  intro r h' tk' F' N' P'
  obtain ⟨l, vs, n, rfl, p1, p2, p3⟩ := P'
  have im := Imm.of (Mut := [L]) F F' N' (.head _) hr
  clear N N' hr
  obtain ⟨rest2, N2, _, hr2⟩ := rest_ex g L h' [L]
  have hF2 : ∃ m2, Fr g L h' m2 := ⟨_, F'⟩
  clear F
  k_steps
  rename_i h3 F3 N3
  obtain ⟨m2', F2⟩ := hF2
  obtain ⟨m0', hF0⟩ := hF0
  have im2 := Imm.of (Mut := [L]) F2 F3 N3 (.head _) hr2
  have nL : ∀ {a : Addr}, s.heap.get? a = none → a ∉ [L] := fun e q => by
    obtain ⟨oL, _, _, hL, _⟩ := hF0.ns
    rw [List.mem_singleton.mp q, hL] at e; cases e
  exact k _ _ l vs n F3 (im.trans im2) p1 (im2 _ _ (nL p1) p2) p3

theorem law_s6 (B : Below A₀ base outer g) (X : Frag.In (hd.heap_39 w.params) g) (T : Top hd.view_39 (looseW hd.view_39 [Str.ofString "Plan"]) mean mg mb g) (hd : dp + 60 < recursionLimit) (hu : un + 200 < cLine)
    (F : Fr g L s.heap m)
    (k : ∀ h' tk' md, Fr g L h' (fun z => if z = Str.ofString "masks" then some (.ref md) else m z) → Imm [L] s.heap h' → (∃ G, (∀ a o, G.get? a = some o → h'.get? a = some o ∧ s.heap.get? a = none) ∧ MasksAt w G md) → Q .next { s with heap := h', toks := tk' }) :
    wpAny (model PySem.Challenge.rw_pb0168_01.row.prog w) (ktrTop dp un gd (Str.ofString "law") lawScope L fa cdv (cellsFrom (L + 1) lawScope.names []) outer) (exec lawS6 (envOfC (Str.ofString "law") lawScope L fa cdv)) Q (fun _ _ => False) s := by
  revert X
  k_fill
  intro X
  try k_fold
  have hF0 : ∃ m, Fr g L s.heap m := ⟨_, F⟩
  obtain ⟨rest, N, _, hr⟩ := rest_ex g L s.heap [L]
  k_steps
  unfold Hold
  refine use0 (plan_does w mean mg mb) B (by k_asm) (by k_asm) X T rfl (by walk_at "ROOM") (by walk_at "UNITS") trivial ?_
  intro r h' tk' F' N' P'
  obtain ⟨pa, rfl, P⟩ := P'
  have im := Imm.of (Mut := [L]) F F' N' (.head _) hr
  clear N N' hr
  obtain ⟨dp', es, n, md, t, a1, a2, a3, a4, a5⟩ := P.is
  obtain ⟨rest2, N2, _, hr2⟩ := rest_ex g L h' [L]
  have hF2 : ∃ m2, Fr g L h' m2 := ⟨_, F'⟩
  clear F
  have hn : ∀ {a : Addr} {o : Obj}, (newPart s.heap h').get? a = some o → (a, o) ∈ rest2 := fun {a o} e => by
    obtain ⟨e1, e2⟩ := of_newPart e
    obtain ⟨m0', hF0⟩ := hF0
    have nl : a ≠ L := fun q => by
      obtain ⟨oL, _, _, hL, _⟩ := hF0.ns
      rw [q, hL] at e2; cases e2
    exact hr2 _ _ e1 (none_of_keep hF0.keep e2) nl fun q => nl (List.mem_singleton.mp q)
  have b1 := hn a1
  have b2 := hn a2
  clear hn a1 a2
  k_steps
  rename_i h3 F3 N3
  obtain ⟨m2', F2⟩ := hF2
  obtain ⟨m0', hF0⟩ := hF0
  have im2 := Imm.of (Mut := [L]) F2 F3 N3 (.head _) hr2
  have nL : ∀ {a : Addr}, s.heap.get? a = none → a ∉ [L] := fun e q => by
    obtain ⟨oL, _, _, hL, _⟩ := hF0.ns
    rw [List.mem_singleton.mp q, hL] at e; cases e
  exact k _ _ md F3 (im.trans im2) ⟨newPart s.heap h', fun a o e => ⟨im2 a o (nL (of_newPart e).2) (of_newPart e).1, (of_newPart e).2⟩, a5⟩
end


-- part PBw5

section
open LCg LCp
variable {prog : Program} {w : World} {A : Around} {s : Shared} {h₀ : Heap} {L : Addr} {m : Str → Option Value} {env : Env}
theorem comp_invP {elt : Expr} {x x₂ : Str} {scope : Scope} {cl : List (Str × Addr)} {S : List (Addr × Obj) → Prop} {P : Nat → Value → Prop} {Fin : List Value → List (Addr × Obj) → Prop} {news : List (Addr × Obj)} {n : Nat} (J : Nat → List Value → List (Addr × Obj) → Prop)
    (h0 : J 0 [] news) (fin : ∀ ys news, J n ys news → Fin ys news)
    (turn : ∀ i ys news v, i < n → J i ys news → P i v → ∃ (t : Addr) (ot : Obj) (v₁ v₂ : Value) (nt : Nat), v = .ref t ∧ (t, ot) ∈ news ∧ ot.cls = .type "tuple" ∧ ot.data = .seq #[v₁, v₂] nt ∧
      ∀ I oI C oC D m₂ h tk (E' : Value → Shared → Prop), NsObj oC m₂ → m₂ x = some v₁ → m₂ x₂ = some v₂ → Fr h₀ L h m → News h₀ L h ((I, oI) :: (C, oC) :: (D, lst ys) :: news) → Off3 I C D news → ((@Ne Nat I C) ∧ (@Ne Nat I D) ∧ (@Ne Nat C D)) →
      wpAny (model prog w) A (eval elt (compEnvC scope cl C env)) (CompEnd h₀ L m { s with heap := h, toks := tk } I oI C oC D (lst ys) S (fun y news' => J (i + 1) (ys ++ [y]) news')) E' { s with heap := h, toks := tk }) :
    CompRestP prog w A h₀ L m env elt x x₂ scope cl s S P Fin n 0 [] news := by
  have main : ∀ k i ys news, i + k = n → J i ys news → CompRestP prog w A h₀ L m env elt x x₂ scope cl s S P Fin k i ys news := by
    intro k
    induction k with
    | zero => intro i ys news e hJ; exact CompRestP.zero (fin _ _ (by rw [← e]; exact hJ))
    | succ k ih =>
      intro i ys news e hJ
      refine CompRestP.succ ?_
      intro v hv
      obtain ⟨t, ot, v₁, v₂, nt, q1, q2, q3, q4, q5⟩ := turn i ys news v (by omega) hJ hv
      refine ⟨t, ot, v₁, v₂, nt, q1, q2, q3, q4, fun I oI C oC D m₂ h tk E' a1 a2 a3 a4 a5 a6 a7 => ?_⟩
      exact wpAny_mono (q5 I oI C oC D m₂ h tk E' a1 a2 a3 a4 a5 a6 a7) (fun y s₂ q => compEnd_mono q fun nw hj => ih (i + 1) (ys ++ [y]) nw (by omega) hj) fun _ _ e => e
  exact main n 0 [] news (Nat.zero_add _) h0
end

theorem ints_at : ∀ {vs : List Value} {ns : List Int}, IntsAre vs ns → ∀ {i : Nat} {v : Value}, vs[i]? = some v → ∃ k t, ns[i]? = some k ∧ v = .int k t
  | _, _, .nil, i, v, h => by simp at h
  | _, _, .cons k t r, 0, v, h => ⟨k, t, rfl, (Option.some.inj h).symm⟩
  | _, _, .cons k t r, i + 1, v, h => by simpa using ints_at r (i := i) (by simpa using h)
theorem ints_len : ∀ {vs : List Value} {ns : List Int}, IntsAre vs ns → vs.length = ns.length
  | _, _, .nil => rfl
  | _, _, .cons k t r => by simp [ints_len r]
theorem take_map_snoc (f : Int → Int) {ns : List Int} {i : Nat} {k : Int} (h : ns[i]? = some k) : (ns.take (i + 1)).map f = (ns.take i).map f ++ [f k] := by
  rw [List.take_add_one, h]; simp
def sh20 (x : Int) : Int := x.fdiv (2 ^ Int.toNat 20)
/-- what is new over g, but for Mut -/
def Nh (g h : Heap) (Mut : List Addr) : Heap := hideAll (newPart g h) Mut
theorem nh_get {g h : Heap} {Mut : List Addr} {a : Addr} {o : Obj} (e : h.get? a = some o) (n : g.get? a = none) (m : a ∉ Mut) : (Nh g h Mut).get? a = some o := hideAll_get _ (newPart_get e n) m
theorem of_nh {g h : Heap} {Mut : List Addr} {a : Addr} {o : Obj} (e : (Nh g h Mut).get? a = some o) : h.get? a = some o ∧ g.get? a = none ∧ a ∉ Mut := ⟨(of_newPart (of_hideAll _ e)).1, (of_newPart (of_hideAll _ e)).2, fun q => by unfold Nh at e; rw [hideAll_none _ q] at e; cases e⟩
theorem nh_imm {g h h' : Heap} {Mut M : List Addr} (k : Imm M h h') (hs : ∀ a ∈ M, a ∈ Mut) : ∀ b o, (Nh g h Mut).get? b = some o → (Nh g h' Mut).get? b = some o := fun b o e => by
  obtain ⟨e1, e2, e3⟩ := of_nh e
  exact nh_get (k b o (fun q => e3 (hs b q)) e1) e2 e3
theorem nh_mono {g h : Heap} {Mut M : List Addr} (hs : ∀ a ∈ M, a ∈ Mut) : ∀ b o, (Nh g h Mut).get? b = some o → (Nh g h M).get? b = some o := fun b o e => by
  obtain ⟨e1, e2, e3⟩ := of_nh e
  exact nh_get e1 e2 fun q => e3 (hs b q)
theorem nh_sub {g h : Heap} {Mut : List Addr} : ∀ b o, (Nh g h Mut).get? b = some o → h.get? b = some o := fun b o e => (of_nh e).1
theorem nh_mem {g h : Heap} {L : Addr} {rest : List (Addr × Obj)} (hr : ∀ b o, h.get? b = some o → g.get? b = none → b ≠ L → b ∉ [L] → (b, o) ∈ rest) {a : Addr} {o : Obj} (e : (Nh g h [L]).get? a = some o) : (a, o) ∈ rest := by
  obtain ⟨e1, e2, e3⟩ := of_nh e
  exact hr _ _ e1 e2 (fun q => e3 (List.mem_singleton.mpr q)) e3
theorem RowsAt.keep {h h' : Heap} {rl : Addr} {rs : List (Addr × Int × Int)} (R : RowsAt h rl rs) (k : ∀ b o, h.get? b = some o → h'.get? b = some o) : RowsAt h' rl rs :=
  ⟨R.1.at fun o e => k _ _ e, fun p hp => by obtain ⟨t1, t2, q⟩ := R.2 p hp; exact ⟨t1, t2, q.keeps k⟩⟩

section
variable {w : World} {mean : ExcName → Option Value} {mg mb : Str → Option Value} {dp un : Nat} {gd : Option (List Code)} {L fa : Addr} {cdv : Value} {outer : List Env} {A₀ : Around} {base g : Heap} {m : Str → Option Value} {s : Shared} {Q : Flow → Shared → Prop}

end

theorem turnPBw5 : True ∧ True := by
  w_top off
  first | (walk1; all_goals trivial) | exact ⟨trivial, trivial⟩

section
local macro_rules | `(tactic| walk_at "eval ListComp") => `(tactic| (k_here; (with_reducible show wpAny _ _ (eval (Expr.ListComp _ [⟨Expr.Tuple _ _ _, _, _, _⟩] _ _) _) _ _ _); k_dflt (refine LCp.ListComp_P (F₀ := by k_asm) (by with_unfolding_all rfl) (by decide) (by rfl) (by decide) (by rfl) (by rfl) (by decide) ?_)))
section
local macro_rules | `(tactic| walk_at "CompSrc") => `(tactic| (refine hold_of ?_))
section
local macro_rules | `(tactic| walk_at "SrcLP") => `(tactic| (refine hold_of ?_))
section
local macro_rules | `(tactic| walk_at "CompEnd") => `(tactic| (refine hold_of ?_))
section
local macro_rules | `(tactic| walk_at "compareOp NotEq ref ref") => `(tactic| (refine hold_of ?_))
section
local macro_rules | `(tactic| walk_at "call ref") => `(tactic| ((with_reducible show wpAny _ _ (call (Value.ref 87) _) _ _ _); refine hold_of ?_))
section
local macro_rules | `(tactic| walk_at "call ref") => `(tactic| ((with_reducible show wpAny _ _ (call (Value.ref 94) _) _ _ _); refine hold_of ?_))
section
variable {w : World} {mean : ExcName → Option Value} {mg mb : Str → Option Value} {dp un : Nat} {gd : Option (List Code)} {L fa : Addr} {cdv : Value} {outer : List Env} {A₀ : Around} {base g : Heap} {m : Str → Option Value} {s : Shared} {Q : Flow → Shared → Prop}
theorem law_s10 {b hl : Addr} {ids : List (Addr × Addr)} {c M : Nat → Int} {vs : List Value} {n : Nat} (B : Below A₀ base outer g) (X : Frag.In (hd.heap_39 w.params) g) (T : Top hd.view_39 (looseW hd.view_39 [Str.ofString "Plan"]) mean mg mb g) (hd : dp + 60 < recursionLimit) (hu : un + 200 < cLine)
    (F : Fr g L s.heap m) (hm1 : m (Str.ofString "buffer") = some (.ref b)) (hm2 : m (Str.ofString "held") = some (.ref hl)) (hB : BufAt s.heap b ids) (hI : ∀ j p, ids[j]? = some p → ∃ o, s.heap.get? p.2 = some o ∧ InfoD o (c j) (M j)) (hlen : ids.length ≤ 100)
    (hh : s.heap.get? hl = some (listOf vs.toArray n)) (hhi : IntsAre vs ((List.range ids.length).map M))
    (k : ∀ h' tk', Fr g L h' m → Imm [L] s.heap h' → Q .next { s with heap := h', toks := tk' }) :
    wpAny (model PySem.Challenge.rw_pb0168_01.row.prog w) (ktrTop dp un gd (Str.ofString "law") lawScope L fa cdv (cellsFrom (L + 1) lawScope.names []) outer) (exec lawS10 (envOfC (Str.ofString "law") lawScope L fa cdv)) Q (fun _ _ => False) s := by
  revert X
  k_fill
  intro X
  try k_fold
  obtain ⟨m0, rfl⟩ : ∃ m', m = fun z => if z = Str.ofString "buffer" then some (.ref b) else m' z := ⟨m, map_is hm1⟩
  clear hm1
  replace hm2 : m0 (Str.ofString "held") = some (.ref hl) := hm2
  obtain ⟨m1, rfl⟩ : ∃ m', m0 = fun z => if z = Str.ofString "held" then some (.ref hl) else m' z := ⟨m0, map_is hm2⟩
  clear hm2
  obtain ⟨rest, N, _, hr⟩ := rest_ex g L s.heap [L]
  k_steps
  unfold Hold
  refine use0 (masks_does w mean mg mb b ids c M hlen) B (by k_asm) (by k_asm) X T rfl (by walk_at "ROOM") (by walk_at "UNITS") ⟨hB, hI⟩ ?_
  intro r h' tk' F' N' P'
  obtain ⟨l, vs', n', rfl, p1, p2, p3⟩ := P'
  have im := Imm.of (Mut := [L]) F F' N' (.head _) hr
  have hlL : hl ≠ L := fun q => by
    obtain ⟨oL, _, _, hL, hLd, _⟩ := F.ns
    rw [q, hL] at hh
    cases hh
    cases hLd
  have hh' := im hl _ (fun q => hlL (List.mem_singleton.mp q)) hh
  clear N hr F
  k_steps
  unfold Hold
  refine ne_intsK ⟨_, p2, rfl, _, rfl⟩ p3 ⟨_, hh', rfl, _, rfl⟩ hhi (by walk_at "UNITS") ?_
  rw [decide_eq_true rfl]
  k_steps
  exact k _ _ F' im

theorem law_s9 {b wl : Addr} {ids : List (Addr × Addr)} {ws : List (Addr × Wsh)} {c M : Nat → Int} (B : Below A₀ base outer g) (X : Frag.In (hd.heap_39 w.params) g) (T : Top hd.view_39 (looseW hd.view_39 [Str.ofString "Plan"]) mean mg mb g) (hd : dp + 60 < recursionLimit) (hu : un + 200 < cLine)
    (F : Fr g L s.heap m) (hm1 : m (Str.ofString "buffer") = some (.ref b)) (hm2 : m (Str.ofString "wishes") = some (.ref wl)) (nd : (ids.map (·.2)).Nodup) (hok : ∀ p ∈ ws, p.2.ok)
    (hG : ∃ G, (∀ a o, G.get? a = some o → s.heap.get? a = some o) ∧ (∀ d ∈ ids.map (·.2), G.get? d = none) ∧ G.get? L = none ∧ BufAt G b ids ∧ WishesAt G wl ws) (hI : ∀ j p, ids[j]? = some p → ∃ o, s.heap.get? p.2 = some o ∧ InfoD o (c j) (M j)) (hD : ∀ d ∈ ids.map (·.2), g.get? d = none ∧ d ≠ L)
    (k : ∀ h' tk', Fr g L h' m → Imm (L :: ids.map (·.2)) s.heap h' → (∀ j p, ids[j]? = some p → ∃ o, h'.get? p.2 = some o ∧ InfoD o (c j) (runW (ws.map (·.2)) (c j) (M j))) → Q .next { s with heap := h', toks := tk' }) :
    wpAny (model PySem.Challenge.rw_pb0168_01.row.prog w) (ktrTop dp un gd (Str.ofString "law") lawScope L fa cdv (cellsFrom (L + 1) lawScope.names []) outer) (exec lawS9 (envOfC (Str.ofString "law") lawScope L fa cdv)) Q (fun _ _ => False) s := by
  revert X
  k_fill
  intro X
  try k_fold
  obtain ⟨m0, rfl⟩ : ∃ m', m = fun z => if z = Str.ofString "buffer" then some (.ref b) else m' z := ⟨m, map_is hm1⟩
  clear hm1
  replace hm2 : m0 (Str.ofString "wishes") = some (.ref wl) := hm2
  obtain ⟨m1, rfl⟩ : ∃ m', m0 = fun z => if z = Str.ofString "wishes" then some (.ref wl) else m' z := ⟨m0, map_is hm2⟩
  clear hm2
  obtain ⟨rest, N, _, hr⟩ := rest_ex g L s.heap [L]
  k_steps
  unfold Hold
  refine use0 (plan_does w mean mg mb) B (by k_asm) (by k_asm) X T rfl (by walk_at "ROOM") (by walk_at "UNITS") trivial ?_
  intro r h' tk' F' N' P'
  obtain ⟨pa, rfl, P⟩ := P'
  have im := Imm.of (Mut := [L]) F F' N' (.head _) hr
  clear N hr F
  k_steps
  unfold Hold
  obtain ⟨G, g1, g2, g3, g4, g5⟩ := hG
  have up : ∀ a o, G.get? a = some o → (hideAll h' (ids.map (·.2))).get? a = some o := fun a o e => hideAll_get _ (im a o (fun q => by rw [List.mem_singleton.mp q, g3] at e; cases e) (g1 a o e)) fun q => by rw [g2 a q] at e; cases e
  have nL : ∀ d ∈ ids.map (·.2), d ∉ [L] := fun d hd q => (hD d hd).2 (List.mem_singleton.mp q)
  have dm : ∀ {j : Nat} {p : Addr × Addr}, ids[j]? = some p → p.2 ∈ ids.map (·.2) := fun hj => List.mem_map.mpr ⟨_, List.mem_of_getElem? hj, rfl⟩
  refine use1 (set_does w mean mg mb b pa wl ids ws c M nd hok) B F' X T rfl (by walk_at "ROOM") (by walk_at "UNITS") hD ⟨⟨hideAll h' (ids.map (·.2)), fun a o e => of_hideAll _ e, fun d hd => hideAll_none _ hd, g4.keep up, P.keep fun a o e => hideAll_get _ (of_newPart e).1 fun q => ?_, g5.keep up⟩, fun j p hj => ?_⟩ ?_
  · obtain ⟨p, hp, rfl⟩ := List.mem_map.mp q
    obtain ⟨j, hj⟩ := List.mem_iff_getElem?.mp hp
    obtain ⟨o', e', _⟩ := hI j p hj
    rw [(of_newPart e).2] at e'; cases e'
  · obtain ⟨o, e, q⟩ := hI j p hj
    exact ⟨o, im _ _ (nL _ (dm hj)) e, q⟩
  · intro r h2 tk2 F2 k2 P2
    k_steps
    exact k _ _ F2 (fun a o na e => k2 a o (fun q => na (.tail _ q)) (im a o (fun q => na (by rw [List.mem_singleton.mp q]; exact .head _)) e)) P2

theorem law_s12 (B : Below A₀ base outer g) (X : Frag.In (hd.heap_39 w.params) g) (T : Top hd.view_39 (looseW hd.view_39 [Str.ofString "Plan"]) mean mg mb g) (hd : dp + 60 < recursionLimit) (hu : un + 200 < cLine)
    (F : Fr g L s.heap m) (k : Q (.ret (.bool true)) s) :
    wpAny (model PySem.Challenge.rw_pb0168_01.row.prog w) (ktrTop dp un gd (Str.ofString "law") lawScope L fa cdv (cellsFrom (L + 1) lawScope.names []) outer) (exec lawS12 (envOfC (Str.ofString "law") lawScope L fa cdv)) Q (fun _ _ => False) s := by
  revert X
  k_fill
  intro X
  try k_fold
  k_steps
  exact k

theorem law_s8 {rl hl md : Addr} {rs : List (Addr × Int × Int)} {Ms : List Int} {vs : List Value} {n : Nat} (B : Below A₀ base outer g) (X : Frag.In (hd.heap_39 w.params) g) (T : Top hd.view_39 (looseW hd.view_39 [Str.ofString "Plan"]) mean mg mb g) (hd : dp + 60 < recursionLimit) (hu : un + 200 < cLine)
    (F : Fr g L s.heap m) (hm1 : m (Str.ofString "rows") = some (.ref rl)) (hm2 : m (Str.ofString "held") = some (.ref hl)) (hm3 : m (Str.ofString "masks") = some (.ref md))
    (hR : RowsAt (Nh g s.heap [L]) rl rs) (hlen : rs.length ≤ 100) (hh : (Nh g s.heap [L]).get? hl = some (listOf vs.toArray n)) (hhi : IntsAre vs Ms) (hMs : Ms.length ≤ 100) (hmd : MasksAt w (Nh g s.heap [L]) md) (heq : Ms.map sh20 = rs.map (·.2.2))
    (k : ∀ h' tk', Fr g L h' m → Imm [L] s.heap h' → Q .next { s with heap := h', toks := tk' }) :
    wpAny (model PySem.Challenge.rw_pb0168_01.row.prog w) (ktrTop dp un gd (Str.ofString "law") lawScope L fa cdv (cellsFrom (L + 1) lawScope.names []) outer) (exec lawS8 (envOfC (Str.ofString "law") lawScope L fa cdv)) Q (fun _ _ => False) s := by
  revert X
  k_fill
  intro X
  try k_fold
  obtain ⟨m0, rfl⟩ : ∃ m', m = fun z => if z = Str.ofString "rows" then some (.ref rl) else m' z := ⟨m, map_is hm1⟩
  clear hm1
  replace hm2 : m0 (Str.ofString "held") = some (.ref hl) := hm2
  replace hm3 : m0 (Str.ofString "masks") = some (.ref md) := hm3
  obtain ⟨m1, rfl⟩ : ∃ m', m0 = fun z => if z = Str.ofString "held" then some (.ref hl) else m' z := ⟨m0, map_is hm2⟩
  clear hm2
  replace hm3 : m1 (Str.ofString "masks") = some (.ref md) := hm3
  obtain ⟨m2, rfl⟩ : ∃ m', m1 = fun z => if z = Str.ofString "masks" then some (.ref md) else m' z := ⟨m1, map_is hm3⟩
  clear hm3
  obtain ⟨rest, N, _, hr⟩ := rest_ex g L s.heap [L]
  have hin : (hl, listOf vs.toArray n) ∈ rest := nh_mem hr hh
  have hF : ∃ m, Fr g L s.heap m := ⟨_, F⟩
  k_steps
  unfold Hold
  refine LCg.CompSrc.ledger rfl F N hin (by simp; rw [sizeLine_eq]; have := ints_len hhi; omega) ?_
  intro g'
  refine comp_inv (fun i ys nx => nx = rest ∧ IntsAre ys ((Ms.take i).map sh20)) ⟨rfl, .nil⟩ ?_ ?_
  · rintro ys nx ⟨rfl, hys⟩
    rw [List.take_of_length_le (by simp; rw [ints_len hhi]; exact Nat.le_refl _)] at hys
    unfold LCg.FinE
    intro D h tk F1 N1 of1
    clear N F
    k_steps
    unfold Hold
    obtain ⟨ol, e1, e2, nl, e3⟩ := hR.1
    refine ⟨rl, _, _, rfl, rfl, F1, N1, .inr ⟨ol, .tail _ (nh_mem hr e1), e2, nl, e3⟩, by simp; rw [sizeLine_eq]; omega, fun s₂ hs₂ => ?_⟩
    obtain ⟨g2, rfl⟩ := hs₂
    refine comp_invP (fun i us nx' => nx' = (D, LCg.lst ys) :: nx ∧ IntsAre us ((rs.take i).map (·.2.2))) ⟨rfl, .nil⟩ ?_ ?_
    · rintro us nx' ⟨rfl, hus⟩
      rw [List.take_of_length_le (by simp)] at hus
      unfold LCg.FinE
      intro D2 h2 tk2 F2 N2 of2
      clear N1 F1
      k_steps
      unfold Hold
      refine ne_intsK ⟨_, (N2 _ (.tail _ (.head _))).1, rfl, _, rfl⟩ hys ⟨_, (N2 _ (.head _)).1, rfl, _, rfl⟩ hus (by walk_at "UNITS") ?_
      rw [decide_eq_true heq]
      k_steps
      unfold Hold
      obtain ⟨m0', F0⟩ := hF
      have N3 : News g L h2 nx := fun q hq => N2 q (.tail _ (.tail _ hq))
      have im := Imm.of (Mut := [L]) F0 F2 N3 (.head _) hr
      refine use0 (mask_at_none w mean mg mb md _) B F2 N2 X T rfl (by walk_at "ROOM") (by walk_at "UNITS") (hmd.keep fun b o e => nh_sub _ _ (nh_imm im (fun _ h => h) b o e)) ?_
      rintro r h3 tk3 F3 N4 ⟨t, rfl⟩
      have im2 := Imm.of (Mut := [L]) F0 F3 (fun q hq => N4 q (.tail _ (.tail _ hq))) (.head _) hr
      clear F2 N2 N3 F0
      k_steps
      exact k _ _ F3 im2
    · rintro i us nx' v hi ⟨rfl, hus⟩ hv
      have hv' : (rs.map fun p => Value.ref p.1)[i]? = some v := by simpa using hv
      rw [List.getElem?_map] at hv'
      obtain ⟨⟨ra, c0, m0⟩, hp, rfl⟩ := Option.map_eq_some_iff.mp hv'
      obtain ⟨ta, tb, ot, q1, q2, nt, q3⟩ := hR.2 _ (List.mem_of_getElem? hp)
      refine ⟨ra, ot, _, _, nt, rfl, .tail _ (nh_mem hr q1), q2, q3, ?_⟩
      intro I oI C oC D2 m₂ h2 tk2 E' hC hx hx2 F2 N2 hoff hne
      clear F1 N1
      k_steps
      unfold Hold
      refine LCg.CompEnd.intro F2 N2 _ (fun _ h => h) hoff (.inr ⟨ol, .tail _ (nh_mem hr e1), e2, nl, e3⟩) ⟨rfl, ?_⟩
      rw [List.take_add_one, hp, List.map_append]
      exact ints_snoc hus
  · rintro i ys nx v I oI C oC D m₂ h tk E' hi ⟨rfl, hys⟩ hv hC hx F1 N1 hoff hne
    clear N F
    obtain ⟨kk, tt, hk1, rfl⟩ := ints_at hhi (by simpa using hv)
    k_steps
    unfold Hold
    refine LCg.CompEnd.intro F1 N1 _ (fun _ h => h) hoff (.inr ⟨_, hin, rfl, _, rfl⟩) ⟨rfl, ?_⟩
    rw [take_map_snoc sh20 hk1]
    exact ints_snoc hys
end


-- part PBw6

def tag4 : Nat → Str
  | 0 => Str.ofString "aalt"
  | 1 => Str.ofString "salt"
  | 2 => Str.ofString "ss01"
  | _ => Str.ofString "liga"
def mv4 : Nat → Int
  | 0 => 14
  | 1 => 48
  | 2 => 960
  | _ => 1
def sh4 : Nat → Int
  | 0 => 1
  | 1 => 4
  | 2 => 6
  | _ => 0
def ownV (us : List Wsh) (t : Nat) (c V : Int) : List Int := V :: ((us.filter fun u => decide (tagS u.t = tag4 t) && (decide (u.b ≤ c) && decide (c < u.e))).map (·.v))
theorem ints_last : ∀ {vs : List Value} {ns : List Int}, IntsAre vs ns → ns ≠ [] → ∃ t, vs[vs.length - 1]? = some (.int (ns.getLastD 0) t)
  | _, _, .nil, h => absurd rfl h
  | _, _, .cons k t .nil, _ => ⟨t, rfl⟩
  | _, _, .cons k t (.cons k2 t2 r), _ => by
    obtain ⟨t', e⟩ := ints_last (.cons k2 t2 r) (List.cons_ne_nil _ _)
    exact ⟨t', by simpa using e⟩
theorem getD_last (l : List Int) (h : l ≠ []) : l.getD (-1 + (l.length : Int)).toNat 0 = l.getLastD 0 := by
  have hl : 0 < l.length := List.length_pos_iff.mpr h
  rw [show (-1 + (l.length : Int)).toNat = l.length - 1 by omega, List.getD_eq_getElem?_getD, ← List.getLast?_eq_getElem?, List.getLastD_eq_getLast?]
theorem mask_at_t (w : World) (mean : ExcName → Option Value) (mg mb : Str → Option Value) (md : Addr) (t : Nat) (tk : Tok) (ht : t < 4) : DoesL w mean mg mb 87 [.ref md, .str (tag4 t) tk] 3 3 [] (fun h => MasksAt w h md) (fun _ r _ => ∃ t', r = .int (mv4 t) t') := by
  match t, ht with
  | 0, _ => exact mask_at_aalt w mean mg mb md tk
  | 1, _ => exact mask_at_salt w mean mg mb md tk
  | 2, _ => exact mask_at_ss01 w mean mg mb md tk
  | 3, _ => exact mask_at_liga w mean mg mb md tk
theorem masks_get {w : World} {h : Heap} {md : Addr} (M : MasksAt w h md) {t : Nat} (ht : t < 4) : ∃ kvs tt a b n, h.DictOf (PySem.strKind PySem.Challenge.rw_pb0168_01.row.prog w) md kvs ∧ valueAt kvs (tag4 t) = some (.ref tt) ∧ IsTup h tt #[.int (sh4 t) a, .int n b] := by
  obtain ⟨t1, t2, t3, t4, a1, b1, a2, b2, a3, b3, a4, b4, lo, d, x1, x2, x3, x4⟩ := M.is
  match t, ht with
  | 0, _ => exact ⟨_, t1, a1, b1, 3, d, rfl, x1⟩
  | 1, _ => exact ⟨_, t2, a2, b2, 2, d, rfl, x2⟩
  | 2, _ => exact ⟨_, t3, a3, b3, 4, d, rfl, x3⟩
  | 3, _ => exact ⟨_, t4, a4, b4, 1, d, rfl, x4⟩
noncomputable abbrev lawIn : Stmt := (⟨Stmt.For _ _ _ _ _, rfl⟩ : { x : Stmt // (match lawS7 with | .For _ _ b _ _ => b[0]? | _ => none) = some x }).1
section
variable {prog : Program} {w : World} {A : Around} {E : Value → Shared → Prop} {s : Shared} {env : Env} {g : Heap} {target : Expr} {body : List Stmt} {Q : Flow → Shared → Prop}
theorem turns_tup {l : Addr} {its : Array Value} {m₀ : Str → Option Value} {news : List (Addr × Obj)} (J : Nat → (Str → Option Value) → List (Addr × Obj) → Prop)
    (hh : A.handled = none) (hl : IsTup s.heap l its) (hlL : l ≠ env.locals) (F : Fr g env.locals s.heap m₀) (N : News g env.locals s.heap news) (h0 : J 0 m₀ news)
    (turn : ∀ i v m₁ news₁ h tk own I, its[i]? = some v → J i m₁ news₁ → (∀ p ∈ own, p.1 = I ∨ p.1 = l) → (∃ o, (I, o) ∈ own) → (∀ q ∈ news₁, q.1 ≠ I) → Fr g env.locals h m₁ → News g env.locals h (own ++ news₁) →
      wpAny (model prog w) A (assign target env v) (fun _ s₃ => wpAny (model prog w) A (execs body env) (TurnEnd g env.locals s own I (J (i + 1)) Q) E s₃) E { s with heap := h, toks := tk })
    (done : ∀ m₁ news₁ h tk, J its.size m₁ news₁ → Fr g env.locals h m₁ → News g env.locals h news₁ → Q .next { s with heap := h, toks := tk }) :
    wpAny (model prog w) A (pyIter (.ref l)) (fun it s₂ => TurnsAt prog w A g env target body Q E it s₂) E s := by
  have ht' : s.heap.IsTuple l its := hl
  have hlt : l < s.heap.objs.size := by obtain ⟨_, e, _⟩ := hl; exact Heap.lt_size e
  have hne : l ≠ s.heap.objs.size := Nat.ne_of_lt hlt
  refine wpAny_pyIter_tuple ht' ?_
  have W := Walks.tuple (prog := prog) (w := w) hh s.heap.objs.size l hne its
  have up : ∀ b o, s.heap.get? b = some o → (s.heap.push { cls := .type "tuple_iterator", data := .fields #[.ref l, .int 0 0] }).get? b = some o := fun b o e => Heap.get?_push_of_some _ e
  refine ⟨_, _, _, its.size, _, _, _, m₀, news, J, rfl, KTurns.ofWalks W fun i v s Q E st q => letGo_tupleiter st.1 q, ?_, ?_, ?_, ⟨⟨_, Heap.get?_push_size _ rfl, rfl, rfl⟩, ht'.at fun o e => Heap.get?_push_of_some _ e⟩, F.push _, N.grown up, h0, ?_, ?_⟩
  · intro hm
    rcases List.mem_cons.mp hm with e | hm
    · exact absurd F.ns.lt (e ▸ Nat.lt_irrefl _)
    · exact hlL (List.mem_singleton.mp hm).symm
  · intro b hb
    rw [List.mem_singleton.mp hb]
    exact next_is_new F
  · intro p hp hI
    exact absurd (Heap.lt_size (N p hp).1) ((List.mem_singleton.mp hI) ▸ Nat.lt_irrefl _)
  · rintro i v m₁ news₁ hh' tk' own _ hP hJ hoff hown _ hall hst F₁ N₁
    obtain ⟨⟨oI, heI, _⟩, _⟩ := hst
    refine wpAny_mono (turn i v m₁ news₁ hh' tk' own s.heap.objs.size hP hJ (fun p hp => ?_) ⟨oI, hall _ (.head _) (next_is_new F) oI heI⟩ (fun q hq e => hoff q hq (List.mem_singleton.mpr e)) F₁ N₁) (fun _ s₁ q => wpAny_mono q (fun f s₂ p => ?_) fun _ _ e => e) fun _ _ e => e
    · rcases List.mem_cons.mp (hown p hp) with e | e
      · exact .inl e
      · exact .inr (List.mem_singleton.mp e)
    · have fin : (∃ h' tk' m' news', s₂ = { s with heap := h', toks := tk' } ∧ Fr g env.locals h' m' ∧ News g env.locals h' (own ++ news') ∧ (∀ q ∈ news', q.1 ≠ s.heap.objs.size) ∧ J (i + 1) m' news') → LoopStepU g env.locals [s.heap.objs.size] own (J (i + 1)) { s with heap := hh', toks := tk' } .next s₂ := by
        rintro ⟨h', tk, m', news', e, F', N', ho, hm⟩
        exact ⟨rfl, h', tk, m', news', e, F', N', fun p hp hq => ho p hp (List.mem_singleton.mp hq), hm⟩
      cases f with
      | ret v => exact .ret p
      | brk => exact .brk p
      | next => exact .next (fin p)
      | cont => exact .cont (fin p)
  · rintro h' tk m' news' F' N' _ hJ
    exact done m' news' h' tk hJ F' N'
theorem map_form3 {stored : List Str} {m₀ m₁ : Str → Option Value} (hm : ∀ z, stored.contains z = false → m₁ z = m₀ z) : m₁ = fun y => if stored.contains y then m₁ y else m₀ y := by
  funext z
  cases h3 : stored.contains z with
  | true => simp
  | false => simp only [Bool.false_eq_true, if_false]; exact hm z h3
end

section
variable {w : World} {mean : ExcName → Option Value} {mg mb : Str → Option Value} {dp un : Nat} {gd : Option (List Code)} {L fa : Addr} {cdv : Value} {outer : List Env} {A₀ : Around} {base g : Heap} {m : Str → Option Value} {s : Shared} {Q : Flow → Shared → Prop}

end

theorem turnPBw6 : True ∧ True := by
  w_top off
  first | (walk1; all_goals trivial) | exact ⟨trivial, trivial⟩

section
local macro_rules | `(tactic| walk_at "binaryOp Add ref ref") => `(tactic| (refine hold_of ?_))
section
local macro_rules | `(tactic| walk_at "subscriptTail") => `(tactic| (refine hold_of ?_))
section
local macro_rules | `(tactic| walk_at "exec For Name Attribute cons nil") => `(tactic| (k_here; (rename Fr _ _ _ _ => lF'); (with_unfolding_all refine' For_turns lF' ?_; k_whole)))
section
local macro_rules | `(tactic| walk_at "pyIter ref") => `(tactic| (refine hold_of ?_))
section
local macro_rules | `(tactic| walk_at "CompSrcT") => `(tactic| (refine hold_of ?_))
section
local macro_rules | `(tactic| walk_at "eval ListComp") => `(tactic| (k_here; (with_reducible show wpAny _ _ (eval (Expr.ListComp _ [⟨Expr.Name _ _, _, [_], _⟩] _ _) _) _ _ _); k_dflt (refine LCt.ListComp_T (F₀ := by k_asm) (by with_unfolding_all rfl) (by decide) (by rfl) (by decide) (by rfl) ?_)))
section
variable {w : World} {mean : ExcName → Option Value} {mg mb : Str → Option Value} {dp un : Nat} {gd : Option (List Code)} {L fa : Addr} {cdv : Value} {outer : List Env} {A₀ : Around} {base g : Heap} {m : Str → Option Value} {s : Shared} {Q : Flow → Shared → Prop}
theorem law_in {b md wl r bd : Addr} {es : List DictEntry} {nb nr nw : Nat} {oT oI ol ow : Obj} {vi : Option Value} {ids : List (Addr × Addr)} {ws : List (Addr × Wsh)} {c M : Nat → Int} {t : Nat} {V : Int} {tv tt : Tok} {tl : List (Addr × Obj)} (B : Below A₀ base outer g) (X : Frag.In (hd.heap_39 w.params) g) (T : Top hd.view_39 (looseW hd.view_39 [Str.ofString "Plan"]) mean mg mb g) (hd : dp + 60 < recursionLimit) (hu : un + 200 < cLine)
    (F : Fr g L s.heap m)
    (hm1 : m (Str.ofString "buffer") = some (.ref b)) (hm2 : m (Str.ofString "wishes") = some (.ref wl)) (hm3 : m (Str.ofString "masks") = some (.ref md)) (hm4 : m (Str.ofString "value") = some (.int V tv)) (ht : t < 4)
    (N : News g L s.heap ((L + 2, oT) :: (L + 3, oI) :: tl)) (hTd : oT.data = .cell (some (.str (tag4 t) tt))) (hId : oI.data = .cell vi) (ho2 : ∀ q ∈ tl, q.1 ≠ L + 2) (ho3 : ∀ q ∈ tl, q.1 ≠ L + 3)
    (hb : (b, instObj 180 bd) ∈ tl) (hbd : (bd, dictOf es nb) ∈ tl) (hrow : getL (Str.ofString "row") es = some (some (.ref r))) (hrl : (r, ol) ∈ tl) (hrc : ol.cls = .type "list") (hrd : ol.data = .seq (ids.map fun p => Value.ref p.1).toArray nr) (hids : ∀ p ∈ ids, (p.1, instObj 125 p.2) ∈ tl)
    (hinf : ∀ j p, ids[j]? = some p → ∃ o, (p.2, o) ∈ tl ∧ InfoD o (c j) (M j)) (hlen : ids.length ≤ 100)
    (hwl : (wl, ow) ∈ tl) (hwc : ow.cls = .type "list") (hwd : ow.data = .seq (ws.map fun p => Value.ref p.1).toArray nw) (hws : ∀ p ∈ ws, WishL tl p.1 p.2) (hlenw : ws.length ≤ 100) (hmd : ∃ G, (∀ a o, G.get? a = some o → (a, o) ∈ tl) ∧ MasksAt w G md)
    (hval : ∀ j, j < ids.length → (Builtin.bitAnd (M j) (mv4 t)).fdiv (2 ^ (sh4 t).toNat) = (ownV (ws.map (·.2)) t (c j) V).getLastD 0)
    (k : ∀ (u : Str → Option Value) h' tk' oI' vi', Fr g L h' (fun y => if [Str.ofString "own"].contains y then u y else m y) → News g L h' ((L + 2, oT) :: (L + 3, oI') :: tl) → oI'.data = .cell vi' → Q .next { s with heap := h', toks := tk' }) :
    wpAny (model PySem.Challenge.rw_pb0168_01.row.prog w) (ktrTop dp un gd (Str.ofString "law") lawScope L fa cdv (cellsFrom (L + 1) lawScope.names []) outer) (exec lawIn (envOfC (Str.ofString "law") lawScope L fa cdv)) Q (fun _ _ => False) s := by
  revert X
  k_fill
  intro X
  try k_fold
  obtain ⟨m0, rfl⟩ : ∃ m', m = fun z => if z = Str.ofString "buffer" then some (.ref b) else m' z := ⟨m, map_is hm1⟩
  clear hm1
  replace hm4 : m0 (Str.ofString "value") = some (.int V tv) := hm4
  replace hm2 : m0 (Str.ofString "wishes") = some (.ref wl) := hm2
  replace hm3 : m0 (Str.ofString "masks") = some (.ref md) := hm3
  obtain ⟨m1, rfl⟩ : ∃ m', m0 = fun z => if z = Str.ofString "wishes" then some (.ref wl) else m' z := ⟨m0, map_is hm2⟩
  clear hm2
  replace hm4 : m1 (Str.ofString "value") = some (.int V tv) := hm4
  replace hm3 : m1 (Str.ofString "masks") = some (.ref md) := hm3
  obtain ⟨m2, rfl⟩ : ∃ m', m1 = fun z => if z = Str.ofString "masks" then some (.ref md) else m' z := ⟨m1, map_is hm3⟩
  clear hm3
  replace hm4 : m2 (Str.ofString "value") = some (.int V tv) := hm4
  obtain ⟨m3, rfl⟩ : ∃ m', m2 = fun z => if z = Str.ofString "value" then some (.int V tv) else m' z := ⟨m2, map_is hm4⟩
  clear hm4
  k_steps
  unfold Hold
  rename Fr g L _ _ => F
  refine turns_led (stored := [Str.ofString "own"]) (fun i nx => ∃ oI' vi', nx = (L + 2, oT) :: (L + 3, oI') :: tl ∧ oI'.data = .cell vi') rfl ⟨_, (N _ (.tail _ (.tail _ hrl))).1, hrc, _, hrd⟩ (N _ (.tail _ (.tail _ hrl))).2.1 F N ⟨_, _, rfl, hId⟩ ?_ ?_
  · rintro i v u nx h tk own I hv ⟨oI', vi', rfl, hId'⟩ ho hIo hI F1 N1
    clear N F
    have hv' : (ids.map fun p => Value.ref p.1)[i]? = some v := by simpa using hv
    rw [List.getElem?_map] at hv'
    obtain ⟨⟨x, d⟩, hp, rfl⟩ := Option.map_eq_some_iff.mp hv'
    have hilt : i < ids.length := (List.getElem?_eq_some_iff.mp hp).1
    obtain ⟨o, hdm, hinfo⟩ := hinf i _ hp
    obtain ⟨es1, n1, ta, tb, rfl, hz, hc, hm⟩ := hinfo.is
    have hxm := hids _ (List.mem_of_getElem? hp)
    obtain ⟨OT, hOT⟩ : ∃ OT, OT = own ++ tl := ⟨_, rfl⟩
    have sub : ∀ q ∈ tl, q ∈ OT := fun q hq => by rw [hOT]; exact List.mem_append_right _ hq
    have ho2' : ∀ q ∈ OT, q.1 ≠ L + 2 := fun q hq => by
      rw [hOT] at hq
      rcases List.mem_append.mp hq with hq | hq
      · rcases ho q hq with e | e
        · rw [e]; exact Ne.symm (hI (L + 2, oT) (.head _))
        · rw [e]; exact ho2 _ hrl
      · exact ho2 q hq
    have ho3' : ∀ q ∈ OT, q.1 ≠ L + 3 := fun q hq => by
      rw [hOT] at hq
      rcases List.mem_append.mp hq with hq | hq
      · rcases ho q hq with e | e
        · rw [e]; exact Ne.symm (hI (L + 3, oI') (.tail _ (.head _)))
        · rw [e]; exact ho3 _ hrl
      · exact ho3 q hq
    have N2 : News g L h ((L + 2, oT) :: (L + 3, oI') :: OT) := fun q hq => by
      rcases List.mem_cons.mp hq with rfl | hq
      · exact N1 _ (List.mem_append_right _ (.head _))
      · rcases List.mem_cons.mp hq with rfl | hq
        · exact N1 _ (List.mem_append_right _ (.tail _ (.head _)))
        · rw [hOT] at hq
          rcases List.mem_append.mp hq with hq | hq
          · exact N1 _ (List.mem_append_left _ hq)
          · exact N1 _ (List.mem_append_right _ (.tail _ (.tail _ hq)))
    clear N1
    dsimp only at hxm hdm
    have a1 := sub _ hxm
    have a2 := sub _ hdm
    have a3 := sub _ hwl
    k_steps
    rename (Obj.data _ = Data.cell (some (Value.ref x))) => hIx
    rename Fr g L _ _ => F3
    rename News g L _ _ => N3
    rename_i h4 o4 LD h5 lLD
    dsimp only at hIx
    unfold Hold
    refine .inl ⟨wl, (ws.map fun p => Value.ref p.1).toArray, _, rfl, rfl, F3, N3, .inr ⟨ow, .tail _ (.tail _ (.tail _ a3)), hwc, nw, hwd⟩, by simp; rw [sizeLine_eq]; omega, fun s₂ hs₂ => ?_⟩
    obtain ⟨g', rfl⟩ := hs₂
    refine comp_invT (fun j ys nx => nx = (LD, listOf #[.int V tv] 0) :: (L + 2, oT) :: (L + 1 + 1 + 1, o4) :: OT ∧ IntsAre ys ((((ws.take j).map (·.2)).filter fun u => decide (tagS u.t = tag4 t) && (decide (u.b ≤ c i) && decide (c i < u.e))).map (·.v))) ⟨rfl, .nil⟩ ?_ ?_
    · rintro ys nx ⟨rfl, hys⟩
      rw [List.take_of_length_le (by simp)] at hys
      unfold LCg.FinE
      intro D h6 tk6 F6 N6 of6
      clear N3 F3
      k_steps
      unfold Hold
      refine kmk_add_ints F6 N6 ⟨_, (N6 _ (.tail _ (.head _))).1, rfl, _, rfl⟩ ⟨_, (N6 _ (.head _)).1, rfl, _, rfl⟩ (vs := [.int V tv]) (ns := [V]) (.cons V tv .nil) hys ?_ (by rw [sizeLine_eq]; have := List.length_filter_le (fun u => decide (tagS u.t = tag4 t) && (decide (u.b ≤ c i) && decide (c i < u.e))) (ws.map (·.2)); simp at this ⊢; omega)
      intro D3 us h7 F7 N7 lt7 hus
      clear F6 N6
      k_steps
      unfold Hold
      rename Fr g L _ _ => F8
      rename News g L _ _ => N8
      obtain ⟨G, hG1, hG2⟩ := hmd
      refine use0 (mask_at_t w mean mg mb md t tt ht) B F8 N8 X T rfl (by walk_at "ROOM") (by walk_at "UNITS") (hG2.keep fun a o e => (N8 _ (.tail _ (.tail _ (.tail _ (.tail _ (.tail _ (sub _ (hG1 a o e)))))))).1) ?_
      rintro rr h9 tk9 F9 N9 ⟨t9, rfl⟩
      clear F8 N8
      have hM9 : MasksAt w h9 md := hG2.keep fun a o e => (N9 _ (.tail _ (.tail _ (.tail _ (.tail _ (.tail _ (sub _ (hG1 a o e)))))))).1
      obtain ⟨kvs, tt1, aa, bb, nn, hd1, hd2, hd3⟩ := masks_get hM9 ht
      have hsh : 0 ≤ sh4 t := by unfold sh4; split <;> decide
      k_steps
      unfold Hold
      refine tail_any hd1.typeIs slot_dict_getitem.lookup (wpAny_getItem_of (strKind_is _ _ _ _) hd1.mapOf hd2 ?_) (by with_unfolding_all rfl)
      k_steps
      unfold Hold
      refine item_tupleT (l := [.int (sh4 t) aa, .int nn bb]) (j := 0) hd3 (by decide) (by decide) rfl rfl ?_
      k_steps
      · rename_i hne
        refine absurd ((hval i hilt).trans ?_) hne
        exact (getD_last (ownV (ws.map (·.2)) t (c i) V) (List.cons_ne_nil _ _)).symm
      · refine TurnEnd.next (news' := (L + 2, oT) :: (L + 3, o4) :: tl) F9 (fun q hq => ?_) (fun q hq => ?_) ⟨fun z hz => ?_, o4, _, rfl, hIx⟩
        · rcases List.mem_append.mp hq with hq | hq
          · exact N9 _ (.tail _ (.tail _ (.tail _ (.tail _ (.tail _ (by rw [hOT]; exact List.mem_append_left _ hq))))))
          · rcases List.mem_cons.mp hq with rfl | hq
            · exact N9 _ (.tail _ (.tail _ (.tail _ (.head _))))
            · rcases List.mem_cons.mp hq with rfl | hq
              · exact N9 _ (.tail _ (.tail _ (.tail _ (.tail _ (.head _)))))
              · exact N9 _ (.tail _ (.tail _ (.tail _ (.tail _ (.tail _ (sub _ hq))))))
        · rcases List.mem_cons.mp hq with rfl | hq
          · exact hI (L + 2, oT) (.head _)
          · rcases List.mem_cons.mp hq with rfl | hq
            · exact hI (L + 3, oI') (.tail _ (.head _))
            · exact hI q (.tail _ (.tail _ hq))
        · have hz2 := hz
          simp only [List.contains_cons, List.contains_nil, Bool.or_false, beq_eq_false_iff_ne, ne_eq] at hz
          simp only [if_neg hz, hz2]
          simp
    · rintro j ys nx v I2 oI2 C2 oC2 D2 m₂ h6 tk6 E' hj ⟨rfl, hys⟩ hv2 hC2 hx2 F6 N6 hoff6 hne6
      clear N3 F3
      have hv3 : (ws.map fun p => Value.ref p.1)[j]? = some v := by simpa using hv2
      rw [List.getElem?_map] at hv3
      obtain ⟨⟨xw, uw⟩, hpw, rfl⟩ := Option.map_eq_some_iff.mp hv3
      obtain ⟨dx, od, w1, w2, esw, nw2, t1, t2, t3, t4, rfl, w4, w5, w6, w7, w8⟩ := (hws _ (List.mem_of_getElem? hpw)).sub sub
      dsimp only at w1 w2 w4 w5 w6 w7
      clear hv2 hv3
      have hsrc : LCg.SrcAt g wl (ws.map fun p => Value.ref p.1).toArray ((LD, listOf #[.int V tv] 0) :: (L + 2, oT) :: (L + 1 + 1 + 1, o4) :: OT) := .inr ⟨_, .tail _ (.tail _ (.tail _ a3)), hwc, _, hwd⟩
      have htk : (ws.take (j + 1)).map (·.2) = (ws.take j).map (·.2) ++ [uw] := by rw [List.take_add_one, hpw, List.map_append]; rfl
      k_steps
      · rename_i e1 e2 e3
        unfold Hold
        refine LCg.CompEnd.intro F6 N6 _ (fun _ h => h) hoff6 hsrc ⟨rfl, ?_⟩
        have e1' := eq_of_beq e1
        rw [htk, List.filter_append, List.map_append]
        simp only [List.filter_cons, List.filter_nil, e1', e2, e3, decide_true, Bool.and_self, if_true, List.map_cons, List.map_nil]
        exact ints_snoc hys
      · rename_i e1 e2 e3
        unfold Hold
        refine LCg.CompEnd.intro F6 N6 _ (fun _ h => h) hoff6 hsrc ⟨rfl, ?_⟩
        rw [htk, List.filter_append, List.map_append]
        simpa only [List.filter_cons, List.filter_nil, e3, decide_false, Bool.and_false, Bool.false_eq_true, if_false, List.map_nil, List.append_nil] using hys
      · rename_i e1 e2
        unfold Hold
        refine LCg.CompEnd.intro F6 N6 _ (fun _ h => h) hoff6 hsrc ⟨rfl, ?_⟩
        rw [htk, List.filter_append, List.map_append]
        simpa only [List.filter_cons, List.filter_nil, e2, decide_false, Bool.false_and, Bool.and_false, Bool.false_eq_true, if_false, List.map_nil, List.append_nil] using hys
      · rename_i e1
        unfold Hold
        refine LCg.CompEnd.intro F6 N6 _ (fun _ h => h) hoff6 hsrc ⟨rfl, ?_⟩
        have e1' : ¬ tagS uw.t = tag4 t := fun q => by rw [q] at e1; simp at e1
        rw [htk, List.filter_append, List.map_append]
        simpa only [List.filter_cons, List.filter_nil, e1', decide_false, Bool.false_and, Bool.false_eq_true, if_false, List.map_nil, List.append_nil] using hys
  · rintro u nx h tk ⟨oI', vi', rfl, hId'⟩ F1 N1
    exact k u h tk oI' vi' F1 N1 hId'
end


-- part PBw7

def valV : Nat → Int
  | 0 => 5
  | 1 => 0
  | 2 => 2
  | _ => 1
noncomputable abbrev lawTgt : Expr := (⟨Expr.Tuple _ _ _, rfl⟩ : { x : Expr // (match lawS7 with | .For t _ _ _ _ => some t | _ => none) = some x }).1
theorem shape7 {g h : Heap} {L : Addr} {a b c d e x y : Addr × Obj} {rest : List (Addr × Obj)} (N : News g L h (a :: b :: c :: d :: e :: x :: y :: rest)) : News g L h (x :: y :: a :: b :: c :: d :: e :: rest) := fun q hq => N q (by
  simp only [List.mem_cons] at hq ⊢
  rcases hq with h | h | h | h | h | h | h | h
  · exact .inr (.inr (.inr (.inr (.inr (.inl h)))))
  · exact .inr (.inr (.inr (.inr (.inr (.inr (.inl h))))))
  · exact .inl h
  · exact .inr (.inl h)
  · exact .inr (.inr (.inl h))
  · exact .inr (.inr (.inr (.inl h)))
  · exact .inr (.inr (.inr (.inr (.inl h))))
  · exact .inr (.inr (.inr (.inr (.inr (.inr (.inr h)))))))

section
variable {w : World} {mean : ExcName → Option Value} {mg mb : Str → Option Value} {dp un : Nat} {gd : Option (List Code)} {L fa : Addr} {cdv : Value} {outer : List Env} {A₀ : Around} {base g : Heap} {m : Str → Option Value} {s : Shared} {Q : Flow → Shared → Prop}

end

theorem turnPBw7 : True ∧ True := by
  w_top off
  first | (walk1; all_goals trivial) | exact ⟨trivial, trivial⟩

section
local macro_rules | `(tactic| walk_at "exec For Tuple Tuple cons nil") => `(tactic| (k_here; (rename Fr _ _ _ _ => lF'); (with_unfolding_all refine' For_turns lF' ?_; k_whole)))
section
local macro_rules | `(tactic| walk_at "exec For Name Attribute cons nil") => `(tactic| (refine hold_of ?_))
section
variable {w : World} {mean : ExcName → Option Value} {mg mb : Str → Option Value} {dp un : Nat} {gd : Option (List Code)} {L fa : Addr} {cdv : Value} {outer : List Env} {A₀ : Around} {base g : Heap} {m : Str → Option Value} {s : Shared} {Q : Flow → Shared → Prop}
theorem s7_turns {b md wl r bd D D1 D2 D3 D4 : Addr} {es : List DictEntry} {nb nr nw nD : Nat} {oT oI ol ow : Obj} {vt vi : Option Value} {ids : List (Addr × Addr)} {ws : List (Addr × Wsh)} {c M : Nat → Int} {R : List (Addr × Obj)} {t1 u1 t2 u2 t3 u3 t4 u4 : Tok} (B : Below A₀ base outer g) (X : Frag.In (hd.heap_39 w.params) g) (T : Top hd.view_39 (looseW hd.view_39 [Str.ofString "Plan"]) mean mg mb g) (hd : dp + 60 < recursionLimit) (hu : un + 200 < cLine)
    (F : Fr g L s.heap m)
    (hm1 : m (Str.ofString "buffer") = some (.ref b)) (hm2 : m (Str.ofString "wishes") = some (.ref wl)) (hm3 : m (Str.ofString "masks") = some (.ref md))
    (N : News g L s.heap ((L + 2, oT) :: (L + 3, oI) :: R)) (hTd : oT.data = .cell vt) (hId : oI.data = .cell vi) (ho2 : ∀ q ∈ R, q.1 ≠ L + 2) (ho3 : ∀ q ∈ R, q.1 ≠ L + 3)
    (hD : (D, ({ cls := .type "tuple", data := .seq #[.ref D1, .ref D2, .ref D3, .ref D4] nD } : Obj)) ∈ R)
    (h1 : (D1, ({ cls := .type "tuple", data := .seq #[.str (Str.ofString "aalt") t1, .int 5 u1] } : Obj)) ∈ R) (h2 : (D2, ({ cls := .type "tuple", data := .seq #[.str (Str.ofString "salt") t2, .int 0 u2] } : Obj)) ∈ R)
    (h3 : (D3, ({ cls := .type "tuple", data := .seq #[.str (Str.ofString "ss01") t3, .int 2 u3] } : Obj)) ∈ R) (h4 : (D4, ({ cls := .type "tuple", data := .seq #[.str (Str.ofString "liga") t4, .int 1 u4] } : Obj)) ∈ R)
    (hb : (b, instObj 180 bd) ∈ R) (hbd : (bd, dictOf es nb) ∈ R) (hrow : getL (Str.ofString "row") es = some (some (.ref r))) (hrl : (r, ol) ∈ R) (hrc : ol.cls = .type "list") (hrd : ol.data = .seq (ids.map fun p => Value.ref p.1).toArray nr) (hids : ∀ p ∈ ids, (p.1, instObj 125 p.2) ∈ R)
    (hinf : ∀ j p, ids[j]? = some p → ∃ o, (p.2, o) ∈ R ∧ InfoD o (c j) (M j)) (hlen : ids.length ≤ 100)
    (hwl : (wl, ow) ∈ R) (hwc : ow.cls = .type "list") (hwd : ow.data = .seq (ws.map fun p => Value.ref p.1).toArray nw) (hws : ∀ p ∈ ws, WishL R p.1 p.2) (hlenw : ws.length ≤ 100) (hmd : ∃ G, (∀ a o, G.get? a = some o → (a, o) ∈ R) ∧ MasksAt w G md)
    (hval : ∀ t, t < 4 → ∀ j, j < ids.length → (Builtin.bitAnd (M j) (mv4 t)).fdiv (2 ^ (sh4 t).toNat) = (ownV (ws.map (·.2)) t (c j) (valV t)).getLastD 0)
    (k : ∀ (u : Str → Option Value) h' tk' oT' oI' , Fr g L h' (fun y => if [Str.ofString "value", Str.ofString "own"].contains y then u y else m y) → News g L h' ((L + 2, oT') :: (L + 3, oI') :: R) → Q .next { s with heap := h', toks := tk' }) :
    wpAny (model PySem.Challenge.rw_pb0168_01.row.prog w) (ktrTop dp un gd (Str.ofString "law") lawScope L fa cdv (cellsFrom (L + 1) lawScope.names []) outer) (pyIter (.ref D)) (fun it s₂ => TurnsAt PySem.Challenge.rw_pb0168_01.row.prog w (ktrTop dp un gd (Str.ofString "law") lawScope L fa cdv (cellsFrom (L + 1) lawScope.names []) outer) g (envOfC (Str.ofString "law") lawScope L fa cdv) lawTgt [lawIn] Q (fun _ _ => False) it s₂) (fun _ _ => False) s := by
  revert X
  k_fill
  intro X
  obtain ⟨m0, rfl⟩ : ∃ m', m = fun z => if z = Str.ofString "buffer" then some (.ref b) else m' z := ⟨m, map_is hm1⟩
  clear hm1
  replace hm2 : m0 (Str.ofString "wishes") = some (.ref wl) := hm2
  replace hm3 : m0 (Str.ofString "masks") = some (.ref md) := hm3
  obtain ⟨m1, rfl⟩ : ∃ m', m0 = fun z => if z = Str.ofString "wishes" then some (.ref wl) else m' z := ⟨m0, map_is hm2⟩
  clear hm2
  replace hm3 : m1 (Str.ofString "masks") = some (.ref md) := hm3
  obtain ⟨m2, rfl⟩ : ∃ m', m1 = fun z => if z = Str.ofString "masks" then some (.ref md) else m' z := ⟨m1, map_is hm3⟩
  clear hm3
  refine turns_tup (fun i m' nx => (∀ z, [Str.ofString "value", Str.ofString "own"].contains z = false → m' z = (fun z => if z = Str.ofString "buffer" then some (.ref b) else (fun z => if z = Str.ofString "wishes" then some (.ref wl) else (fun z => if z = Str.ofString "masks" then some (.ref md) else m2 z) z) z) z) ∧ ∃ oT' oI' vt' vi', nx = (L + 2, oT') :: (L + 3, oI') :: R ∧ oT'.data = .cell vt' ∧ oI'.data = .cell vi') rfl ⟨_, (N _ (.tail _ (.tail _ hD))).1, rfl, _, rfl⟩ (N _ (.tail _ (.tail _ hD))).2.1 F N ⟨fun _ _ => rfl, _, _, _, _, rfl, hTd, hId⟩ ?_ ?_
  · rintro i v m₁ nx h tk own I hv ⟨hm, oT', oI', vt', vi', rfl, hTd', hId'⟩ ho hIo hI F1 N1
    clear N F
    rw [map_form3 hm] at F1
    obtain ⟨OT, hOT⟩ : ∃ OT, OT = own ++ R := ⟨_, rfl⟩
    have sub : ∀ q ∈ R, q ∈ OT := fun q hq => by rw [hOT]; exact List.mem_append_right _ hq
    have ho2' : ∀ q ∈ OT, q.1 ≠ L + 2 := fun q hq => by
      rw [hOT] at hq
      rcases List.mem_append.mp hq with hq | hq
      · rcases ho q hq with e | e
        · rw [e]; exact Ne.symm (hI (L + 2, oT') (.head _))
        · rw [e]; exact ho2 _ hD
      · exact ho2 q hq
    have ho3' : ∀ q ∈ OT, q.1 ≠ L + 3 := fun q hq => by
      rw [hOT] at hq
      rcases List.mem_append.mp hq with hq | hq
      · rcases ho q hq with e | e
        · rw [e]; exact Ne.symm (hI (L + 3, oI') (.tail _ (.head _)))
        · rw [e]; exact ho3 _ hD
      · exact ho3 q hq
    have N2 : News g L h ((L + 2, oT') :: (L + 3, oI') :: OT) := fun q hq => by
      rcases List.mem_cons.mp hq with rfl | hq
      · exact N1 _ (List.mem_append_right _ (.head _))
      · rcases List.mem_cons.mp hq with rfl | hq
        · exact N1 _ (List.mem_append_right _ (.tail _ (.head _)))
        · rw [hOT] at hq
          rcases List.mem_append.mp hq with hq | hq
          · exact N1 _ (List.mem_append_left _ hq)
          · exact N1 _ (List.mem_append_right _ (.tail _ (.tail _ hq)))
    clear N1
    have fin : ∀ (m' : Str → Option Value) h' tk' oT2 oI2 vt2 vi2, Fr g L h' m' → News g L h' ((L + 2, oT2) :: (L + 3, oI2) :: OT) → oT2.data = .cell vt2 → oI2.data = .cell vi2 → (∀ z, [Str.ofString "value", Str.ofString "own"].contains z = false → m' z = (fun z => if z = Str.ofString "buffer" then some (.ref b) else (fun z => if z = Str.ofString "wishes" then some (.ref wl) else (fun z => if z = Str.ofString "masks" then some (.ref md) else m2 z) z) z) z) →
        TurnEnd g L s own I (fun m' nx => (∀ z, [Str.ofString "value", Str.ofString "own"].contains z = false → m' z = (fun z => if z = Str.ofString "buffer" then some (.ref b) else (fun z => if z = Str.ofString "wishes" then some (.ref wl) else (fun z => if z = Str.ofString "masks" then some (.ref md) else m2 z) z) z) z) ∧ ∃ oT' oI' vt' vi', nx = (L + 2, oT') :: (L + 3, oI') :: R ∧ oT'.data = .cell vt' ∧ oI'.data = .cell vi') Q .next { s with heap := h', toks := tk' } := fun m' h' tk' oT2 oI2 vt2 vi2 F' N' d1 d2 hz => by
      refine TurnEnd.next (news' := (L + 2, oT2) :: (L + 3, oI2) :: R) F' (fun q hq => ?_) (fun q hq => ?_) ⟨hz, _, _, _, _, rfl, d1, d2⟩
      · rcases List.mem_append.mp hq with hq | hq
        · exact N' _ (.tail _ (.tail _ (by rw [hOT]; exact List.mem_append_left _ hq)))
        · rcases List.mem_cons.mp hq with rfl | hq
          · exact N' _ (.head _)
          · rcases List.mem_cons.mp hq with rfl | hq
            · exact N' _ (.tail _ (.head _))
            · exact N' _ (.tail _ (.tail _ (sub _ hq)))
      · rcases List.mem_cons.mp hq with rfl | hq
        · exact hI (L + 2, oT') (.head _)
        · rcases List.mem_cons.mp hq with rfl | hq
          · exact hI (L + 3, oI') (.tail _ (.head _))
          · exact hI q (.tail _ (.tail _ hq))
    have hi : i < 4 := by
      obtain ⟨hi, _⟩ := Array.getElem?_eq_some_iff.mp hv
      simpa using hi
    rcases (by omega : i = 0 ∨ i = 1 ∨ i = 2 ∨ i = 3) with rfl | rfl | rfl | rfl
    · have hv' := Option.some.inj (show some (Value.ref D1) = some v from hv)
      subst hv'
      have a1 := sub _ h1
      k_steps
      rename_i hA oA FA NA dA hB FB NB
      unfold Hold
      refine law_in (t := 0) B X T hd hu FB rfl rfl rfl rfl (by decide) NB dA hId' ho2' ho3' (sub _ hb) (sub _ hbd) hrow (sub _ hrl) hrc hrd (fun p hp => sub _ (hids p hp)) (fun j p hp => by obtain ⟨o, q1, q2⟩ := hinf j p hp; exact ⟨o, sub _ q1, q2⟩) hlen (sub _ hwl) hwc hwd (fun p hp => (hws p hp).sub sub) hlenw (by obtain ⟨G, g1, g2⟩ := hmd; exact ⟨G, fun a o e => sub _ (g1 a o e), g2⟩) (hval 0 (by decide)) ?_
      intro u2 h8 tk8 o8 v8 F8 N8 d8
      k_steps
      exact fin _ _ _ _ _ _ _ F8 N8 dA d8 fun z hz => by
        have hz2 := hz
        simp only [List.contains_cons, List.contains_nil, Bool.or_false, Bool.or_eq_false_iff, beq_eq_false_iff_ne, ne_eq] at hz
        simp only [List.contains_cons, List.contains_nil, Bool.or_false, beq_eq_false_iff_ne.mpr hz.2, Bool.false_eq_true, if_false, if_neg hz.1, hz2]
    · have hv' := Option.some.inj (show some (Value.ref D2) = some v from hv)
      subst hv'
      have a1 := sub _ h2
      k_steps
      rename_i hA oA FA NA dA hB FB NB
      unfold Hold
      refine law_in (t := 1) B X T hd hu FB rfl rfl rfl rfl (by decide) NB dA hId' ho2' ho3' (sub _ hb) (sub _ hbd) hrow (sub _ hrl) hrc hrd (fun p hp => sub _ (hids p hp)) (fun j p hp => by obtain ⟨o, q1, q2⟩ := hinf j p hp; exact ⟨o, sub _ q1, q2⟩) hlen (sub _ hwl) hwc hwd (fun p hp => (hws p hp).sub sub) hlenw (by obtain ⟨G, g1, g2⟩ := hmd; exact ⟨G, fun a o e => sub _ (g1 a o e), g2⟩) (hval 1 (by decide)) ?_
      intro u2 h8 tk8 o8 v8 F8 N8 d8
      k_steps
      exact fin _ _ _ _ _ _ _ F8 N8 dA d8 fun z hz => by
        have hz2 := hz
        simp only [List.contains_cons, List.contains_nil, Bool.or_false, Bool.or_eq_false_iff, beq_eq_false_iff_ne, ne_eq] at hz
        simp only [List.contains_cons, List.contains_nil, Bool.or_false, beq_eq_false_iff_ne.mpr hz.2, Bool.false_eq_true, if_false, if_neg hz.1, hz2]
    · have hv' := Option.some.inj (show some (Value.ref D3) = some v from hv)
      subst hv'
      have a1 := sub _ h3
      k_steps
      rename_i hA oA FA NA dA hB FB NB
      unfold Hold
      refine law_in (t := 2) B X T hd hu FB rfl rfl rfl rfl (by decide) NB dA hId' ho2' ho3' (sub _ hb) (sub _ hbd) hrow (sub _ hrl) hrc hrd (fun p hp => sub _ (hids p hp)) (fun j p hp => by obtain ⟨o, q1, q2⟩ := hinf j p hp; exact ⟨o, sub _ q1, q2⟩) hlen (sub _ hwl) hwc hwd (fun p hp => (hws p hp).sub sub) hlenw (by obtain ⟨G, g1, g2⟩ := hmd; exact ⟨G, fun a o e => sub _ (g1 a o e), g2⟩) (hval 2 (by decide)) ?_
      intro u2 h8 tk8 o8 v8 F8 N8 d8
      k_steps
      exact fin _ _ _ _ _ _ _ F8 N8 dA d8 fun z hz => by
        have hz2 := hz
        simp only [List.contains_cons, List.contains_nil, Bool.or_false, Bool.or_eq_false_iff, beq_eq_false_iff_ne, ne_eq] at hz
        simp only [List.contains_cons, List.contains_nil, Bool.or_false, beq_eq_false_iff_ne.mpr hz.2, Bool.false_eq_true, if_false, if_neg hz.1, hz2]
    · have hv' := Option.some.inj (show some (Value.ref D4) = some v from hv)
      subst hv'
      have a1 := sub _ h4
      k_steps
      rename_i hA oA FA NA dA hB FB NB
      unfold Hold
      refine law_in (t := 3) B X T hd hu FB rfl rfl rfl rfl (by decide) NB dA hId' ho2' ho3' (sub _ hb) (sub _ hbd) hrow (sub _ hrl) hrc hrd (fun p hp => sub _ (hids p hp)) (fun j p hp => by obtain ⟨o, q1, q2⟩ := hinf j p hp; exact ⟨o, sub _ q1, q2⟩) hlen (sub _ hwl) hwc hwd (fun p hp => (hws p hp).sub sub) hlenw (by obtain ⟨G, g1, g2⟩ := hmd; exact ⟨G, fun a o e => sub _ (g1 a o e), g2⟩) (hval 3 (by decide)) ?_
      intro u2 h8 tk8 o8 v8 F8 N8 d8
      k_steps
      exact fin _ _ _ _ _ _ _ F8 N8 dA d8 fun z hz => by
        have hz2 := hz
        simp only [List.contains_cons, List.contains_nil, Bool.or_false, Bool.or_eq_false_iff, beq_eq_false_iff_ne, ne_eq] at hz
        simp only [List.contains_cons, List.contains_nil, Bool.or_false, beq_eq_false_iff_ne.mpr hz.2, Bool.false_eq_true, if_false, if_neg hz.1, hz2]
  · rintro m₁ nx h tk ⟨hm, oT', oI', vt', vi', rfl, hTd', hId'⟩ F1 N1
    rw [map_form3 hm] at F1
    exact k m₁ h tk oT' oI' F1 N1
end


-- part PBw8

section
variable {w : World} {mean : ExcName → Option Value} {mg mb : Str → Option Value} {dp un : Nat} {gd : Option (List Code)} {L fa : Addr} {cdv : Value} {outer : List Env} {A₀ : Around} {base g : Heap} {m : Str → Option Value} {s : Shared} {Q : Flow → Shared → Prop}

end
end
end

theorem turnPBw8 : True ∧ True := by
  w_top off
  first | (walk1; all_goals trivial) | exact ⟨trivial, trivial⟩

section
local macro_rules | `(tactic| walk_at "exec For Tuple Tuple cons nil") => `(tactic| (k_here; (rename Fr _ _ _ _ => lF'); (with_reducible refine' For_turns lF' ?_ ?kf1 ?kf2); (case kf1 => (with_unfolding_all (intro _; rfl))); (case kf2 => (with_unfolding_all passes_own)); k_whole))
section
local macro_rules | `(tactic| walk_at "exec For Name Attribute cons nil") => `(tactic| (refine hold_of ?_))
section
variable {w : World} {mean : ExcName → Option Value} {mg mb : Str → Option Value} {dp un : Nat} {gd : Option (List Code)} {L fa : Addr} {cdv : Value} {outer : List Env} {A₀ : Around} {base g : Heap} {m : Str → Option Value} {s : Shared} {Q : Flow → Shared → Prop}
theorem law_s7 {S : Stmt} {b md wl : Addr} {oT oI : Obj} {vt vi : Option Value} {ids : List (Addr × Addr)} {ws : List (Addr × Wsh)} {c M : Nat → Int} (B : Below A₀ base outer g) (X : Frag.In (hd.heap_39 w.params) g) (T : Top hd.view_39 (looseW hd.view_39 [Str.ofString "Plan"]) mean mg mb g) (hd : dp + 60 < recursionLimit) (hu : un + 200 < cLine) (hS : S = lawS7)
    (F : Fr g L s.heap m) (hm1 : m (Str.ofString "buffer") = some (.ref b)) (hm2 : m (Str.ofString "wishes") = some (.ref wl)) (hm3 : m (Str.ofString "masks") = some (.ref md))
    (hT : s.heap.get? (L + 2) = some oT) (hTd : oT.data = .cell vt) (hI : s.heap.get? (L + 3) = some oI) (hId : oI.data = .cell vi)
    (hB : BufAt (Nh g s.heap [L, L + 2, L + 3]) b ids) (hW : WishesAt (Nh g s.heap [L, L + 2, L + 3]) wl ws) (hlen : ids.length ≤ 100) (hlenw : ws.length ≤ 100) (hmd : MasksAt w (Nh g s.heap [L, L + 2, L + 3]) md)
    (hinf : ∀ j p, ids[j]? = some p → ∃ o, (Nh g s.heap [L, L + 2, L + 3]).get? p.2 = some o ∧ InfoD o (c j) (M j))
    (hval : ∀ t, t < 4 → ∀ j, j < ids.length → (Builtin.bitAnd (M j) (mv4 t)).fdiv (2 ^ (sh4 t).toNat) = (ownV (ws.map (·.2)) t (c j) (valV t)).getLastD 0)
    (k : ∀ (u : Str → Option Value) h' tk', Fr g L h' (fun y => if [Str.ofString "value", Str.ofString "own"].contains y then u y else m y) → Imm [L, L + 2, L + 3] s.heap h' → Q .next { s with heap := h', toks := tk' }) :
    wpAny (model PySem.Challenge.rw_pb0168_01.row.prog w) (ktrTop dp un gd (Str.ofString "law") lawScope L fa cdv (cellsFrom (L + 1) lawScope.names []) outer) (exec S (envOfC (Str.ofString "law") lawScope L fa cdv)) Q (fun _ _ => False) s := by
  subst hS
  revert X
  k_fill
  intro X
  try k_fold
  obtain ⟨rest, N0, hno, hr⟩ := rest_ex g L s.heap [L, L + 2, L + 3]
  have hF0 : ∃ m0', Fr g L s.heap m0' := ⟨_, F⟩
  have fresh : ∀ i, g.get? (L + i) = none := fun i => Heap.get?_none_of_le (Nat.le_trans F.above (Nat.le_add_right _ _))
  have N : News g L s.heap ((L + 2, oT) :: (L + 3, oI) :: rest) := news_cons (news_cons N0 hI (addr_ne (by omega)) (fresh 3)) hT (addr_ne (by omega)) (fresh 2)
  clear N0
  have no2 : ∀ q ∈ rest, q.1 ≠ L + 2 := fun q hq e => hno q hq (by rw [e]; simp)
  have no3 : ∀ q ∈ rest, q.1 ≠ L + 3 := fun q hq e => hno q hq (by rw [e]; simp)
  have mem : ∀ {a : Addr} {o : Obj}, (Nh g s.heap [L, L + 2, L + 3]).get? a = some o → (a, o) ∈ rest := fun {a o} e => by
    obtain ⟨e1, e2, e3⟩ := of_nh e
    exact hr _ _ e1 e2 (fun q => e3 (by rw [q]; exact .head _)) e3
  k_steps
  unfold Hold
  rename_i D1 h1 l1 D2 h2 l2 D3 h3 l3 D4 h4 l4 D h5 F5 N5 l5
  obtain ⟨bd, es, nb, r, b1, b2, b3, ⟨ol, b4, b4c, nr, b4d⟩, b5⟩ := hB.is
  obtain ⟨⟨owl, w1, w1c, nw, w1d⟩, w2⟩ := hW
  have u5 : ∀ {q x1 x2 x3 x4 x5 : Addr × Obj}, q ∈ rest → q ∈ x1 :: x2 :: x3 :: x4 :: x5 :: rest := fun hq => .tail _ (.tail _ (.tail _ (.tail _ (.tail _ hq))))
  refine s7_turns B X T hd hu F5 hm1 hm2 hm3 (shape7 N5) hTd hId (fun q hq => ?_) (fun q hq => ?_) (.head _) (.tail _ (.tail _ (.tail _ (.tail _ (.head _))))) (.tail _ (.tail _ (.tail _ (.head _)))) (.tail _ (.tail _ (.head _))) (.tail _ (.head _))
    (u5 (mem b1)) (u5 (mem b2)) b3 (u5 (mem b4)) b4c b4d (fun p hp => u5 (mem (b5 p hp))) (fun j p hp => by obtain ⟨o, q1, q2⟩ := hinf j p hp; exact ⟨o, u5 (mem q1), q2⟩) hlen (u5 (mem w1)) w1c w1d (fun p hp => ?_) hlenw ⟨_, fun a o e => u5 (mem e), hmd⟩ hval ?_
  · simp only [List.mem_cons] at hq
    rcases hq with rfl | rfl | rfl | rfl | rfl | hq
    · exact Nat.ne_of_gt l5.2.2.2.2.1
    · exact Nat.ne_of_gt l4.2.2.2.1
    · exact Nat.ne_of_gt l3.2.2.1
    · exact Nat.ne_of_gt l2.2.1
    · exact Nat.ne_of_gt l1.1
    · exact no2 q hq
  · simp only [List.mem_cons] at hq
    rcases hq with rfl | rfl | rfl | rfl | rfl | hq
    · exact Nat.ne_of_gt l5.2.2.2.2.2.1
    · exact Nat.ne_of_gt l4.2.2.2.2.1
    · exact Nat.ne_of_gt l3.2.2.2.1
    · exact Nat.ne_of_gt l2.2.2.1
    · exact Nat.ne_of_gt l1.2.1
    · exact no3 q hq
  · obtain ⟨dx, es2, n2, t1, t2, t3, t4, a1, a2, a3⟩ := (w2 p hp).is
    exact ⟨dx, _, u5 (mem a1), u5 (mem a2), es2, n2, t1, t2, t3, t4, rfl, a3⟩
  · intro u h' tk' oT' oI' F' N'
    obtain ⟨m0', F0⟩ := hF0
    exact k u h' tk' F' (Imm.of F0 F' (fun q hq => N' _ (.tail _ (.tail _ (u5 hq)))) (.head _) hr)
end


-- part PBw9

noncomputable abbrev lawIfA : Stmt := (⟨Stmt.If _ _ _ _, rfl⟩ : { x : Stmt // (match lawS11 with | .For _ _ b _ _ => b[2]? | _ => none) = some x }).1
noncomputable abbrev lawIfB : Stmt := (⟨Stmt.If _ _ _ _, rfl⟩ : { x : Stmt // (match lawS11 with | .For _ _ b _ _ => b[3]? | _ => none) = some x }).1
def ListR (R : List (Addr × Obj)) (l : Addr) (its : List Value) : Prop := ∃ o n, (l, o) ∈ R ∧ o.cls = .type "list" ∧ o.data = .seq its.toArray n
theorem ListR.at {R : List (Addr × Obj)} {l : Addr} {its : List Value} {h : Heap} (x : ListR R l its) (k : ∀ q ∈ R, h.get? q.1 = some q.2) : h.IsList l its.toArray := by
  obtain ⟨o, n, a, b, c⟩ := x
  exact ⟨o, k _ a, b, n, c⟩
def RowsR (R : List (Addr × Obj)) (rl : Addr) (rs : List (Addr × Int × Int)) : Prop := ListR R rl (rs.map fun p => Value.ref p.1) ∧ ∀ p ∈ rs, ∃ o t1 t2 n, (p.1, o) ∈ R ∧ o.cls = .type "tuple" ∧ o.data = .seq #[.int p.2.1 t1, .int p.2.2 t2] n
theorem RowsR.at {R : List (Addr × Obj)} {rl : Addr} {rs : List (Addr × Int × Int)} {h : Heap} (x : RowsR R rl rs) (k : ∀ q ∈ R, h.get? q.1 = some q.2) : RowsAt h rl rs :=
  ⟨x.1.at k, fun p hp => by obtain ⟨o, t1, t2, n, a, b, c⟩ := x.2 p hp; exact ⟨t1, t2, o, k _ a, b, n, c⟩⟩
theorem WishL.at {R : List (Addr × Obj)} {x : Addr} {u : Wsh} {h : Heap} (y : WishL R x u) (k : ∀ q ∈ R, h.get? q.1 = some q.2) : WishAt h x u := by
  obtain ⟨dx, od, a, b, es, n, t1, t2, t3, t4, rfl, c⟩ := y
  exact ⟨dx, es, n, t1, t2, t3, t4, k _ a, k _ b, c⟩
theorem ListR.sub {R R' : List (Addr × Obj)} {l : Addr} {its : List Value} (x : ListR R l its) (k : ∀ q ∈ R, q ∈ R') : ListR R' l its := by
  obtain ⟨o, n, a, b, c⟩ := x
  exact ⟨o, n, k _ a, b, c⟩
theorem RowsR.sub {R R' : List (Addr × Obj)} {rl : Addr} {rs : List (Addr × Int × Int)} (x : RowsR R rl rs) (k : ∀ q ∈ R, q ∈ R') : RowsR R' rl rs :=
  ⟨x.1.sub k, fun p hp => by obtain ⟨o, t1, t2, n, a, b⟩ := x.2 p hp; exact ⟨o, t1, t2, n, k _ a, b⟩⟩
theorem pick_upto (vs : List Value) {y : Int} (h : 0 ≤ y) : slicePick vs.toArray none (some y) none = (vs.take y.toNat).toArray := by
  have e : sliceBounds none (some y) none vs.toArray.size = (((0 : Nat) : Int), ((min y.toNat vs.toArray.size : Nat) : Int), 1) := by
    simp only [sliceBounds, Option.getD_none, show (1 : Int) > 0 by decide, if_true, if_neg (show ¬ (y < 0) by omega)]
    congr 1
    congr 1
    omega
  rw [kmk_pick_nat _ e]
  show ((vs.drop 0).take (min y.toNat vs.toArray.size - 0)).toArray = _
  rw [List.drop_zero, Nat.sub_zero, List.size_toArray, kmk_take_min]
theorem pick_from (vs : List Value) {x : Int} (h : 0 ≤ x) : slicePick vs.toArray (some x) none none = (vs.drop x.toNat).toArray := by
  have e : sliceBounds (some x) none none vs.toArray.size = (((min x.toNat vs.toArray.size : Nat) : Int), ((vs.toArray.size : Nat) : Int), 1) := by
    simp only [sliceBounds, Option.getD_none, show (1 : Int) > 0 by decide, if_true, if_neg (show ¬ (x < 0) by omega)]
    congr 1
    omega
  rw [kmk_pick_nat _ e]
  show ((vs.drop (min x.toNat vs.toArray.size)).take (vs.toArray.size - min x.toNat vs.toArray.size)).toArray = _
  rw [List.size_toArray, kmk_drop_min, List.take_of_length_le (by rw [List.length_drop]; omega)]
theorem fr_form {g h : Heap} {L : Addr} {stored : List Str} {m₀ m₁ : Str → Option Value} (F : Fr g L h m₁) (hm : ∀ z, stored.contains z = false → m₁ z = m₀ z) : Fr g L h (fun y => if stored.contains y then m₁ y else m₀ y) := by
  rw [← map_form3 hm]; exact F

noncomputable abbrev lawIn1 : Stmt := (⟨Stmt.If _ _ _ _, rfl⟩ : { x : Stmt // (match lawIfA with | .If _ b _ _ => b[1]? | _ => none) = some x }).1
noncomputable abbrev lawIn2 : Stmt := (⟨Stmt.If _ _ _ _, rfl⟩ : { x : Stmt // (match lawIfB with | .If _ b _ _ => b[0]? | _ => none) = some x }).1

section
variable {w : World} {mean : ExcName → Option Value} {mg mb : Str → Option Value} {dp un : Nat} {gd : Option (List Code)} {L fa : Addr} {cdv : Value} {outer : List Env} {A₀ : Around} {base g : Heap} {m : Str → Option Value} {s : Shared} {Q : Flow → Shared → Prop}

end
end
end
end
end
end
end

theorem turnPBw9 : True ∧ True := by
  w_top off
  first | (walk1; all_goals trivial) | exact ⟨trivial, trivial⟩

section
variable {w : World} {mean : ExcName → Option Value} {mg mb : Str → Option Value} {dp un : Nat} {gd : Option (List Code)} {L fa : Addr} {cdv : Value} {outer : List Env} {A₀ : Around} {base g : Heap} {m : Str → Option Value} {s : Shared} {Q : Flow → Shared → Prop}
theorem law_in1 {rl wl hl lp x1 x2 : Addr} {rs : List (Addr × Int × Int)} {ws : List (Addr × Wsh)} {u1 u2 : Wsh} {M : Nat → Int} {vs : List Value} {n i : Nat} {ti : Tok} {R : List (Addr × Obj)} (B : Below A₀ base outer g) (X : Frag.In (hd.heap_39 w.params) g) (T : Top hd.view_39 (looseW hd.view_39 [Str.ofString "Plan"]) mean mg mb g) (hd : dp + 60 < recursionLimit) (hu : un + 200 < cLine)
    (F : Fr g L s.heap m) (N : News g L s.heap R)
    (hm1 : m (Str.ofString "rows") = some (.ref rl)) (hm2 : m (Str.ofString "wishes") = some (.ref wl)) (hm3 : m (Str.ofString "held") = some (.ref hl)) (hm4 : m (Str.ofString "pieces") = some (.ref lp)) (hm5 : m (Str.ofString "at") = some (.int i ti))
    (hR : RowsR R rl rs) (hW : ListR R wl (ws.map fun p => Value.ref p.1)) (hws : ∀ p ∈ ws, p.2.ok ∧ WishL R p.1 p.2) (hrs : ∀ p ∈ rs, 0 ≤ p.2.2 ∧ p.2.2 < 4) (hlen : rs.length ≤ 100) (hlenw : ws.length ≤ 100) (hh : (hl, listOf vs.toArray n) ∈ R) (hhi : IntsAre vs ((List.range rs.length).map M)) (hp : ListR R lp [.ref x1, .ref x2]) (h1 : WishL R x1 u1) (h2 : WishL R x2 u2) (ok1 : u1.ok) (ok2 : u2.ok)
    (hM : ∀ j, j < rs.length → runW ((ws.map (·.2)).take i ++ [u1, u2] ++ (ws.map (·.2)).drop (i + 1)) (cOf rs j) (mOf rs j * 2 ^ 20) = M j)
    (k : ∀ h' tk', Fr g L h' m → News g L h' R → Q .next { s with heap := h', toks := tk' }) :
    wpAny (model PySem.Challenge.rw_pb0168_01.row.prog w) (ktrTop dp un gd (Str.ofString "law") lawScope L fa cdv (cellsFrom (L + 1) lawScope.names []) outer) (exec lawIn1 (envOfC (Str.ofString "law") lawScope L fa cdv)) Q (fun _ _ => False) s := by
  revert X
  k_fill
  intro X
  try k_fold
  obtain ⟨m0, rfl⟩ : ∃ m', m = fun z => if z = Str.ofString "rows" then some (.ref rl) else m' z := ⟨m, map_is hm1⟩
  clear hm1
  replace hm2 : m0 (Str.ofString "wishes") = some (.ref wl) := hm2
  replace hm3 : m0 (Str.ofString "held") = some (.ref hl) := hm3
  replace hm4 : m0 (Str.ofString "pieces") = some (.ref lp) := hm4
  obtain ⟨m1, rfl⟩ : ∃ m', m0 = fun z => if z = Str.ofString "wishes" then some (.ref wl) else m' z := ⟨m0, map_is hm2⟩
  clear hm2
  replace hm3 : m1 (Str.ofString "held") = some (.ref hl) := hm3
  replace hm4 : m1 (Str.ofString "pieces") = some (.ref lp) := hm4
  obtain ⟨m2, rfl⟩ : ∃ m', m1 = fun z => if z = Str.ofString "held" then some (.ref hl) else m' z := ⟨m1, map_is hm3⟩
  clear hm3
  replace hm4 : m2 (Str.ofString "pieces") = some (.ref lp) := hm4
  obtain ⟨m3, rfl⟩ : ∃ m', m2 = fun z => if z = Str.ofString "pieces" then some (.ref lp) else m' z := ⟨m2, map_is hm4⟩
  clear hm4
  replace hm5 : m3 (Str.ofString "at") = some (.int i ti) := hm5
  obtain ⟨m4, rfl⟩ : ∃ m', m3 = fun z => if z = Str.ofString "at" then some (.int i ti) else m' z := ⟨m3, map_is hm5⟩
  clear hm5
  k_steps
  unfold Hold
  refine kmk_slice F N (hW.at fun q hq => (N q hq).1) .none (.int i ti) ?_ (by with_unfolding_all rfl) (fun _ => rfl) (by simp; rw [sizeLine_eq]; omega)
  intro D1 h3 F3 N3 l3
  rw [pick_upto _ (by omega)] at N3
  clear F N
  k_steps
  unfold Hold
  refine kmk_add_lit F3 N3 ⟨_, (N3 _ (.head _)).1, rfl, _, rfl⟩ (hp.at fun q hq => (N3 q (.tail _ hq)).1) rfl ?_ (by simp; rw [sizeLine_eq]; omega)
  intro D2 h4 F4 N4 l4
  clear F3 N3
  k_steps
  unfold Hold
  refine kmk_slice F4 N4 (hW.at fun q hq => (N4 q (.tail _ (.tail _ hq))).1) (.int (i + 1 : Int) _) .none ?_ (by with_unfolding_all rfl) (fun _ => rfl) (by simp; rw [sizeLine_eq]; omega)
  intro D3 h5 F5 N5 l5
  rw [pick_from _ (by omega)] at N5
  clear F4 N4
  k_steps
  unfold Hold
  refine kmk_add_lit F5 N5 ⟨_, (N5 _ (.tail _ (.head _))).1, rfl, _, rfl⟩ ⟨_, (N5 _ (.head _)).1, rfl, _, rfl⟩ rfl ?_ (by simp; rw [sizeLine_eq]; omega)
  intro D4 h6 F6 N6 l6
  clear F5 N5
  k_steps
  unfold Hold
  have kR : ∀ q ∈ R, h6.get? q.1 = some q.2 := fun q hq => (N6 q (.tail _ (.tail _ (.tail _ (.tail _ hq))))).1
  obtain ⟨WS, hWS⟩ : ∃ WS, WS = ws.take i ++ [(x1, u1), (x2, u2)] ++ ws.drop (i + 1) := ⟨_, rfl⟩
  have hl6 : h6.IsList D4 (WS.map fun p => Value.ref p.1).toArray := by
    refine ⟨_, (N6 _ (.head _)).1, rfl, 0, ?_⟩
    show Data.seq _ _ = Data.seq _ _
    congr 1
    simp [hWS, List.map_append, List.map_take, List.map_drop, show ((i : Int) + 1).toNat = i + 1 by omega]
  have hwo : ∀ p ∈ WS, p.2.ok ∧ WishL R p.1 p.2 := fun p hp => by
    rw [hWS] at hp
    rcases List.mem_append.mp hp with hp | hp
    · rcases List.mem_append.mp hp with hp | hp
      · exact hws p (List.mem_of_mem_take hp)
      · simp only [List.mem_cons, List.not_mem_nil, or_false] at hp
        rcases hp with rfl | rfl
        · exact ⟨ok1, h1⟩
        · exact ⟨ok2, h2⟩
    · exact hws p (List.mem_of_mem_drop hp)
  refine use0 (laid_does w mean mg mb rl D4 rs WS (fun p hp => (hwo p hp).1) hrs hlen) B F6 N6 X T rfl (by walk_at "ROOM") (by walk_at "UNITS") ⟨hR.at kR, hl6, fun p hp => (hwo p hp).2.at kR⟩ ?_
  intro r h7 tk7 F7 N7 P7
  obtain ⟨b2, ids, rfl, p1, p2, ⟨G, p3, p4, p5⟩, p6⟩ := P7
  clear F6 N6
  k_steps
  unfold Hold
  refine use0 (masks_does w mean mg mb b2 ids (cOf rs) (fun j => runW (WS.map (·.2)) (cOf rs j) (mOf rs j * 2 ^ 20)) (by rw [p1]; exact hlen)) B F7 N7 X T rfl (by walk_at "ROOM") (by walk_at "UNITS") ⟨p5.keep fun a o e => (p3 a o e).1, fun j p hj => (p6 j p hj).2⟩ ?_
  intro r h8 tk8 F8 N8 P8
  obtain ⟨l, vs2, n2, rfl, q1, q2, q3⟩ := P8
  clear F7 N7
  have hM' : ∀ j ∈ List.range rs.length, runW (WS.map (·.2)) (cOf rs j) (mOf rs j * 2 ^ 20) = M j := fun j hj => by
    have := hM j (List.mem_range.mp hj)
    rw [← this, hWS]
    simp [List.map_append, List.map_take, List.map_drop]
  rw [p1, List.map_congr_left hM'] at q3
  k_steps
  unfold Hold
  refine ne_intsK ⟨_, q2, rfl, _, rfl⟩ q3 ⟨_, (N8 _ (.tail _ (.tail _ (.tail _ (.tail _ hh))))).1, rfl, _, rfl⟩ hhi (by walk_at "UNITS") ?_
  rw [decide_eq_true rfl]
  k_steps
  exact k _ _ F8 fun q hq => N8 q (.tail _ (.tail _ (.tail _ (.tail _ hq))))

theorem law_in2 {rl wl hl x y : Addr} {rs : List (Addr × Int × Int)} {ws : List (Addr × Wsh)} {u u' : Wsh} {M : Nat → Int} {vs : List Value} {n i : Nat} {ti : Tok} {R : List (Addr × Obj)} (B : Below A₀ base outer g) (X : Frag.In (hd.heap_39 w.params) g) (T : Top hd.view_39 (looseW hd.view_39 [Str.ofString "Plan"]) mean mg mb g) (hd : dp + 60 < recursionLimit) (hu : un + 200 < cLine)
    (F : Fr g L s.heap m) (N : News g L s.heap R)
    (hm1 : m (Str.ofString "rows") = some (.ref rl)) (hm2 : m (Str.ofString "wishes") = some (.ref wl)) (hm3 : m (Str.ofString "held") = some (.ref hl)) (hm4 : m (Str.ofString "wish") = some (.ref x)) (hm5 : m (Str.ofString "at") = some (.int i ti))
    (hR : RowsR R rl rs) (hW : ListR R wl (ws.map fun p => Value.ref p.1)) (hws : ∀ p ∈ ws, p.2.ok ∧ WishL R p.1 p.2) (hrs : ∀ p ∈ rs, 0 ≤ p.2.2 ∧ p.2.2 < 4) (hlen : rs.length ≤ 100) (hlenw : ws.length ≤ 100) (hh : (hl, listOf vs.toArray n) ∈ R) (hhi : IntsAre vs ((List.range rs.length).map M)) (hi : ws[i]? = some (x, u)) (hi0 : 0 < i) (hi' : ws[i - 1]? = some (y, u'))
    (hM : ∀ j, j < rs.length → runW ((ws.map (·.2)).take (i - 1) ++ [u, u'] ++ (ws.map (·.2)).drop (i + 1)) (cOf rs j) (mOf rs j * 2 ^ 20) = M j)
    (k : ∀ h' tk', Fr g L h' m → News g L h' R → Q .next { s with heap := h', toks := tk' }) :
    wpAny (model PySem.Challenge.rw_pb0168_01.row.prog w) (ktrTop dp un gd (Str.ofString "law") lawScope L fa cdv (cellsFrom (L + 1) lawScope.names []) outer) (exec lawIn2 (envOfC (Str.ofString "law") lawScope L fa cdv)) Q (fun _ _ => False) s := by
  revert X
  k_fill
  intro X
  try k_fold
  obtain ⟨m0, rfl⟩ : ∃ m', m = fun z => if z = Str.ofString "rows" then some (.ref rl) else m' z := ⟨m, map_is hm1⟩
  clear hm1
  replace hm2 : m0 (Str.ofString "wishes") = some (.ref wl) := hm2
  replace hm3 : m0 (Str.ofString "held") = some (.ref hl) := hm3
  replace hm4 : m0 (Str.ofString "wish") = some (.ref x) := hm4
  obtain ⟨m1, rfl⟩ : ∃ m', m0 = fun z => if z = Str.ofString "wishes" then some (.ref wl) else m' z := ⟨m0, map_is hm2⟩
  clear hm2
  replace hm3 : m1 (Str.ofString "held") = some (.ref hl) := hm3
  replace hm4 : m1 (Str.ofString "wish") = some (.ref x) := hm4
  obtain ⟨m2, rfl⟩ : ∃ m', m1 = fun z => if z = Str.ofString "held" then some (.ref hl) else m' z := ⟨m1, map_is hm3⟩
  clear hm3
  replace hm4 : m2 (Str.ofString "wish") = some (.ref x) := hm4
  obtain ⟨m3, rfl⟩ : ∃ m', m2 = fun z => if z = Str.ofString "wish" then some (.ref x) else m' z := ⟨m2, map_is hm4⟩
  clear hm4
  replace hm5 : m3 (Str.ofString "at") = some (.int i ti) := hm5
  obtain ⟨m4, rfl⟩ : ∃ m', m3 = fun z => if z = Str.ofString "at" then some (.int i ti) else m' z := ⟨m3, map_is hm5⟩
  clear hm5
  obtain ⟨ok1, h1⟩ := hws _ (List.mem_of_getElem? hi)
  obtain ⟨ok2, h2⟩ := hws _ (List.mem_of_getElem? hi')
  dsimp only at ok1 h1 ok2 h2
  have hi'' : (ws.map fun p => Value.ref p.1)[i - 1]? = some (.ref y) := by rw [List.getElem?_map, hi']; rfl
  have hilt : i < ws.length := (List.getElem?_eq_some_iff.mp hi).1
  k_steps
  unfold Hold
  refine kmk_slice F N (hW.at fun q hq => (N q hq).1) .none (.int ((i : Int) - 1) _) ?_ (by with_unfolding_all rfl) (fun _ => rfl) (by simp; rw [sizeLine_eq]; omega)
  intro D1 h3 F3 N3 l3
  rw [pick_upto _ (by omega)] at N3
  clear F N
  k_steps
  unfold Hold
  refine tail_any (hW.at fun q hq => (N3 q (.tail _ hq)).1).typeIs slot_list_getitem.lookup (wpAny_getItem_list (hW.at fun q hq => (N3 q (.tail _ hq)).1) (by omega) (by omega) (x := .ref y) (by rw [show ((i : Int) - 1).toNat = i - 1 by omega]; simpa using ⟨u', hi'⟩) ?_) (by with_unfolding_all rfl)
  k_steps
  rename_i LD h3' F3' N3' l3'
  unfold Hold
  refine kmk_add_lit F3' N3' ⟨_, (N3' _ (.tail _ (.head _))).1, rfl, _, rfl⟩ ⟨_, (N3' _ (.head _)).1, rfl, _, rfl⟩ rfl ?_ (by simp; rw [sizeLine_eq]; omega)
  intro D2 h4 F4 N4 l4
  clear F3' N3'
  k_steps
  unfold Hold
  refine kmk_slice F4 N4 (hW.at fun q hq => (N4 q (.tail _ (.tail _ (.tail _ hq)))).1) (.int (i + 1 : Int) _) .none ?_ (by with_unfolding_all rfl) (fun _ => rfl) (by simp; rw [sizeLine_eq]; omega)
  intro D3 h5 F5 N5 l5
  rw [pick_from _ (by omega)] at N5
  clear F4 N4
  k_steps
  unfold Hold
  refine kmk_add_lit F5 N5 ⟨_, (N5 _ (.tail _ (.head _))).1, rfl, _, rfl⟩ ⟨_, (N5 _ (.head _)).1, rfl, _, rfl⟩ rfl ?_ (by simp; rw [sizeLine_eq]; omega)
  intro D4 h6 F6 N6 l6
  clear F5 N5
  k_steps
  unfold Hold
  have kR : ∀ q ∈ R, h6.get? q.1 = some q.2 := fun q hq => (N6 q (.tail _ (.tail _ (.tail _ (.tail _ (.tail _ hq)))))).1
  obtain ⟨WS, hWS⟩ : ∃ WS, WS = ws.take (i - 1) ++ [(x, u), (y, u')] ++ ws.drop (i + 1) := ⟨_, rfl⟩
  have hl6 : h6.IsList D4 (WS.map fun p => Value.ref p.1).toArray := by
    refine ⟨_, (N6 _ (.head _)).1, rfl, 0, ?_⟩
    show Data.seq _ _ = Data.seq _ _
    congr 1
    simp [hWS, List.map_append, List.map_take, List.map_drop, show ((i : Int) + 1).toNat = i + 1 by omega, show ((i : Int) - 1).toNat = i - 1 by omega]
  have hwo : ∀ p ∈ WS, p.2.ok ∧ WishL R p.1 p.2 := fun p hp => by
    rw [hWS] at hp
    rcases List.mem_append.mp hp with hp | hp
    · rcases List.mem_append.mp hp with hp | hp
      · exact hws p (List.mem_of_mem_take hp)
      · simp only [List.mem_cons, List.not_mem_nil, or_false] at hp
        rcases hp with rfl | rfl
        · exact ⟨ok1, h1⟩
        · exact ⟨ok2, h2⟩
    · exact hws p (List.mem_of_mem_drop hp)
  refine use0 (laid_does w mean mg mb rl D4 rs WS (fun p hp => (hwo p hp).1) hrs hlen) B F6 N6 X T rfl (by walk_at "ROOM") (by walk_at "UNITS") ⟨hR.at kR, hl6, fun p hp => (hwo p hp).2.at kR⟩ ?_
  intro r h7 tk7 F7 N7 P7
  obtain ⟨b2, ids, rfl, p1, p2, ⟨G, p3, p4, p5⟩, p6⟩ := P7
  clear F6 N6
  k_steps
  unfold Hold
  refine use0 (masks_does w mean mg mb b2 ids (cOf rs) (fun j => runW (WS.map (·.2)) (cOf rs j) (mOf rs j * 2 ^ 20)) (by rw [p1]; exact hlen)) B F7 N7 X T rfl (by walk_at "ROOM") (by walk_at "UNITS") ⟨p5.keep fun a o e => (p3 a o e).1, fun j p hj => (p6 j p hj).2⟩ ?_
  intro r h8 tk8 F8 N8 P8
  obtain ⟨l, vs2, n2, rfl, q1, q2, q3⟩ := P8
  clear F7 N7
  have hM' : ∀ j ∈ List.range rs.length, runW (WS.map (·.2)) (cOf rs j) (mOf rs j * 2 ^ 20) = M j := fun j hj => by
    have := hM j (List.mem_range.mp hj)
    rw [← this, hWS]
    simp [List.map_append, List.map_take, List.map_drop]
  rw [p1, List.map_congr_left hM'] at q3
  k_steps
  unfold Hold
  refine ne_intsK ⟨_, q2, rfl, _, rfl⟩ q3 ⟨_, (N8 _ (.tail _ (.tail _ (.tail _ (.tail _ (.tail _ hh)))))).1, rfl, _, rfl⟩ hhi (by walk_at "UNITS") ?_
  rw [decide_eq_true rfl]
  k_steps
  exact k _ _ F8 fun q hq => N8 q (.tail _ (.tail _ (.tail _ (.tail _ (.tail _ hq)))))
end


-- part PBw10

section
variable {w : World} {mean : ExcName → Option Value} {mg mb : Str → Option Value} {dp un : Nat} {gd : Option (List Code)} {L fa : Addr} {cdv : Value} {outer : List Env} {A₀ : Around} {base g : Heap} {m : Str → Option Value} {s : Shared} {Q : Flow → Shared → Prop}

end

theorem turnPBw10 : True ∧ True := by
  w_top off
  first | (walk1; all_goals trivial) | exact ⟨trivial, trivial⟩

section
local macro_rules | `(tactic| walk_at "exec If") => `(tactic| ((with_reducible show wpAny _ _ (exec (Stmt.If (Expr.Compare (Expr.Call _ _ _ _) _ _ _) _ _ _) _) _ _ _); refine hold_of ?_))
section
variable {w : World} {mean : ExcName → Option Value} {mg mb : Str → Option Value} {dp un : Nat} {gd : Option (List Code)} {L fa : Addr} {cdv : Value} {outer : List Env} {A₀ : Around} {base g : Heap} {m : Str → Option Value} {s : Shared} {Q : Flow → Shared → Prop}
theorem law_A {rl wl hl x : Addr} {rs : List (Addr × Int × Int)} {ws : List (Addr × Wsh)} {u : Wsh} {M : Nat → Int} {vs : List Value} {n i : Nat} {mid : Int} {ti tm : Tok} {R : List (Addr × Obj)} (B : Below A₀ base outer g) (X : Frag.In (hd.heap_39 w.params) g) (T : Top hd.view_39 (looseW hd.view_39 [Str.ofString "Plan"]) mean mg mb g) (hd : dp + 60 < recursionLimit) (hu : un + 200 < cLine)
    (F : Fr g L s.heap m) (N : News g L s.heap R)
    (hm1 : m (Str.ofString "rows") = some (.ref rl)) (hm2 : m (Str.ofString "wishes") = some (.ref wl)) (hm3 : m (Str.ofString "held") = some (.ref hl)) (hm4 : m (Str.ofString "wish") = some (.ref x)) (hm5 : m (Str.ofString "at") = some (.int i ti)) (hm6 : m (Str.ofString "middle") = some (.int mid tm))
    (hR : RowsR R rl rs) (hW : ListR R wl (ws.map fun p => Value.ref p.1)) (hws : ∀ p ∈ ws, p.2.ok ∧ WishL R p.1 p.2) (hrs : ∀ p ∈ rs, 0 ≤ p.2.2 ∧ p.2.2 < 4) (hlen : rs.length ≤ 100) (hlenw : ws.length ≤ 100) (hh : (hl, listOf vs.toArray n) ∈ R) (hhi : IntsAre vs ((List.range rs.length).map M)) (hi : ws[i]? = some (x, u)) (hmid : mid < u.e)
    (hM : u.b < mid → ∀ j, j < rs.length → runW ((ws.map (·.2)).take i ++ [⟨u.t, u.v, u.b, mid⟩, ⟨u.t, u.v, mid, u.e⟩] ++ (ws.map (·.2)).drop (i + 1)) (cOf rs j) (mOf rs j * 2 ^ 20) = M j)
    (k : ∀ (u : Str → Option Value) h' tk', Fr g L h' (fun y => if [Str.ofString "pieces"].contains y then u y else m y) → News g L h' R → Q .next { s with heap := h', toks := tk' }) :
    wpAny (model PySem.Challenge.rw_pb0168_01.row.prog w) (ktrTop dp un gd (Str.ofString "law") lawScope L fa cdv (cellsFrom (L + 1) lawScope.names []) outer) (exec lawIfA (envOfC (Str.ofString "law") lawScope L fa cdv)) Q (fun _ _ => False) s := by
  revert X
  k_fill
  intro X
  try k_fold
  obtain ⟨m0, rfl⟩ : ∃ m', m = fun z => if z = Str.ofString "rows" then some (.ref rl) else m' z := ⟨m, map_is hm1⟩
  clear hm1
  replace hm2 : m0 (Str.ofString "wishes") = some (.ref wl) := hm2
  replace hm3 : m0 (Str.ofString "held") = some (.ref hl) := hm3
  replace hm4 : m0 (Str.ofString "wish") = some (.ref x) := hm4
  obtain ⟨m1, rfl⟩ : ∃ m', m0 = fun z => if z = Str.ofString "wishes" then some (.ref wl) else m' z := ⟨m0, map_is hm2⟩
  clear hm2
  replace hm3 : m1 (Str.ofString "held") = some (.ref hl) := hm3
  replace hm4 : m1 (Str.ofString "wish") = some (.ref x) := hm4
  obtain ⟨m2, rfl⟩ : ∃ m', m1 = fun z => if z = Str.ofString "held" then some (.ref hl) else m' z := ⟨m1, map_is hm3⟩
  clear hm3
  replace hm4 : m2 (Str.ofString "wish") = some (.ref x) := hm4
  obtain ⟨m3, rfl⟩ : ∃ m', m2 = fun z => if z = Str.ofString "wish" then some (.ref x) else m' z := ⟨m2, map_is hm4⟩
  clear hm4
  replace hm5 : m3 (Str.ofString "at") = some (.int i ti) := hm5
  replace hm6 : m3 (Str.ofString "middle") = some (.int mid tm) := hm6
  obtain ⟨m4, rfl⟩ : ∃ m', m3 = fun z => if z = Str.ofString "at" then some (.int i ti) else m' z := ⟨m3, map_is hm5⟩
  clear hm5
  replace hm6 : m4 (Str.ofString "middle") = some (.int mid tm) := hm6
  obtain ⟨m5, rfl⟩ : ∃ m', m4 = fun z => if z = Str.ofString "middle" then some (.int mid tm) else m' z := ⟨m4, map_is hm6⟩
  clear hm6
  have hok := (hws _ (List.mem_of_getElem? hi)).1
  obtain ⟨dx, od, w1, w2, esw, nw2, t1, t2, t3, t4, rfl, w4, w5, w6, w7, w8⟩ := (hws _ (List.mem_of_getElem? hi)).2
  dsimp only at w1 w2 w4 w5 w6 w7 hok
  have F00 := F
  have N00 := N
  k_steps
  · rename (u.b < mid) => hbm
    rename Fr g L _ _ => F9
    rename News g L _ _ => N9
    unfold Hold
    have sub : ∀ {q a b c d e : Addr × Obj}, q ∈ R → q ∈ a :: b :: c :: d :: e :: R := fun hq => .tail _ (.tail _ (.tail _ (.tail _ (.tail _ hq))))
    refine law_in1 B X T hd hu F9 N9 rfl rfl rfl rfl rfl (hR.sub fun q hq => sub hq) (hW.sub fun q hq => sub hq) (fun p hp => ⟨(hws p hp).1, (hws p hp).2.sub fun q hq => sub hq⟩) hrs hlen hlenw (sub hh) hhi ⟨_, _, .head _, rfl, rfl⟩ (u1 := ⟨u.t, u.v, u.b, mid⟩) (u2 := ⟨u.t, u.v, mid, u.e⟩)
      ⟨_, _, .tail _ (.tail _ (.tail _ (.head _))), .tail _ (.tail _ (.tail _ (.tail _ (.head _)))), _, _, _, _, _, _, rfl, by k_get, by k_get, by k_get, by k_get, rfl⟩
      ⟨_, _, .tail _ (.head _), .tail _ (.tail _ (.head _)), _, _, _, _, _, _, rfl, by k_get, by k_get, by k_get, by k_get, rfl⟩ ⟨hok.1, hok.2.1, hbm, hok.2.2.2⟩ ⟨hok.1, ?_, hmid, hok.2.2.2⟩ (hM hbm) ?_
    · have := hok.2.1
      show 0 ≤ mid
      omega
    intro h' tk' F' N'
    k_steps
    exact k _ _ _ (fr_form F' fun z hz => by
      simp only [List.contains_cons, List.contains_nil, Bool.or_false, beq_eq_false_iff_ne, ne_eq] at hz
      rw [if_neg hz]) fun q hq => N' q (sub hq)
  · exact k _ _ _ (fr_form F00 fun _ _ => rfl) N00

theorem law_B {rl wl hl x : Addr} {rs : List (Addr × Int × Int)} {ws : List (Addr × Wsh)} {u : Wsh} {M : Nat → Int} {vs : List Value} {n i : Nat} {ti : Tok} {R : List (Addr × Obj)} (B : Below A₀ base outer g) (X : Frag.In (hd.heap_39 w.params) g) (T : Top hd.view_39 (looseW hd.view_39 [Str.ofString "Plan"]) mean mg mb g) (hd : dp + 60 < recursionLimit) (hu : un + 200 < cLine)
    (F : Fr g L s.heap m) (N : News g L s.heap R)
    (hm1 : m (Str.ofString "rows") = some (.ref rl)) (hm2 : m (Str.ofString "wishes") = some (.ref wl)) (hm3 : m (Str.ofString "held") = some (.ref hl)) (hm4 : m (Str.ofString "wish") = some (.ref x)) (hm5 : m (Str.ofString "at") = some (.int i ti))
    (hR : RowsR R rl rs) (hW : ListR R wl (ws.map fun p => Value.ref p.1)) (hws : ∀ p ∈ ws, p.2.ok ∧ WishL R p.1 p.2) (hrs : ∀ p ∈ rs, 0 ≤ p.2.2 ∧ p.2.2 < 4) (hlen : rs.length ≤ 100) (hlenw : ws.length ≤ 100) (hh : (hl, listOf vs.toArray n) ∈ R) (hhi : IntsAre vs ((List.range rs.length).map M)) (hi : ws[i]? = some (x, u))
    (hM : ∀ u', 0 < i → (ws.map (·.2))[i - 1]? = some u' → tagS u'.t ≠ tagS u.t → ∀ j, j < rs.length → runW ((ws.map (·.2)).take (i - 1) ++ [u, u'] ++ (ws.map (·.2)).drop (i + 1)) (cOf rs j) (mOf rs j * 2 ^ 20) = M j)
    (k : ∀ h' tk', Fr g L h' m → News g L h' R → Q .next { s with heap := h', toks := tk' }) :
    wpAny (model PySem.Challenge.rw_pb0168_01.row.prog w) (ktrTop dp un gd (Str.ofString "law") lawScope L fa cdv (cellsFrom (L + 1) lawScope.names []) outer) (exec lawIfB (envOfC (Str.ofString "law") lawScope L fa cdv)) Q (fun _ _ => False) s := by
  revert X
  k_fill
  intro X
  try k_fold
  obtain ⟨m0, rfl⟩ : ∃ m', m = fun z => if z = Str.ofString "rows" then some (.ref rl) else m' z := ⟨m, map_is hm1⟩
  clear hm1
  replace hm2 : m0 (Str.ofString "wishes") = some (.ref wl) := hm2
  replace hm3 : m0 (Str.ofString "held") = some (.ref hl) := hm3
  replace hm4 : m0 (Str.ofString "wish") = some (.ref x) := hm4
  obtain ⟨m1, rfl⟩ : ∃ m', m0 = fun z => if z = Str.ofString "wishes" then some (.ref wl) else m' z := ⟨m0, map_is hm2⟩
  clear hm2
  replace hm3 : m1 (Str.ofString "held") = some (.ref hl) := hm3
  replace hm4 : m1 (Str.ofString "wish") = some (.ref x) := hm4
  obtain ⟨m2, rfl⟩ : ∃ m', m1 = fun z => if z = Str.ofString "held" then some (.ref hl) else m' z := ⟨m1, map_is hm3⟩
  clear hm3
  replace hm4 : m2 (Str.ofString "wish") = some (.ref x) := hm4
  obtain ⟨m3, rfl⟩ : ∃ m', m2 = fun z => if z = Str.ofString "wish" then some (.ref x) else m' z := ⟨m2, map_is hm4⟩
  clear hm4
  replace hm5 : m3 (Str.ofString "at") = some (.int i ti) := hm5
  obtain ⟨m4, rfl⟩ : ∃ m', m3 = fun z => if z = Str.ofString "at" then some (.int i ti) else m' z := ⟨m3, map_is hm5⟩
  clear hm5
  obtain ⟨dx, od, w1, w2, esw, nw2, t1, t2, t3, t4, rfl, w4, w5, w6, w7, w8⟩ := (hws _ (List.mem_of_getElem? hi)).2
  dsimp only at w1 w2 w4 w5 w6 w7
  have hilt : i < ws.length := (List.getElem?_eq_some_iff.mp hi).1
  have F00 := F
  have N00 := N
  k_steps
  · rename_i hi0
    have hi0' : 0 < i := by omega
    unfold Hold
    obtain ⟨⟨y, u'⟩, hi'⟩ : ∃ q, ws[i - 1]? = some q := ⟨_, List.getElem?_eq_getElem (by omega)⟩
    have hu' : (ws.map (·.2))[i - 1]? = some u' := by rw [List.getElem?_map, hi']; rfl
    obtain ⟨dx', od', y1, y2, esy, ny2, s1, s2, s3, s4, rfl, y4, y5, y6, y7, y8⟩ := (hws _ (List.mem_of_getElem? hi')).2
    dsimp only at y1 y2 y4 y5 y6 y7
    refine tail_any (hW.at fun q hq => (N00 q hq).1).typeIs slot_list_getitem.lookup (wpAny_getItem_list (hW.at fun q hq => (N00 q hq).1) (by omega) (by omega) (x := .ref y) (by rw [show ((i : Int) - 1).toNat = i - 1 by omega]; simpa using ⟨u', hi'⟩) ?_) (by with_unfolding_all rfl)
    k_steps
    · rename_i hne
      have hne' : tagS u'.t ≠ tagS u.t := fun q => by simp [q] at hne
      unfold Hold
      refine law_in2 B X T hd hu F00 N00 rfl rfl rfl rfl rfl hR hW hws hrs hlen hlenw hh hhi hi hi0' hi' (hM u' hi0' hu' hne') ?_
      intro h' tk' F' N'
      k_steps
      exact k _ _ F' N'
    · exact k _ _ F00 N00
  · exact k _ _ F00 N00
end


-- part PBw11

section
variable {w : World} {mean : ExcName → Option Value} {mg mb : Str → Option Value} {dp un : Nat} {gd : Option (List Code)} {L fa : Addr} {cdv : Value} {outer : List Env} {A₀ : Around} {base g : Heap} {m : Str → Option Value} {s : Shared} {Q : Flow → Shared → Prop}

end
end

theorem turnPBw11 : True ∧ True := by
  w_top off
  first | (walk1; all_goals trivial) | exact ⟨trivial, trivial⟩

section
local macro_rules | `(tactic| walk_at "call builtin:len") => `(tactic| (refine hold_of ?_))
section
local macro_rules | `(tactic| walk_at "exec If") => `(tactic| (refine hold_of ?_))
section
local macro_rules | `(tactic| walk_at "exec For Name Call cons nil") => `(tactic| (k_here; (rename Fr _ _ _ _ => lF'); (with_unfolding_all refine' For_invVF lF' ?k1 ?k2 ?_; (case k1 => exact rfl); (case k2 => exact rfl); k_whole)))
section
local macro_rules | `(tactic| walk_at "pyIter ref") => `(tactic| (refine hold_of ?_))
section
variable {w : World} {mean : ExcName → Option Value} {mg mb : Str → Option Value} {dp un : Nat} {gd : Option (List Code)} {L fa : Addr} {cdv : Value} {outer : List Env} {A₀ : Around} {base g : Heap} {m : Str → Option Value} {s : Shared} {Q : Flow → Shared → Prop}
theorem law_s11 {rl wl hl : Addr} {rs : List (Addr × Int × Int)} {ws : List (Addr × Wsh)} {M : Nat → Int} {vs : List Value} {n : Nat} {R : List (Addr × Obj)} (B : Below A₀ base outer g) (X : Frag.In (hd.heap_39 w.params) g) (T : Top hd.view_39 (looseW hd.view_39 [Str.ofString "Plan"]) mean mg mb g) (hd : dp + 60 < recursionLimit) (hu' : un + 200 < cLine)
    (F : Fr g L s.heap m) (N : News g L s.heap R)
    (hm1 : m (Str.ofString "rows") = some (.ref rl)) (hm2 : m (Str.ofString "wishes") = some (.ref wl)) (hm3 : m (Str.ofString "held") = some (.ref hl))
    (hR : RowsR R rl rs) (hW : ListR R wl (ws.map fun p => Value.ref p.1)) (hws : ∀ p ∈ ws, p.2.ok ∧ WishL R p.1 p.2) (hrs : ∀ p ∈ rs, 0 ≤ p.2.2 ∧ p.2.2 < 4) (hlen : rs.length ≤ 100) (hlenw : ws.length ≤ 100) (hh : (hl, listOf vs.toArray n) ∈ R) (hhi : IntsAre vs ((List.range rs.length).map M))
    (hS : ∀ i u mid, (ws.map (·.2))[i]? = some u → u.b < mid → mid < u.e → ∀ j, j < rs.length → runW ((ws.map (·.2)).take i ++ [⟨u.t, u.v, u.b, mid⟩, ⟨u.t, u.v, mid, u.e⟩] ++ (ws.map (·.2)).drop (i + 1)) (cOf rs j) (mOf rs j * 2 ^ 20) = M j)
    (hM : ∀ i u u', 0 < i → (ws.map (·.2))[i]? = some u → (ws.map (·.2))[i - 1]? = some u' → tagS u'.t ≠ tagS u.t → ∀ j, j < rs.length → runW ((ws.map (·.2)).take (i - 1) ++ [u, u'] ++ (ws.map (·.2)).drop (i + 1)) (cOf rs j) (mOf rs j * 2 ^ 20) = M j)
    (k : ∀ m' h' tk', Fr g L h' m' → Q .next { s with heap := h', toks := tk' }) :
    wpAny (model PySem.Challenge.rw_pb0168_01.row.prog w) (ktrTop dp un gd (Str.ofString "law") lawScope L fa cdv (cellsFrom (L + 1) lawScope.names []) outer) (exec lawS11 (envOfC (Str.ofString "law") lawScope L fa cdv)) Q (fun _ _ => False) s := by
  revert X
  k_fill
  intro X
  try k_fold
  obtain ⟨m0, rfl⟩ : ∃ m', m = fun z => if z = Str.ofString "rows" then some (.ref rl) else m' z := ⟨m, map_is hm1⟩
  clear hm1
  replace hm2 : m0 (Str.ofString "wishes") = some (.ref wl) := hm2
  replace hm3 : m0 (Str.ofString "held") = some (.ref hl) := hm3
  obtain ⟨m1, rfl⟩ : ∃ m', m0 = fun z => if z = Str.ofString "wishes" then some (.ref wl) else m' z := ⟨m0, map_is hm2⟩
  clear hm2
  replace hm3 : m1 (Str.ofString "held") = some (.ref hl) := hm3
  obtain ⟨m2, rfl⟩ : ∃ m', m1 = fun z => if z = Str.ofString "held" then some (.ref hl) else m' z := ⟨m1, map_is hm3⟩
  clear hm3
  k_steps
  unfold Hold
  rename Fr g L _ _ => F
  refine Calls.call_len_list (hW.at fun q hq => (N q hq).1) (by simp; omega) ?_
  generalize hnn : (((ws.map fun p => Value.ref p.1).toArray.size : Nat) : Int) = nn
  have hnn' : nn = ws.length := by rw [← hnn]; simp
  have hnb : Bnd nn 101 := ⟨by omega, by omega⟩
  have hlw : (fun (_ : Unit) => ws.length ≤ 100) () := hlenw
  clear hlenw hnn
  have hnn2 : (fun (_ : Unit) => nn = ws.length) () := hnn'
  clear hnn'
  k_steps
  rename_i h1 tk1 t1 t2 t3 hr F1 N1 hup
  unfold Hold
  have hlenw : ws.length ≤ 100 := hlw
  have hnn : nn = ws.length := hnn2
  clear hup hlw hnn2
  refine loop_range (n := ws.length) [Str.ofString "wish", Str.ofString "middle", Str.ofString "pieces"] (fun i nx => nx = R) rfl hr (small_one (by omega) (by omega) (by omega) (by omega)) (by rw [rangeSize_nat]; omega) F1 N1 rfl ?_ ?_
  · clear N1 F1
    rintro i t um nx h tk own I hi rfl ho hIo hI F1 N1
    obtain ⟨⟨x, u⟩, hi'⟩ : ∃ q, ws[i]? = some q := ⟨_, List.getElem?_eq_getElem hi⟩
    have hu : (ws.map (·.2))[i]? = some u := by rw [List.getElem?_map, hi']; rfl
    have sub : ∀ q ∈ nx, q ∈ own ++ nx := fun q hq => List.mem_append_right _ hq
    generalize hOT : own ++ nx = OT at N1 sub
    obtain ⟨ok, dx, od, w1, w2, esw, nw2, t4, t5, t6, t7, rfl, w4, w5, w6, w7, w8⟩ := hws _ (List.mem_of_getElem? hi')
    replace w1 := sub _ w1
    replace w2 := sub _ w2
    dsimp only at w1 w2 w4 w5 w6 w7 ok
    rw [show (0 + (i : Int)) = (i : Int) by omega] at F1
    k_steps
    unfold Hold
    refine tail_any ((hW.sub sub).at fun q hq => (N1 q hq).1).typeIs slot_list_getitem.lookup (wpAny_getItem_list ((hW.sub sub).at fun q hq => (N1 q hq).1) (by omega) (by omega) (x := .ref x) (by simpa using ⟨u, hi'⟩) ?_) (by with_unfolding_all rfl)
    k_steps
    rename Fr g L _ _ => F2
    rename News g L _ _ => N2
    unfold Hold
    have hme : u.b + (u.e - u.b).fdiv 2 < u.e := by
      have := ok.2.2.1
      rw [Int.fdiv_eq_ediv_of_nonneg _ (by decide)]
      omega
    refine law_A B X T hd hu' F2 N2 rfl rfl rfl rfl rfl rfl (hR.sub sub) (hW.sub sub) (fun p hp => ⟨(hws p hp).1, (hws p hp).2.sub sub⟩) hrs hlen hlenw (sub _ hh) hhi hi' hme (fun hb j hj => hS i u _ hu hb hme j hj) ?_
    intro u2 h' tk' F3 N3
    k_steps
    unfold Hold
    refine law_B B X T hd hu' F3 N3 rfl rfl rfl rfl rfl (hR.sub sub) (hW.sub sub) (fun p hp => ⟨(hws p hp).1, (hws p hp).2.sub sub⟩) hrs hlen hlenw (sub _ hh) hhi hi' (fun u' h0 hu2 hne => hM i u u' h0 hu hu2 hne) ?_
    intro h3 tk3 F4 N4
    k_steps
    refine TurnEnd.next (news' := nx) F4 (by rw [hOT]; exact N4) hI ⟨fun z z1 h2 => ?_, rfl⟩
    have h3 := h2
    simp only [List.contains_cons, List.contains_nil, Bool.or_false, Bool.or_eq_false_iff, beq_eq_false_iff_ne, ne_eq] at h2
    obtain ⟨z2, z3, z4⟩ := h2
    simp only [List.contains_cons, List.contains_nil, Bool.or_false, beq_eq_false_iff_ne.mpr z4, beq_eq_false_iff_ne.mpr z2, beq_eq_false_iff_ne.mpr z3, Bool.false_eq_true, if_false, if_neg z1, if_neg z2, if_neg z3]
  · rintro um nx h tk rfl F2 N2
    exact k _ _ _ F2
end


-- part PBz
theorem z_mul2 (x y : Int) : Builtin.bitAnd x (2 * y) = 2 * Builtin.bitAnd (x / 2) y := by
  rw [kbt_halves]
  rw [show (2 * y) / 2 = y by omega, if_neg (by omega)]
  omega
theorem z_odd (x y : Int) : Builtin.bitAnd x (2 * y + 1) = 2 * Builtin.bitAnd (x / 2) y + x % 2 := by
  rw [kbt_halves]
  rw [show (2 * y + 1) / 2 = y by omega]
  split <;> omega
theorem z_even (x y : Int) : Builtin.bitAnd (2 * x) y = 2 * Builtin.bitAnd x (y / 2) := by rw [bitAnd_comm, z_mul2, bitAnd_comm]
theorem z_dis2 (k y : Int) (h0 : 0 ≤ y) (h1 : y < 4) : Builtin.bitAnd (4 * k) y = 0 := by
  rw [show 4 * k = 2 * (2 * k) by omega, z_even, z_even, show y / 2 / 2 = 0 by omega, bitAnd_zero]; omega
theorem z_dis3 (k y : Int) (h0 : 0 ≤ y) (h1 : y < 8) : Builtin.bitAnd (8 * k) y = 0 := by
  rw [show 8 * k = 2 * (4 * k) by omega, z_even, z_dis2 _ _ (by omega) (by omega)]; omega
theorem z_dis4 (k y : Int) (h0 : 0 ≤ y) (h1 : y < 16) : Builtin.bitAnd (16 * k) y = 0 := by
  rw [show 16 * k = 2 * (8 * k) by omega, z_even, z_dis3 _ _ (by omega) (by omega)]; omega
theorem z_14 (x : Int) : Builtin.bitAnd x 14 = 2 * ((x / 2) % 8) := by
  rw [show (14 : Int) = 2 * 7 by rfl, z_mul2, bitAnd_m3]
theorem z_48 (x : Int) : Builtin.bitAnd x 48 = 16 * ((x / 16) % 4) := by
  rw [show (48 : Int) = 2 * (2 * (2 * (2 * 3))) by rfl, z_mul2, z_mul2, z_mul2, z_mul2, bitAnd_m2]; omega
theorem z_960 (x : Int) : Builtin.bitAnd x 960 = 64 * ((x / 64) % 16) := by
  rw [show (960 : Int) = 2 * (2 * (2 * (2 * (2 * (2 * 15))))) by rfl, z_mul2, z_mul2, z_mul2, z_mul2, z_mul2, z_mul2, bitAnd_m4]; omega
theorem z_139 (x : Int) : Builtin.bitAnd x 139 = x % 2 + 2 * ((x / 2) % 2) + 8 * ((x / 8) % 2) + 128 * ((x / 128) % 2) := by
  rw [show (139 : Int) = 2 * (2 * (2 * (2 * (2 * (2 * (2 * 1))) + 1)) + 1) + 1 by rfl, z_odd, z_odd, z_mul2, z_odd, z_mul2, z_mul2, z_mul2, bitAnd_m1]; omega

/-- a mask by its fields -/
def EE (a s z mo : Int) : Int := 1 + 2 * a + 16 * s + 64 * z + 1048576 * mo
structure InR (a s z : Int) : Prop where
  a0 : 0 ≤ a
  a1 : a < 8
  s0 : 0 ≤ s
  s1 : s < 4
  z0 : 0 ≤ z
  z1 : z < 16
theorem z_start (mo : Int) (h0 : 0 ≤ mo) : Builtin.bitOr (mo * 2 ^ 20) 139 = EE 5 0 2 mo := by
  rw [show mo * 2 ^ 20 = 1048576 * mo by omega, bitOr_and, z_139]
  unfold EE; omega
theorem z_again {a s z mo : Int} (h : InR a s z) (hmo : 0 ≤ mo) : ∃ a' z', Builtin.bitOr (EE a s z mo) 139 = EE a' s z' mo ∧ InR a' s z' ∧ (a = 5 → a' = 5) ∧ (z = 2 → z' = 2) := by
  obtain ⟨a0, a1, s0, s1, z0, z1⟩ := h
  refine ⟨a + 5 - a % 2 - 4 * ((a / 4) % 2), z + 2 - 2 * ((z / 2) % 2), ?_, ⟨by omega, by omega, s0, s1, by omega, by omega⟩, by omega, by omega⟩
  rw [bitOr_and, z_139]
  have e1 : EE a s z mo % 2 = 1 := by unfold EE; omega
  have e2 : EE a s z mo / 2 % 2 = a % 2 := by unfold EE; omega
  have e3 : EE a s z mo / 8 % 2 = (a / 4) % 2 := by unfold EE; omega
  have e4 : EE a s z mo / 128 % 2 = (z / 2) % 2 := by unfold EE; omega
  rw [e1, e2, e3, e4]
  unfold EE; omega
theorem z_step0 {a s z mo v : Int} (h : InR a s z) (h0 : 0 ≤ v) (h1 : v < 8) : Builtin.bitOr (Builtin.bitAnd (EE a s z mo) (Builtin.bitNot 14)) (2 * v) = EE v s z mo := by
  obtain ⟨a0, a1, s0, s1, z0, z1⟩ := h
  rw [bitAnd_not, z_14, show EE a s z mo - 2 * (EE a s z mo / 2 % 8) = EE 0 s z mo by unfold EE; omega, bitOr_and, z_mul2, show EE 0 s z mo / 2 = 8 * (s + 4 * z + 65536 * mo) by unfold EE; omega, z_dis3 _ _ h0 h1]
  unfold EE; omega
theorem z_step1 {a s z mo v : Int} (h : InR a s z) (h0 : 0 ≤ v) (h1 : v < 4) : Builtin.bitOr (Builtin.bitAnd (EE a s z mo) (Builtin.bitNot 48)) (2 * (2 * (2 * (2 * v)))) = EE a v z mo := by
  obtain ⟨a0, a1, s0, s1, z0, z1⟩ := h
  rw [bitAnd_not, z_48, show EE a s z mo - 16 * (EE a s z mo / 16 % 4) = EE a 0 z mo by unfold EE; omega, bitOr_and, z_mul2, z_mul2, z_mul2, z_mul2, show EE a 0 z mo / 2 / 2 / 2 / 2 = 4 * (z + 16384 * mo) by unfold EE; omega, z_dis2 _ _ h0 h1]
  unfold EE; omega
theorem z_step2 {a s z mo v : Int} (h : InR a s z) (h0 : 0 ≤ v) (h1 : v < 16) : Builtin.bitOr (Builtin.bitAnd (EE a s z mo) (Builtin.bitNot 960)) (2 * (2 * (2 * (2 * (2 * (2 * v)))))) = EE a s v mo := by
  obtain ⟨a0, a1, s0, s1, z0, z1⟩ := h
  rw [bitAnd_not, z_960, show EE a s z mo - 64 * (EE a s z mo / 64 % 16) = EE a s 0 mo by unfold EE; omega, bitOr_and, z_mul2, z_mul2, z_mul2, z_mul2, z_mul2, z_mul2, show EE a s 0 mo / 2 / 2 / 2 / 2 / 2 / 2 = 16 * (1024 * mo) by unfold EE; omega, z_dis4 _ _ h0 h1]
  unfold EE; omega

/-- the last wish's value -/
def hit (t : Nat) (c : Int) (u : Wsh) : Bool := decide (u.t = t) && (decide (u.b ≤ c) && decide (c < u.e))
def pick (t : Nat) (c : Int) (us : List Wsh) (d : Int) : Int := us.foldl (fun d u => if hit t c u = true then u.v else d) d
theorem pick_nil {t : Nat} {c d : Int} : pick t c [] d = d := rfl
theorem pick_cons {t : Nat} {c d : Int} {u : Wsh} {us : List Wsh} : pick t c (u :: us) d = pick t c us (if hit t c u = true then u.v else d) := rfl
theorem pick_append {t : Nat} {c d : Int} {us vs : List Wsh} : pick t c (us ++ vs) d = pick t c vs (pick t c us d) := List.foldl_append
theorem pick_dich (t : Nat) (c : Int) : ∀ us : List Wsh, (∀ d, pick t c us d = d) ∨ ∃ v, ∀ d, pick t c us d = v
  | [] => .inl fun _ => rfl
  | u :: us => by
    rcases pick_dich t c us with h | ⟨v, h⟩
    · cases q : hit t c u with
      | true => exact .inr ⟨u.v, fun d => by rw [pick_cons, q, h]; rfl⟩
      | false => exact .inl fun d => by rw [pick_cons, q, h]; rfl
    · exact .inr ⟨v, fun d => by rw [pick_cons, h]⟩
theorem step_E {a s z mo c : Int} {u : Wsh} (h : InR a s z) (g : u.good) : InR (if hit 0 c u = true then u.v else a) (if hit 1 c u = true then u.v else s) (if hit 2 c u = true then u.v else z) ∧
    stepW u c (EE a s z mo) = EE (if hit 0 c u = true then u.v else a) (if hit 1 c u = true then u.v else s) (if hit 2 c u = true then u.v else z) mo := by
  obtain ⟨t, v, b, e⟩ := u
  obtain ⟨ht, hb, hbe, hv0, hv1⟩ := g
  dsimp only at ht hb hbe hv0 hv1
  by_cases hc : b ≤ c ∧ c < e
  · have hc1 : (decide (b ≤ c) && decide (c < e)) = true := by simp [hc.1, hc.2]
    unfold stepW
    dsimp only
    rw [if_pos hc]
    match t, ht with
    | 0, _ =>
      have hv1' : v < 8 := hv1
      simp only [hit, hc1, Bool.and_true, decide_true, if_true, show decide (0 = 1) = false by rfl, show decide (0 = 2) = false by rfl, Bool.false_eq_true, if_false]
      refine ⟨⟨hv0, hv1', h.s0, h.s1, h.z0, h.z1⟩, ?_⟩
      rw [show v * 2 ^ (mshift 0).toNat = 2 * v by show v * 2 ^ 1 = 2 * v; omega]
      exact z_step0 h hv0 hv1'
    | 1, _ =>
      have hv1' : v < 4 := hv1
      simp only [hit, hc1, Bool.and_true, decide_true, if_true, show decide (1 = 0) = false by rfl, show decide (1 = 2) = false by rfl, Bool.false_eq_true, if_false]
      refine ⟨⟨h.a0, h.a1, hv0, hv1', h.z0, h.z1⟩, ?_⟩
      rw [show v * 2 ^ (mshift 1).toNat = 2 * (2 * (2 * (2 * v))) by show v * 2 ^ 4 = _; omega]
      exact z_step1 h hv0 hv1'
    | 2, _ =>
      have hv1' : v < 16 := hv1
      simp only [hit, hc1, Bool.and_true, decide_true, if_true, show decide (2 = 0) = false by rfl, show decide (2 = 1) = false by rfl, Bool.false_eq_true, if_false]
      refine ⟨⟨h.a0, h.a1, h.s0, h.s1, hv0, hv1'⟩, ?_⟩
      rw [show v * 2 ^ (mshift 2).toNat = 2 * (2 * (2 * (2 * (2 * (2 * v))))) by show v * 2 ^ 6 = _; omega]
      exact z_step2 h hv0 hv1'
  · have hc1 : (decide (b ≤ c) && decide (c < e)) = false := by
      cases q : (decide (b ≤ c) && decide (c < e)) with
      | false => rfl
      | true => simp at q; exact absurd q hc
    unfold stepW
    dsimp only
    rw [if_neg hc]
    simp only [hit, hc1, Bool.and_false, Bool.false_eq_true, if_false]
    exact ⟨h, trivial⟩
theorem fold_E {mo c : Int} : ∀ {us : List Wsh} {a s z : Int}, InR a s z → (∀ u ∈ us, u.good) → InR (pick 0 c us a) (pick 1 c us s) (pick 2 c us z) ∧ us.foldl (fun m u => stepW u c m) (EE a s z mo) = EE (pick 0 c us a) (pick 1 c us s) (pick 2 c us z) mo
  | [], _, _, _, h, _ => ⟨h, rfl⟩
  | u :: us, a, s, z, h, hg => by
    obtain ⟨h1, h2⟩ := step_E (mo := mo) (c := c) h (hg u (.head _))
    rw [List.foldl_cons, h2, pick_cons, pick_cons, pick_cons]
    exact fold_E h1 fun u hu => hg u (.tail _ hu)
theorem run_E {us : List Wsh} {mo c : Int} (hmo : 0 ≤ mo) (hg : ∀ u ∈ us, u.good) : InR (pick 0 c us 5) (pick 1 c us 0) (pick 2 c us 2) ∧ runW us c (mo * 2 ^ 20) = EE (pick 0 c us 5) (pick 1 c us 0) (pick 2 c us 2) mo := by
  have h : InR 5 0 2 := ⟨by decide, by decide, by decide, by decide, by decide, by decide⟩
  obtain ⟨h1, h2⟩ := fold_E (mo := mo) (c := c) h hg
  refine ⟨h1, ?_⟩
  unfold runW
  rw [z_start mo hmo]
  exact h2
theorem run_twice {us : List Wsh} {mo c : Int} (hmo : 0 ≤ mo) (hg : ∀ u ∈ us, u.good) : runW us c (runW us c (mo * 2 ^ 20)) = runW us c (mo * 2 ^ 20) := by
  obtain ⟨h1, h2⟩ := run_E (c := c) hmo hg
  rw [h2]
  obtain ⟨a', z', e, hr, ha, hz⟩ := z_again h1 hmo
  show us.foldl (fun m u => stepW u c m) (Builtin.bitOr _ 139) = _
  rw [e]
  obtain ⟨_, h4⟩ := fold_E (mo := mo) (c := c) hr hg
  rw [h4]
  have e0 : pick 0 c us a' = pick 0 c us 5 := by
    rcases pick_dich 0 c us with q | ⟨v, q⟩
    · rw [q, q]; exact ha (q 5)
    · rw [q, q]
  have e1 : pick 1 c us (pick 1 c us 0) = pick 1 c us 0 := by
    rcases pick_dich 1 c us with q | ⟨v, q⟩
    · rw [q]
    · rw [q, q]
  have e2 : pick 2 c us z' = pick 2 c us 2 := by
    rcases pick_dich 2 c us with q | ⟨v, q⟩
    · rw [q, q]; exact hz (q 2)
    · rw [q, q]
  rw [e0, e1, e2]
theorem run_high {us : List Wsh} {mo c : Int} (hmo : 0 ≤ mo) (hg : ∀ u ∈ us, u.good) : sh20 (runW us c (mo * 2 ^ 20)) = mo := by
  obtain ⟨h1, h2⟩ := run_E (c := c) hmo hg
  rw [h2]
  obtain ⟨a0, a1, s0, s1, z0, z1⟩ := h1
  unfold sh20
  rw [show (2 : Int) ^ Int.toNat 20 = 1048576 by rfl, Int.fdiv_eq_ediv_of_nonneg _ (by decide)]
  unfold EE; omega
theorem own_last (p : Wsh → Bool) : ∀ (us : List Wsh) (V : Int), (V :: (us.filter p).map (·.v)).getLastD 0 = us.foldl (fun d u => if p u = true then u.v else d) V
  | [], V => rfl
  | u :: us, V => by
    rw [List.filter_cons, List.foldl_cons]
    cases q : p u with
    | true =>
      simp only [if_true, List.map_cons]
      rw [← own_last p us u.v]
      rfl
    | false =>
      simp only [Bool.false_eq_true, if_false]
      exact own_last p us V
theorem tag_eq {a t : Nat} (ha : a < 3) (ht : t < 3) : decide (tagS a = tag4 t) = decide (a = t) := by
  match a, ha, t, ht with
  | 0, _, 0, _ => rfl
  | 0, _, 1, _ => decide
  | 0, _, 2, _ => decide
  | 1, _, 0, _ => decide
  | 1, _, 1, _ => rfl
  | 1, _, 2, _ => decide
  | 2, _, 0, _ => decide
  | 2, _, 1, _ => decide
  | 2, _, 2, _ => rfl
theorem tag_liga {a : Nat} (ha : a < 3) : decide (tagS a = tag4 3) = false := by
  match a, ha with
  | 0, _ => decide
  | 1, _ => decide
  | 2, _ => decide
theorem own_pick {us : List Wsh} {t : Nat} {c V : Int} (ht : t < 3) (hg : ∀ u ∈ us, u.good) : (ownV us t c V).getLastD 0 = pick t c us V := by
  unfold ownV
  rw [own_last]
  unfold pick
  have key : ∀ (us : List Wsh) (V : Int), (∀ u ∈ us, u.good) → us.foldl (fun d u => if (decide (tagS u.t = tag4 t) && (decide (u.b ≤ c) && decide (c < u.e))) = true then u.v else d) V = us.foldl (fun d u => if hit t c u = true then u.v else d) V := by
    intro us
    induction us with
    | nil => intro V _; rfl
    | cons u us ih =>
      intro V hg
      rw [List.foldl_cons, List.foldl_cons, tag_eq (hg u (.head _)).1 ht]
      exact ih _ fun u hu => hg u (.tail _ hu)
  exact key us V hg
theorem own_liga {us : List Wsh} {c V : Int} (hg : ∀ u ∈ us, u.good) : (ownV us 3 c V).getLastD 0 = V := by
  unfold ownV
  have : us.filter (fun u => decide (tagS u.t = tag4 3) && (decide (u.b ≤ c) && decide (c < u.e))) = [] := by
    rw [List.filter_eq_nil_iff]
    intro u hu
    rw [tag_liga (hg u hu).1]
    simp
  rw [this]; rfl
theorem run_own {us : List Wsh} {mo c : Int} (hmo : 0 ≤ mo) (hg : ∀ u ∈ us, u.good) (t : Nat) (ht : t < 4) : (Builtin.bitAnd (runW us c (mo * 2 ^ 20)) (mv4 t)).fdiv (2 ^ (sh4 t).toNat) = (ownV us t c (valV t)).getLastD 0 := by
  obtain ⟨h1, h2⟩ := run_E (c := c) hmo hg
  rw [h2]
  obtain ⟨a0, a1, s0, s1, z0, z1⟩ := h1
  match t, ht with
  | 0, _ =>
    rw [own_pick (by decide) hg, Int.fdiv_eq_ediv_of_nonneg _ (by decide)]
    show Builtin.bitAnd _ 14 / 2 = pick 0 c us 5
    rw [z_14]; unfold EE; omega
  | 1, _ =>
    rw [own_pick (by decide) hg, Int.fdiv_eq_ediv_of_nonneg _ (by decide)]
    show Builtin.bitAnd _ 48 / 16 = pick 1 c us 0
    rw [z_48]; unfold EE; omega
  | 2, _ =>
    rw [own_pick (by decide) hg, Int.fdiv_eq_ediv_of_nonneg _ (by decide)]
    show Builtin.bitAnd _ 960 / 64 = pick 2 c us 2
    rw [z_960]; unfold EE; omega
  | 3, _ =>
    rw [own_liga hg, Int.fdiv_eq_ediv_of_nonneg _ (by decide)]
    show Builtin.bitAnd _ 1 / 1 = 1
    rw [bitAnd_m1]; unfold EE; omega
theorem run_same {us vs : List Wsh} {mo c : Int} (hmo : 0 ≤ mo) (hg : ∀ u ∈ us, u.good) (hv : ∀ u ∈ vs, u.good) (h : ∀ t d, pick t c us d = pick t c vs d) : runW us c (mo * 2 ^ 20) = runW vs c (mo * 2 ^ 20) := by
  rw [(run_E (c := c) hmo hg).2, (run_E (c := c) hmo hv).2, h, h, h]
theorem cut1 {us : List Wsh} {i : Nat} {u : Wsh} (h : us[i]? = some u) : us = us.take i ++ [u] ++ us.drop (i + 1) := by
  obtain ⟨hi, e⟩ := List.getElem?_eq_some_iff.mp h
  have : us.take i ++ us.drop i = us := List.take_append_drop i us
  rw [List.drop_eq_getElem_cons hi, e] at this
  rw [List.append_assoc]; exact this.symm
theorem run_split {us : List Wsh} {mo c mid : Int} {i : Nat} {u : Wsh} (hmo : 0 ≤ mo) (hg : ∀ u ∈ us, u.good) (h : us[i]? = some u) (h1 : u.b < mid) (h2 : mid < u.e) :
    runW (us.take i ++ [⟨u.t, u.v, u.b, mid⟩, ⟨u.t, u.v, mid, u.e⟩] ++ us.drop (i + 1)) c (mo * 2 ^ 20) = runW us c (mo * 2 ^ 20) := by
  have gu := hg u (List.mem_of_getElem? h)
  obtain ⟨g1, g2, g3, g4, g5⟩ := gu
  refine run_same hmo (fun x hx => ?_) hg fun t d => ?_
  · rcases List.mem_append.mp hx with hx | hx
    · rcases List.mem_append.mp hx with hx | hx
      · exact hg x (List.mem_of_mem_take hx)
      · simp only [List.mem_cons, List.not_mem_nil, or_false] at hx
        rcases hx with rfl | rfl
        · exact ⟨g1, g2, h1, g4, g5⟩
        · exact ⟨g1, (show 0 ≤ mid by omega), h2, g4, g5⟩
    · exact hg x (List.mem_of_mem_drop hx)
  · conv => rhs; rw [cut1 h]
    rw [pick_append, pick_append, pick_append, pick_append]
    congr 1
    generalize pick t c (us.take i) d = d0
    simp only [pick_cons, pick_nil, hit]
    by_cases q0 : u.t = t <;> by_cases q1 : u.b ≤ c <;> by_cases q2 : c < u.e <;> by_cases q3 : c < mid <;> by_cases q4 : mid ≤ c <;> simp [q0, q1, q2, q3, q4] <;> omega
theorem run_swap {us : List Wsh} {mo c : Int} {i : Nat} {u u' : Wsh} (hmo : 0 ≤ mo) (hg : ∀ u ∈ us, u.good) (hi : 0 < i) (h : us[i]? = some u) (h' : us[i - 1]? = some u') (hne : tagS u'.t ≠ tagS u.t) :
    runW (us.take (i - 1) ++ [u, u'] ++ us.drop (i + 1)) c (mo * 2 ^ 20) = runW us c (mo * 2 ^ 20) := by
  have gu := hg u (List.mem_of_getElem? h)
  have gu' := hg u' (List.mem_of_getElem? h')
  have hn : u'.t ≠ u.t := fun e => hne (by rw [e])
  have cut : us = us.take (i - 1) ++ [u', u] ++ us.drop (i + 1) := by
    have e1 := cut1 h
    have e2 : us.take i = us.take (i - 1) ++ [u'] := by
      have : i = (i - 1) + 1 := by omega
      rw [this, List.take_add_one, show i - 1 + 1 - 1 = i - 1 by omega, h']; rfl
    rw [e2] at e1
    simpa using e1
  refine run_same hmo (fun x hx => ?_) hg fun t d => ?_
  · rcases List.mem_append.mp hx with hx | hx
    · rcases List.mem_append.mp hx with hx | hx
      · exact hg x (List.mem_of_mem_take hx)
      · simp only [List.mem_cons, List.not_mem_nil, or_false] at hx
        rcases hx with rfl | rfl
        · exact gu
        · exact gu'
    · exact hg x (List.mem_of_mem_drop hx)
  · conv => rhs; rw [cut]
    rw [pick_append, pick_append, pick_append, pick_append]
    congr 1
    generalize pick t c (us.take (i - 1)) d = d0
    simp only [pick_cons, pick_nil, hit]
    by_cases q0 : u.t = t
    · have q1 : u'.t ≠ t := fun e => hn (e.trans q0.symm)
      simp [q0, q1]
    · simp [q0]


-- part PBj
section
variable {w : World} {mean : ExcName → Option Value} {mg mb : Str → Option Value} {dp un : Nat} {gd : Option (List Code)} {L fa : Addr} {cdv : Value} {outer : List Env} {A₀ : Around} {base g : Heap} {m : Str → Option Value} {s : Shared} {Q : Flow → Shared → Prop}
theorem rowsR_of {G : Heap} {R : List (Addr × Obj)} {rl : Addr} {rs : List (Addr × Int × Int)} (H : RowsAt G rl rs) (k : ∀ a o, G.get? a = some o → (a, o) ∈ R) : RowsR R rl rs := by
  obtain ⟨⟨o, e, c, n, d⟩, q⟩ := H
  refine ⟨⟨o, n, k _ _ e, c, d⟩, fun p hp => ?_⟩
  obtain ⟨t1, t2, o2, e2, c2, n2, d2⟩ := q p hp
  exact ⟨o2, t1, t2, n2, k _ _ e2, c2, d2⟩
theorem wishL_of {G : Heap} {R : List (Addr × Obj)} {x : Addr} {u : Wsh} (H : WishAt G x u) (k : ∀ a o, G.get? a = some o → (a, o) ∈ R) : WishL R x u := by
  obtain ⟨dx, es, n, t1, t2, t3, t4, a, b, c⟩ := H.is
  exact ⟨dx, _, k _ _ a, k _ _ b, es, n, t1, t2, t3, t4, rfl, c⟩
theorem mof_map (rs : List (Addr × Int × Int)) : (List.range rs.length).map (fun j => mOf rs j) = rs.map (·.2.2) := by
  apply List.ext_getElem
  · simp
  · intro i h1 h2
    have hi : i < rs.length := by simpa using h2
    simp [mOf, List.getD, hi]
theorem mof_nonneg {rs : List (Addr × Int × Int)} (h : ∀ r ∈ rs, 0 ≤ r.2.2) (j : Nat) : 0 ≤ mOf rs j := by
  unfold mOf
  by_cases hj : j < rs.length
  · rw [List.getD_eq_getElem?_getD, List.getElem?_eq_getElem hj]
    exact h _ (List.getElem_mem hj)
  · rw [List.getD_eq_getElem?_getD, List.getElem?_eq_none (Nat.not_lt.mp hj)]
    exact Int.le_refl 0

theorem law_all {vs : List Value} {ns : List Int} {sl : Addr} {oP oT oI : Obj} {vt vi : Option Value} (B : Below A₀ base outer g) (X : Frag.In (hd.heap_39 w.params) g) (T : Top hd.view_39 (looseW hd.view_39 [Str.ofString "Plan"]) mean mg mb g) (hd' : dp + 60 < recursionLimit) (hu : un + 200 < cLine)
    (F : Fr g L s.heap m) (hs : m (Str.ofString "script") = some (.ref sl)) (hl : g.IsList sl vs.toArray) (hi : IntsAre vs ns) (hlen : ns.length ≤ 63) (N : News g L s.heap [(L + 1, oP), (L + 2, oT), (L + 3, oI)]) (c2 : oP.data = .cell none) (cT : oT.data = .cell vt) (cI : oI.data = .cell vi)
    (k : ∀ m' h' tk', Fr g L h' m' → Q (.ret (.bool true)) { s with heap := h', toks := tk' }) :
    wpAny (model PySem.Challenge.rw_pb0168_01.row.prog w) (ktrTop dp un gd (Str.ofString "law") lawScope L fa cdv (cellsFrom (L + 1) lawScope.names []) outer) (execs lawB (envOfC (Str.ofString "law") lawScope L fa cdv)) Q (fun _ _ => False) s := by
  obtain ⟨S7, hS7⟩ : ∃ S, S = lawS7 := ⟨_, rfl⟩
  rw [lawB_is, ← hS7]
  refine wpAny_execs_cons (law_s0 B X T hd' hu F hs hl hi hlen N c2 ?_)
  intro h0 tk0 p o cc lo oP1 F0 N0 P0 lo0 hcp oPd off
  show wpAny _ _ (execs _ _) _ _ _
  clear F N
  refine wpAny_execs_cons (law_s1 B X T hd' hu F0 N0 P0 lo0 hcp (.head _) (off1_mem off) (.tail _ (.head _)) oPd ?_)
  intro h1 tk1 o1 D n1 rs rest pl F1 N1 P1 hpl off1 sub1 hD hrows hr1 hr6
  show wpAny _ _ (execs _ _) _ _ _
  clear F0 N0
  refine wpAny_execs_cons (law_s2 B X T hd' hu F1 N1 ?_)
  intro h2 tk2 wl n2 F2 N2 off2
  show wpAny _ _ (execs _ _) _ _ _
  clear F1 N1
  have N2' : News g L h2 ((p, o1) :: (wl, listOf #[] n2) :: rest) := fun q hq => N2 q (by
    simp only [List.mem_cons] at hq ⊢
    rcases hq with h | h | h
    · exact .inr (.inl h)
    · exact .inl h
    · exact .inr (.inr h))
  refine wpAny_execs_cons (law_s3 B X T hd' hu F2 rfl N2' hpl P1 lo0 hcp (sub1 _ (.head _)) (fun e => off2 (p, o1) (.head _) e.symm) off1 (fun q hq => off2 q (.tail _ hq)) (sub1 _ (.tail _ (.head _))) oPd ?_)
  intro u3 h3 tk3 n3 ws tl F3 N3 hwl hws4 hws sub3
  show wpAny _ _ (execs _ _) _ _ _
  clear F2 N2 N2'
  have hTm : (L + 2, oT) ∈ tl := sub3 _ (sub1 _ (.tail _ (.tail _ (.head _))))
  have hIm : (L + 3, oI) ∈ tl := sub3 _ (sub1 _ (.tail _ (.tail _ (.tail _ (.head _)))))
  have hgood : ∀ u ∈ ws.map (·.2), u.good := fun u hu => by
    obtain ⟨q, hq, rfl⟩ := List.mem_map.mp hu
    exact (hws q hq).1
  have hrsb : ∀ r ∈ rs, 0 ≤ r.2.2 ∧ r.2.2 < 4 := fun r hr => ⟨(hrows r hr).1.2.1, (hrows r hr).1.2.2⟩
  have hmo := mof_nonneg fun r hr => (hrsb r hr).1
  have hD3 := sub3 _ hD
  have hR3 : RowsAt h3 D rs := ⟨⟨_, (N3 _ hD3).1, rfl, _, rfl⟩, fun r hr => by
    obtain ⟨t1, t2, q⟩ := (hrows r hr).2
    exact ⟨t1, t2, _, (N3 _ (sub3 _ q)).1, rfl, _, rfl⟩⟩
  have hW3 : WishesAt h3 wl ws := ⟨⟨_, (N3 _ hwl).1, rfl, _, rfl⟩, fun q hq => by
    obtain ⟨dx, od, a, b, es, nn, t1, t2, t3, t4, rfl, c⟩ := (hws q hq).2
    exact ⟨dx, es, nn, t1, t2, t3, t4, (N3 _ a).1, (N3 _ b).1, c⟩⟩
  have hF3 := F3
  refine wpAny_execs_cons (law_s4 B X T hd' hu F3 rfl rfl hR3 hW3 (fun q hq => (hws q hq).1.ok) hrsb (by omega) ?_)
  intro h4 tk4 b ids F4 im4 hidl hnd hbuf hinf
  show wpAny _ _ (execs _ _) _ _ _
  obtain ⟨G, hG1, hG2, hG3⟩ := hbuf
  -- what stands at L
  have hLs : ∃ oL, h3.get? L = some oL := by obtain ⟨oL, _, _, hL, _⟩ := hF3.ns; exact ⟨oL, hL⟩
  have nL : ∀ {a : Addr}, h3.get? a = none → a ≠ L ∧ a ≠ L + 2 ∧ a ≠ L + 3 := fun {a} e => by
    refine ⟨fun q => ?_, fun q => ?_, fun q => ?_⟩
    · obtain ⟨oL, hL⟩ := hLs; rw [q, hL] at e; cases e
    · rw [q, (N3 _ hTm).1] at e; cases e
    · rw [q, (N3 _ hIm).1] at e; cases e
  have dmem : ∀ {d : Addr}, d ∈ ids.map (·.2) → ∃ (j : Nat) (p : Addr × Addr), ids[j]? = some p ∧ p.2 = d := fun {d} hd => by
    obtain ⟨p, hp, rfl⟩ := List.mem_map.mp hd
    obtain ⟨j, hj⟩ := List.mem_iff_getElem?.mp hp
    exact ⟨j, p, hj, rfl⟩
  have dnone : ∀ {d : Addr}, d ∈ ids.map (·.2) → h3.get? d = none := fun hd => by
    obtain ⟨j, p, hj, rfl⟩ := dmem hd
    exact (hinf j p hj).1
  have gnone : ∀ {a : Addr}, h3.get? a = none → g.get? a = none := fun e => none_of_keep hF3.keep e
  obtain ⟨Mu, hMu⟩ : ∃ Mu, Mu = [L, L + 2, L + 3] ++ ids.map (·.2) := ⟨_, rfl⟩
  have muC : ∀ a ∈ [L, L + 2, L + 3], a ∈ Mu := fun a ha => by rw [hMu]; exact List.mem_append_left _ ha
  have muL : ∀ a ∈ [L], a ∈ Mu := fun a ha => muC a (by rw [List.mem_singleton.mp ha]; exact .head _)
  have muD : ∀ a ∈ L :: ids.map (·.2), a ∈ Mu := fun a ha => by
    rcases List.mem_cons.mp ha with rfl | ha
    · exact muC _ (.head _)
    · rw [hMu]; exact List.mem_append_right _ ha
  have tlN : ∀ {a : Addr} {ob : Obj}, (a, ob) ∈ tl → (∀ x, ob.data ≠ .cell x) → (Nh g h4 Mu).get? a = some ob := fun {a ob} ha hc => by
    obtain ⟨e1, e2, e3⟩ := N3 _ ha
    dsimp only at e1 e2 e3
    refine nh_get (im4 _ _ (fun q => e2 (List.mem_singleton.mp q)) e1) e3 fun q => ?_
    rw [hMu] at q
    rcases List.mem_append.mp q with q | q
    · simp only [List.mem_cons, List.not_mem_nil, or_false] at q
      rcases q with q | q | q
      · exact e2 q
      · rw [q, (N3 _ hTm).1] at e1
        exact hc _ (by rw [← Option.some.inj e1]; exact cT)
      · rw [q, (N3 _ hIm).1] at e1
        exact hc _ (by rw [← Option.some.inj e1]; exact cI)
    · rw [dnone q] at e1; cases e1
  have hR4 : RowsAt (Nh g h4 Mu) D rs := ⟨⟨_, tlN hD3 (by intro x e; cases e), rfl, _, rfl⟩, fun r hr => by
    obtain ⟨t1, t2, q⟩ := (hrows r hr).2
    exact ⟨t1, t2, _, tlN (sub3 _ q) (by intro x e; cases e), rfl, _, rfl⟩⟩
  have hW4 : WishesAt (Nh g h4 Mu) wl ws := ⟨⟨_, tlN hwl (by intro x e; cases e), rfl, _, rfl⟩, fun q hq => by
    obtain ⟨dx, od, a, b, es, nn, t1, t2, t3, t4, rfl, c⟩ := (hws q hq).2
    exact ⟨dx, es, nn, t1, t2, t3, t4, tlN a (by intro x e; cases e), tlN b (by intro x e; cases e), c⟩⟩
  have hB4 : BufAt (Nh g h4 Mu) b ids := hG3.keep fun a o e => by
    obtain ⟨e1, e2⟩ := hG1 a o e
    refine nh_get e1 (gnone e2) fun q => ?_
    rw [hMu] at q
    rcases List.mem_append.mp q with q | q
    · simp only [List.mem_cons, List.not_mem_nil, or_false] at q
      obtain ⟨z1, z2, z3⟩ := nL e2
      rcases q with q | q | q
      · exact z1 q
      · exact z2 q
      · exact z3 q
    · rw [hG2 a q] at e; cases e
  obtain ⟨us, hus⟩ : ∃ us, us = ws.map (·.2) := ⟨_, rfl⟩
  obtain ⟨M, hMdef⟩ : ∃ M : Nat → Int, M = fun j => runW us (cOf rs j) (mOf rs j * 2 ^ 20) := ⟨_, rfl⟩
  have hMj : ∀ j, runW (ws.map (·.2)) (cOf rs j) (mOf rs j * 2 ^ 20) = M j := fun j => by rw [hMdef, hus]
  have hinf4 : ∀ j p, ids[j]? = some p → ∃ o, (Nh g h4 [L, L + 2, L + 3]).get? p.2 = some o ∧ InfoD o (cOf rs j) (M j) := fun j p hj => by
    obtain ⟨e, o, e1, e2⟩ := hinf j p hj
    rw [hMj] at e2
    refine ⟨o, nh_get e1 (gnone e) fun q => ?_, e2⟩
    simp only [List.mem_cons, List.not_mem_nil, or_false] at q
    obtain ⟨z1, z2, z3⟩ := nL e
    rcases q with q | q | q
    · exact z1 q
    · exact z2 q
    · exact z3 q
  have hMu4 : ∀ a ∈ Mu, ∃ o, h4.get? a = some o := fun a ha => by
    rw [hMu] at ha
    rcases List.mem_append.mp ha with ha | ha
    · simp only [List.mem_cons, List.not_mem_nil, or_false] at ha
      rcases ha with rfl | rfl | rfl
      · obtain ⟨oL, _, _, hL, _⟩ := F4.ns; exact ⟨oL, hL⟩
      · exact ⟨_, im4 _ _ (fun q => (N3 _ hTm).2.1 (List.mem_singleton.mp q)) (N3 _ hTm).1⟩
      · exact ⟨_, im4 _ _ (fun q => (N3 _ hIm).2.1 (List.mem_singleton.mp q)) (N3 _ hIm).1⟩
    · obtain ⟨j, p, hj, rfl⟩ := dmem ha
      obtain ⟨_, o, e, _⟩ := hinf j p hj
      exact ⟨o, e⟩
  have cT4 : h4.get? (L + 2) = some oT := im4 _ _ (fun q => (N3 _ hTm).2.1 (List.mem_singleton.mp q)) (N3 _ hTm).1
  have cI4 : h4.get? (L + 3) = some oI := im4 _ _ (fun q => (N3 _ hIm).2.1 (List.mem_singleton.mp q)) (N3 _ hIm).1
  have nTL : L + 2 ∉ [L] := fun q => (N3 _ hTm).2.1 (List.mem_singleton.mp q)
  have nIL : L + 3 ∉ [L] := fun q => (N3 _ hIm).2.1 (List.mem_singleton.mp q)
  have hilen : ids.length ≤ 100 := by omega
  have hDg : ∀ d ∈ ids.map (·.2), g.get? d = none ∧ d ≠ L := fun d hd => ⟨gnone (dnone hd), (nL (dnone hd)).1⟩
  clear hG1 hG2 hG3 tlN hR3 hW3 hF3
  -- held
  refine wpAny_execs_cons (law_s5 B X T hd' hu F4 rfl (hB4.keep nh_sub) (fun j p hj => by obtain ⟨o, e1, e2⟩ := hinf4 j p hj; exact ⟨o, nh_sub _ _ e1, e2⟩) hilen ?_)
  intro h5 tk5 hl5 vs5 n5 F5 im5 hn5 hg5 hi5
  show wpAny _ _ (execs _ _) _ _ _
  have hh5 : (Nh g h5 Mu).get? hl5 = some (listOf vs5.toArray n5) := nh_get hg5 (none_of_keep F4.keep hn5) fun q => by
    obtain ⟨o, e⟩ := hMu4 _ q
    rw [hn5] at e; cases e
  refine wpAny_execs_cons (law_s6 B X T hd' hu F5 ?_)
  intro h6 tk6 md F6 im6 hmd6
  show wpAny _ _ (execs _ _) _ _ _
  obtain ⟨G6, g61, g62⟩ := hmd6
  have hmd6 : MasksAt w (Nh g h6 Mu) md := g62.keep fun a o e => by
    obtain ⟨e1, e2⟩ := g61 a o e
    refine nh_get e1 (none_of_keep F5.keep e2) fun q => ?_
    by_cases qL : a = L
    · obtain ⟨oL, _, _, hL, _⟩ := F5.ns
      rw [qL, hL] at e2; cases e2
    · obtain ⟨o', e'⟩ := hMu4 _ q
      rw [im5 _ _ (fun z => qL (List.mem_singleton.mp z)) e'] at e2; cases e2
  have im46 := im5.trans im6
  have hh6 := nh_imm (g := g) (Mut := Mu) im6 muL _ _ hh5
  have hB6 := hB4.keep (nh_imm (g := g) (Mut := Mu) im46 muL)
  have hW6 := hW4.keep (nh_imm (g := g) (Mut := Mu) im46 muL)
  have hR6 := hR4.keep (nh_imm (g := g) (Mut := Mu) im46 muL)
  have hinf6 : ∀ j p, ids[j]? = some p → ∃ o, (Nh g h6 [L, L + 2, L + 3]).get? p.2 = some o ∧ InfoD o (cOf rs j) (M j) := fun j p hj => by
    obtain ⟨o, e1, e2⟩ := hinf4 j p hj
    exact ⟨o, nh_imm im46 (fun a ha => by rw [List.mem_singleton.mp ha]; exact .head _) _ _ e1, e2⟩
  clear hh5 hB4 hW4 hR4 hinf4 g61 g62 hinf
  refine wpAny_execs_cons (law_s7 B X T hd' hu hS7 F6 rfl rfl rfl (im46 _ _ nTL cT4) cT (im46 _ _ nIL cI4) cI (hB6.keep (nh_mono muC)) (hW6.keep (nh_mono muC)) hilen (by omega) (hmd6.keep (nh_mono muC)) hinf6 (fun t ht j _ => by rw [hMdef, hus]; exact run_own (hmo j) hgood t ht) ?_)
  intro u7 h7 tk7 F7 im7
  show wpAny _ _ (execs _ _) _ _ _
  have up7 : ∀ b o, (Nh g h6 Mu).get? b = some o → (Nh g h7 Mu).get? b = some o := nh_imm im7 muC
  have hinf7 : ∀ j p, ids[j]? = some p → ∃ o, h7.get? p.2 = some o ∧ InfoD o (cOf rs j) (M j) := fun j p hj => by
    obtain ⟨o, e1, e2⟩ := hinf6 j p hj
    exact ⟨o, nh_sub _ _ (nh_imm im7 (fun _ h => h) _ _ e1), e2⟩
  have hMs : ((List.range ids.length).map M).length ≤ 100 := by simpa using hilen
  have heq : ((List.range ids.length).map M).map sh20 = rs.map (·.2.2) := by
    rw [List.map_map, hidl, ← mof_map]
    refine List.map_congr_left fun j _ => ?_
    show sh20 (M j) = mOf rs j
    rw [hMdef, hus]
    exact run_high (hmo j) hgood
  refine wpAny_execs_cons (law_s8 B X T hd' hu F7 rfl rfl rfl ((hR6.keep up7).keep (nh_mono muL)) (by omega) (nh_mono muL _ _ (up7 _ _ hh6)) hi5 hMs ((hmd6.keep up7).keep (nh_mono muL)) heq ?_)
  intro h8 tk8 F8 im8
  show wpAny _ _ (execs _ _) _ _ _
  have up8 : ∀ b o, (Nh g h7 Mu).get? b = some o → (Nh g h8 Mu).get? b = some o := nh_imm im8 muL
  have hinf8 : ∀ j p, ids[j]? = some p → ∃ o, h8.get? p.2 = some o ∧ InfoD o (cOf rs j) (M j) := fun j p hj => by
    obtain ⟨o, e1, e2⟩ := hinf7 j p hj
    exact ⟨o, im8 _ _ (fun q => (hDg _ (List.mem_map.mpr ⟨p, List.mem_of_getElem? hj, rfl⟩)).2 (List.mem_singleton.mp q)) e1, e2⟩
  have hB8 := (hB6.keep up7).keep up8
  have hW8 := (hW6.keep up7).keep up8
  have nhn : ∀ {h : Heap} {a : Addr}, a ∈ Mu → (Nh g h Mu).get? a = none := fun {h a} ha => by
    cases e : (Nh g h Mu).get? a with
    | none => rfl
    | some o => exact absurd ha (of_nh e).2.2
  refine wpAny_execs_cons (law_s9 B X T hd' hu F8 rfl rfl hnd (fun q hq => (hws q hq).1.ok) ⟨Nh g h8 Mu, nh_sub, fun d hd => nhn (muD _ (.tail _ hd)), nhn (muD _ (.head _)), hB8, hW8⟩ hinf8 hDg ?_)
  intro h9 tk9 F9 im9 hinf9
  show wpAny _ _ (execs _ _) _ _ _
  have up9 : ∀ b o, (Nh g h8 Mu).get? b = some o → (Nh g h9 Mu).get? b = some o := nh_imm im9 muD
  have hinf9' : ∀ j p, ids[j]? = some p → ∃ o, h9.get? p.2 = some o ∧ InfoD o (cOf rs j) (M j) := fun j p hj => by
    obtain ⟨o, e1, e2⟩ := hinf9 j p hj
    have e3 : runW (ws.map (·.2)) (cOf rs j) (M j) = M j := by
      rw [← hMj j]; exact run_twice (hmo j) hgood
    rw [e3] at e2
    exact ⟨o, e1, e2⟩
  have hh9 := up9 _ _ (up8 _ _ (up7 _ _ hh6))
  refine wpAny_execs_cons (law_s10 B X T hd' hu F9 rfl rfl ((hB8.keep up9).keep nh_sub) hinf9' hilen (nh_sub _ _ hh9) hi5 ?_)
  intro h10 tk10 F10 im10
  show wpAny _ _ (execs _ _) _ _ _
  have up10 : ∀ b o, (Nh g h9 Mu).get? b = some o → (Nh g h10 Mu).get? b = some o := nh_imm im10 muL
  obtain ⟨R, NR, _, hrR⟩ := rest_ex g L h10 [L]
  have inR : ∀ a o, (Nh g h10 Mu).get? a = some o → (a, o) ∈ R := fun a o e => by
    obtain ⟨e1, e2, e3⟩ := of_nh e
    exact hrR _ _ e1 e2 (fun q => e3 (muL _ (by rw [q]; exact .head _))) fun q => e3 (muL _ q)
  have hR10 := ((((hR6.keep up7).keep up8).keep up9).keep up10)
  have hW10 := ((hW8.keep up9).keep up10)
  rw [hidl] at hi5
  refine wpAny_execs_cons (law_s11 B X T hd' hu F10 NR rfl rfl rfl (rowsR_of hR10 inR) (by obtain ⟨o, e, c, n, d⟩ := hW10.1; exact ⟨o, n, inR _ _ e, c, d⟩) (fun q hq => ⟨(hws q hq).1.ok, wishL_of (hW10.2 q hq) inR⟩) hrsb (by omega) (by omega) (inR _ _ (up10 _ _ hh9)) hi5
    (fun i u mid hu1 hb he j _ => by rw [run_split (hmo j) hgood hu1 hb he]; exact hMj j) (fun i u u' h0 hu1 hu2 hne j _ => by rw [run_swap (hmo j) hgood h0 hu1 hu2 hne]; exact hMj j) ?_)
  intro m11 h11 tk11 F11
  show wpAny _ _ (execs _ _) _ _ _
  refine wpAny_execs_cons (law_s12 B X T hd' hu F11 ?_)
  exact k m11 h11 tk11 F11
end


-- part PBfin
end
end
end
end
end
end
end
end
end
end
end
end
end
end
end
end
end
end
end
end
end
end
end
end
end
end
end
end
end
end
end
end

theorem turnPBfin : True ∧ True := by
  w_top off
  first | (walk1; all_goals trivial) | exact ⟨trivial, trivial⟩

theorem news3 {g h : Heap} {L : Addr} {a b c : Addr × Obj} (N : News g L h [a, b, c]) : News g L h [c, b, a] := fun q hq => N q (by
  simp only [List.mem_cons, List.not_mem_nil, or_false] at hq ⊢
  rcases hq with h | h | h
  · exact .inr (.inr h)
  · exact .inr (.inl h)
  · exact .inl h)
-- no twins of this file's own constants: they are large
section
local macro_rules | `(tactic| k_qdec) => `(tactic| decide +kernel)
theorem fin0 : PySem.Challenge.rw_pb0168_01.Holds := hd (by
  k_go0
  rename CellsAre _ _ _ => X0
  rename News _ _ _ _ => N0
  rename Below _ _ _ _ => K0
  rename Top _ _ _ _ _ _ => T0
  rename Frag.In _ _ => KX
  rename Fr _ _ _ _ => F0
  rename Heap.IsList _ _ _ => hL0
  rename IntsAre _ _ => hI0
  rename (¬ _ < _) => hlen0
  obtain ⟨o1, o2, o3, he, d1, d2, d3⟩ := CellsAre.three X0
  cases he
  refine wpAny_mono (law_all K0 KX T0 (by decide) (by decide) F0 rfl hL0 hI0 (by omega) (news3 N0) (d3.trans rfl) d2 d1 ?_) (fun _ _ h => h) (fun _ _ h => h.elim)
  intro m' h' tk' F'
  k_steps)

end
end PB

theorem PySem.Challenge.cw_pb0168_01_holds : PySem.Challenge.rw_pb0168_01.Holds :=
  PB.fin0
