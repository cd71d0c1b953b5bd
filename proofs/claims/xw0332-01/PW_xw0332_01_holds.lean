import PyProof.Rows.All
import Wide.All
import OpenK.AllK
import Wide.FinOn
import Lean
import PySem.Challenge.RW_xw0332_01
open PySem PySem.W PyProof.Rows PySem.Calls
set_option Elab.async false
set_option maxRecDepth 100000
set_option maxHeartbeats 8000000
namespace Xw
/-- a look at the text; the tactic lays the program's twin, which hl_run rewrites by -/
theorem hl_opens : opensWell PySem.Challenge.pw_xw0332_01 = true := by k_qdec
section
local macro_rules | `(tactic| o_head $H) => `(tactic| (assumption; exact $H))
noncomputable def topK : Hook := by
  refine (fun (_ : PySem.Challenge.rw_xw0332_01.row.Holds → PySem.Challenge.rw_xw0332_01.row.Holds) (H : Hook) => H) (fun h => ?a) ?b
  k_head
end
def hkAs : List Addr := [2, 3, 15, 17, 18, 20, 21, 29, 30, 32, 33, 35, 36, 37, 39, 40, 42, 43, 44, 46, 47, 49, 50, 51, 53, 54, 56, 57, 58,
      60, 61, 63, 64, 65, 67, 68, 70, 71, 72, 73, 74, 75, 76, 86, 88, 89, 91, 92, 93, 95, 96, 98, 99, 100, 102, 103,
      105, 106, 107, 109, 110, 112, 113, 114, 116, 117, 119, 120, 121, 122, 123, 124, 125, 135, 137, 138, 140, 141, 142,
      144, 145, 147, 148, 149, 151, 152, 154, 155, 156, 158, 159, 161, 162, 163, 166, 167, 168, 170, 171, 173, 174, 175,
      176, 177, 178, 179, 182, 184, 185, 187, 188, 189, 191, 192, 194, 195, 196, 198, 199, 201, 202, 203, 205, 206, 208,
      209, 210, 212, 213, 215, 216, 217, 219, 220, 222, 223, 224, 227, 228]
def topKept : List Nat := [0, 2, 3, 4, 6, 7, 9, 10, 11, 12, 13, 14, 15]
theorem hkAs_is (P : Params) : hkAs = (topK.heap_1 P).map (·.1) := by kernel_rfl
noncomputable def topViewS : { q : Program // PySem.W.view PySem.Challenge.pw_xw0332_01 topKept = q } := by
  refine' ⟨_, _⟩
  rotate_left
  · unfold PySem.W.view PySem.Challenge.pw_xw0332_01 topKept
    simp only [List.filterMap_cons, List.filterMap_nil, List.getElem?_cons_zero, List.getElem?_cons_succ]
    exact rfl
noncomputable def topView : Program := topViewS.1
theorem topView_is : topView = PySem.W.view PySem.Challenge.pw_xw0332_01 topKept := topViewS.2.symm
theorem leftO_boot {p q : Program} {loose : List Str} {Xt : Shared → Bool} {α : Type} {Yf : Shared → α} {Ya : World → α} {N : Nat} {g0 : Bool} (e : opening p = plainProg p.main.scope.names) (hN : Nat.ble 600 N = true) (f : ∀ s, fenceModules? p s = some s)
    (run : ∀ (w : World) (os : OsState), (topFrom treeTable p w N ⟨boot_heap w.params, Array.mk [], boot_drawn, boot_toks, os⟩).map (fun s => (openSeen q loose (importedModules p.main.body) Xt g0 s, Yf s)) = some (openGood q loose, Ya w)) : LeftO p q loose Xt Yf Ya N g0 := fun w => by
  obtain ⟨⟨h, gs, d, k, os⟩, e, e'⟩ := Option.map_eq_some_iff.mp (boot_open e hN f w)
  obtain ⟨rfl, rfl, rfl, rfl⟩ : h = boot_heap w.params ∧ gs = Array.mk [] ∧ d = boot_drawn ∧ k = boot_toks := by simpa using e'
  unfold openEnds
  rw [e]
  exact run w os
theorem hl_open : opening PySem.Challenge.pw_xw0332_01 = plainProg PySem.Challenge.pw_xw0332_01.main.scope.names := by kernel_rfl
theorem hl_fence (s : Shared) : fenceModules? PySem.Challenge.pw_xw0332_01 s = some s := by kernel_rfl
/-- the looks at the top's end: the same words as the kit's head asks -/
abbrev topXt (q : Program) (s : Shared) : Bool := xlAt q [] s && recOk (RowW.records PySem.Challenge.rw_xw0332_01.row.toRowW) s
theorem hl_run (w : World) (os : OsState) : (topFrom treeTable PySem.Challenge.pw_xw0332_01 w 3006 ⟨boot_heap w.params, Array.mk [], boot_drawn, boot_toks, os⟩).map (fun s => (openSeen (PySem.W.view PySem.Challenge.pw_xw0332_01 topKept) [Str.ofString "IpHeader"] (importedModules PySem.Challenge.pw_xw0332_01.main.body) (topXt (PySem.W.view PySem.Challenge.pw_xw0332_01 topKept)) true s, (kHook topK.heap_1 hkAs hkAs_is).obs s)) = some (openGood (PySem.W.view PySem.Challenge.pw_xw0332_01 topKept) [Str.ofString "IpHeader"], (kHook topK.heap_1 hkAs hkAs_is).val w) := by
  unfold topFrom
  rw [PySem.W.Fast.te14082659384304107361, PySem.W.Fast.te4187177175401517315, PySem.W.Fast.te14364793385576792824, PySem.W.Fast.te11452490989753359375]
  kernel_rfl
theorem hl : LeftO PySem.Challenge.rw_xw0332_01.row.prog topView [Str.ofString "IpHeader"] (topXt topView) (kHook topK.heap_1 hkAs hkAs_is).obs (kHook topK.heap_1 hkAs hkAs_is).val 3006 := by
  rw [topView_is]
  exact leftO_boot (p := PySem.Challenge.pw_xw0332_01) hl_open (by rfl) hl_fence hl_run
theorem hd {d : DefRec} {kwd : List (Str × PySem.Expr)} (hdef : defOf topView PySem.Challenge.rw_xw0332_01.row.name = some (d, kwd)) (hp : PySem.Challenge.rw_xw0332_01.row.prog.theDef PySem.Challenge.rw_xw0332_01.row.name = some (d.params, d.body, d.scope)) (hkw8 : kwWritten? d.params.kwonlyargs d.params.kw_defaults = some kwd)
    (call : WalkO topView [Str.ofString "IpHeader"] (XL topView []) (kHook topK.heap_1 hkAs hkAs_is).says PySem.Challenge.rw_xw0332_01.row.toRowW d kwd fun f vs => PySem.call f vs) : PySem.Challenge.rw_xw0332_01.Holds := by
  w_on
  o_law
  refine holds_open (q := topView) (loose := [Str.ofString "IpHeader"]) (Xt := topXt topView) (XP := XL topView []) (N := 3006) hl (Hook.of _) (Hook.keeps _) (fun s e => xl_of s (Bool.and_eq_true_iff.mp e).1) XL.keeps hdef hp hkw8 (fun s e => recFacts_of (Bool.and_eq_true_iff.mp e).2) (by rfl) (by first | assumption | decide +kernel) (by decide +kernel) ⟨rfl, rfl, rfl, rfl, rfl, by decide +kernel⟩ ?hw call
  case hw => w_witness2
local macro_rules | `(tactic| walk_at "pad") => `(tactic| fail)
section
/-- all that the call's heap holds, but the ledger's own objects, stands behind it -/
def Keeps (news : List (Addr × Obj)) (h h' : Heap) : Prop := ∀ b o, h.get? b = some o → b ∉ news.map (·.1) → h'.get? b = some o

/-- what the call hands back stood in its ledger or is new -/
def Fresh (news : List (Addr × Obj)) (h : Heap) (news' : List (Addr × Obj)) : Prop := ∀ p ∈ news', p.1 ∈ news.map (·.1) ∨ h.get? p.1 = none

abbrev top (dp un : Nat) (gd : Option (List Code)) (env : Env) (outer : List Env) : Around := { handled := none, depth := dp, frames := some (env :: outer), guards := gd, units := un }

structure Ct (prog : Program) (w : World) (K : Frag) (p : Program) (loose : List Str) (mean : ExcName → Option Value) (mg mb : Str → Option Value) (k : Nat) (f : Addr) (args : List Value) (news : List (Addr × Obj)) (pre : Heap → Prop) (post : Value → List (Addr × Obj) → Prop) : Prop where
  run : ∀ (dp un : Nat) (gd : Option (List Code)) (env : Env) (outer : List Env) (A₀ : Around) (base h₀ : Heap) (L : Addr) (m : Str → Option Value) (s : Shared) (Q E : Value → Shared → Prop),
    Below A₀ base outer h₀ → Fr h₀ L s.heap m → K.In h₀ → News h₀ L s.heap news → Top p loose mean mg mb h₀ → env.frame = some L → env.scope.kind = .function → dp + k < recursionLimit → un + 8 * k < cLine → pre s.heap →
    (∀ r news' h' tk', Fr h₀ L h' m → News h₀ L h' news' → Keeps news s.heap h' → Fresh news s.heap news' → post r news' → Q r { s with heap := h', toks := tk' }) →
    wpAny (model prog w) (top dp un gd env outer) (call (.ref f) args) Q E s

/-- a callee's end -/
def Done (g : Heap) (post : Value → List (Addr × Obj) → Prop) (s₁ : Shared) (v : Value) (s' : Shared) : Prop :=
  ∃ L' m' news' h' tk', s' = { s₁ with heap := h', toks := tk' } ∧ Fr g L' h' m' ∧ News g L' h' news' ∧ post v news'

section
variable {prog : Program} {w : World} {A₀ A : Around} {s : Shared} {base h₀ : Heap} {outer : List Env} {L : Addr} {m : Str → Option Value} {env : Env} {news : List (Addr × Obj)} {K : Frag} {p : Program} {loose : List Str} {mean : ExcName → Option Value} {mg mb : Str → Option Value}
  {R : Result → Shared → Prop} {name qual : Str} {params : Arguments} {body : List Stmt} {scope : Scope} {dV kV doc pm cdv ct oc : Value} {an od : Option Addr} {osl : Array (Option Value)} {f : Addr} {args : Args} {binds : List (Str × Value)}

theorem callM (post : Value → List (Addr × Obj) → Prop) (B : Below A₀ base outer h₀) (F : Fr h₀ L s.heap m) (X₀ : K.In h₀) (N : News h₀ L s.heap news) (T : Top p loose mean mg mb h₀) (hA : A.frames = some (env :: outer)) (hf : env.frame = some L) (hke : env.scope.kind = .function)
    (ho : K.lookup f = some ⟨oc, od, .func (fnOf name qual params body scope dV kV doc pm an cdv ct), osl⟩) (hcd : codeIn K cdv qual = true) (hroom : A.depth < recursionLimit)
    (hbind : BindsTo s (fnOf name qual params body scope dV kV doc pm an cdv ct) args binds) (hloc : ∀ y ∈ binds, scope.names.lookup y.1 = some .local)
    (h : ∀ g L' h₁, Fr g L' h₁ (fun y => binds.reverse.lookup y) → News g L' h₁ news → Below A base (env :: outer) g → K.In g → Top p loose mean mg mb g → (∀ p ∈ news, p.1 < L') → Keeps news s.heap g →
      wpAny (model prog w) (A.deeper (envOf qual scope L' f cdv)) (execs body (envOf qual scope L' f cdv))
        (fun fl s' => Done g post s (match fl with | .ret v => v | _ => .none) s')
        (fun _ _ => False) { s with heap := h₁, toks := s.toks + binds.length })
    (hR : ∀ v news' h' tk', Fr h₀ L h' m → News h₀ L h' news' → Keeps news s.heap h' → Fresh news s.heap news' → post v news' → R (.ok (.ret v)) { s with heap := h', toks := tk' })
    (hco : scope.isCoroutine = false) (hgen : scope.isGenerator = false) (hk : scope.kind = .function)
    (hcell : ∀ x ∈ scope.names, x.2 ≠ .cell) : codeAny (model prog w) A (.call (.ref f) args) R s := by
  have kp : Keeps news s.heap (hideAll s.heap (news.map (·.1))) := fun b o e hb => hideAll_get _ e hb
  refine codeAny_mono (R := fun r s' => match r with | .ok (.ret v) => Done (hideAll s.heap (news.map (·.1))) post s v s' | _ => False) ?_ ?_
  · obtain ⟨FG, BG, st, _⟩ := groundX (R := fun _ _ => True) B F N hA hf hke
    refine codeAny_call_def (fd := fnX name qual params body scope [] dV kV doc pm an cdv ct) (body := body) (binds := binds) hroom ((X₀.keeps F.keep) _ _ ho) rfl (T.nolimit.keeps F.keep) (codeRec_of (X₀.keeps F.keep) hcd) rfl hbind hcell hloc (fun h₁ hns hk₁ => ?_) hco hgen hk
    refine wpAny_mono (h _ s.heap.objs.size h₁ ⟨hns, fun b o e => hk₁ b o (of_hideAll _ e), Nat.le_of_eq (hideAll_size _ _)⟩
      (fun p hp => ⟨hk₁ _ _ (N p hp).1, Nat.ne_of_lt (Heap.lt_size (N p hp).1), hideAll_none _ (List.mem_map_of_mem hp)⟩) BG (X₀.keeps st) (T.keeps st) (fun p hp => Heap.lt_size (N p hp).1) kp) (fun fl s' hl => hl) fun _ _ y => y.elim
  · intro r s' hr
    match r, hr with
    | .ok (.ret v), ⟨L', m', news', h', tk', e, F', N', hp⟩ =>
      subst e
      have nm : ∀ b o, h₀.get? b = some o → b ∉ news.map (·.1) := fun b o e q => by
        obtain ⟨p, hp, rfl⟩ := List.mem_map.mp q
        rw [(N p hp).2.2] at e; cases e
      have st : h₀.StaysIn (hideAll s.heap (news.map (·.1))) := fun b o e => hideAll_get _ (F.keep b o e) (nm b o e)
      obtain ⟨oL, es, ep, hL, hLd, hLk, hLf⟩ := F.ns
      have nL : L ∉ news.map (·.1) := fun q => by
        obtain ⟨p, hp, e⟩ := List.mem_map.mp q
        exact (N p hp).2.1 e
      have hLg := hideAll_get (news.map (·.1)) hL nL
      refine hR v news' h' tk' ⟨⟨oL, es, ep, F'.keep L oL hLg, hLd, hLk, hLf⟩, fun b o e => F'.keep b o (st b o e), F.above⟩ (fun p hp => ⟨(N' p hp).1, fun q => ?_, ?_⟩) (fun b o e hb => F'.keep b o (hideAll_get _ e hb)) (fun p hp => ?_) hp
      · have := (N' p hp).2.2; rw [q, hLg] at this; cases this
      · cases q : h₀.get? p.1 with
        | none => rfl
        | some o => have := (N' p hp).2.2; rw [st _ _ q] at this; cases this
      · by_cases hm : p.1 ∈ news.map (·.1)
        · exact .inl hm
        · refine .inr ?_
          cases q : s.heap.get? p.1 with
          | none => rfl
          | some o => have := (N' p hp).2.2; rw [hideAll_get _ q hm] at this; cases this

/-- the use of a contract over a larger ledger -/
theorem ct_use {k : Nat} {f : Addr} {vals : List Value} {sub rest big : List (Addr × Obj)} {pre : Heap → Prop} {post : Value → List (Addr × Obj) → Prop} {dp un : Nat} {gd : Option (List Code)} {Q E : Value → Shared → Prop}
    (C : Ct prog w K p loose mean mg mb k f vals sub pre post)
    (B : Below A₀ base outer h₀) (F : Fr h₀ L s.heap m) (X : K.In h₀) (N : News h₀ L s.heap big) (T : Top p loose mean mg mb h₀) (hf : env.frame = some L) (hke : env.scope.kind = .function) (hd : dp + k < recursionLimit) (hu : un + 8 * k < cLine)
    (hs : ∀ q ∈ sub, q ∈ big) (hr : ∀ q ∈ rest, q ∈ big) (hne : ∀ q ∈ rest, q.1 ∉ sub.map (·.1)) (hp : pre s.heap)
    (ret : ∀ r news' h' tk', Fr h₀ L h' m → News h₀ L h' (news' ++ rest) → (∀ p ∈ news', ∀ q ∈ rest, p.1 ≠ q.1) → post r news' → Q r { s with heap := h', toks := tk' }) :
    wpAny (model prog w) (top dp un gd env outer) (call (.ref f) vals) Q E s := by
  refine C.run dp un gd env outer A₀ base h₀ L m s Q E B F X (fun q hq => N q (hs q hq)) T hf hke hd hu hp fun r news' h' tk' F' N' kp fr hpost => ret r news' h' tk' F' (fun q hq => ?_) (fun p hp q hq e => ?_) hpost
  · rcases List.mem_append.mp hq with hq | hq
    · exact N' q hq
    · exact ⟨kp _ _ (N q (hr q hq)).1 (hne q hq), (N q (hr q hq)).2⟩
  · rcases fr p hp with h1 | h1
    · exact hne q hq (e ▸ h1)
    · rw [e, (N q (hr q hq)).1] at h1; cases h1

/-- a contract that hands its ledger back as it was -/
theorem ct_ro {k : Nat} {f : Addr} {vals : List Value} {sub big : List (Addr × Obj)} {pre : Heap → Prop} {P : Value → Prop} {dp un : Nat} {gd : Option (List Code)} {Q E : Value → Shared → Prop}
    (C : Ct prog w K p loose mean mg mb k f vals sub pre (fun r news' => P r ∧ news' = sub))
    (B : Below A₀ base outer h₀) (F : Fr h₀ L s.heap m) (X : K.In h₀) (N : News h₀ L s.heap big) (T : Top p loose mean mg mb h₀) (hf : env.frame = some L) (hke : env.scope.kind = .function) (hd : dp + k < recursionLimit) (hu : un + 8 * k < cLine)
    (hs : ∀ q ∈ sub, q ∈ big) (hp : pre s.heap)
    (ret : ∀ r h' tk', Fr h₀ L h' m → News h₀ L h' big → P r → Q r { s with heap := h', toks := tk' }) :
    wpAny (model prog w) (top dp un gd env outer) (call (.ref f) vals) Q E s := by
  refine C.run dp un gd env outer A₀ base h₀ L m s Q E B F X (fun q hq => N q (hs q hq)) T hf hke hd hu hp fun r news' h' tk' F' N' kp _ hpost => ?_
  obtain ⟨hP, e⟩ := hpost
  subst e
  refine ret r h' tk' F' (fun q hq => ⟨?_, (N q hq).2⟩) hP
  by_cases hm : q.1 ∈ news'.map (·.1)
  · obtain ⟨p, hp, e⟩ := List.mem_map.mp hm
    have h1 := (N p (hs p hp)).1
    rw [e, (N q hq).1] at h1
    rw [Option.some.inj h1, ← e]
    exact (N' p hp).1
  · exact kp _ _ (N q hq).1 hm
end
structure Ap (a b : Nat) : Prop where
  ne : a ≠ b
theorem Ap.ne' {a b : Nat} (h : Ap a b) : b ≠ a := Ne.symm h.ne
/-- one entry taken out of a ledger -/
inductive Pick (q : Addr × Obj) : List (Addr × Obj) → List (Addr × Obj) → Prop
  | head {r : List (Addr × Obj)} : Pick q (q :: r) r
  | tail {p : Addr × Obj} {r r' : List (Addr × Obj)} : Pick q r r' → Pick q (p :: r) (p :: r')
inductive Picks : List (Addr × Obj) → List (Addr × Obj) → List (Addr × Obj) → Prop
  | nil {l : List (Addr × Obj)} : Picks [] l l
  | cons {q : Addr × Obj} {sub big mid rest : List (Addr × Obj)} : Pick q big mid → Picks sub mid rest → Picks (q :: sub) big rest
theorem Pick.mem {q : Addr × Obj} {big rest : List (Addr × Obj)} (h : Pick q big rest) : q ∈ big ∧ ∀ p ∈ rest, p ∈ big := by
  induction h with
  | head => exact ⟨.head _, fun _ h => .tail _ h⟩
  | tail _ ih => exact ⟨.tail _ ih.1, fun p hp => (List.mem_cons.mp hp).elim (fun e => e ▸ .head _) fun h => .tail _ (ih.2 p h)⟩
theorem Picks.mem {sub big rest : List (Addr × Obj)} (h : Picks sub big rest) : (∀ q ∈ sub, q ∈ big) ∧ ∀ p ∈ rest, p ∈ big := by
  induction h with
  | nil => exact ⟨fun _ h => (nomatch h), fun _ h => h⟩
  | cons a _ ih => exact ⟨fun p hp => (List.mem_cons.mp hp).elim (fun e => e ▸ a.mem.1) fun h => a.mem.2 _ (ih.1 p h), fun p hp => a.mem.2 _ (ih.2 p hp)⟩
section
variable {prog : Program} {w : World} {A₀ A : Around} {s : Shared} {base h₀ : Heap} {outer : List Env} {L : Addr} {m : Str → Option Value} {env : Env} {K : Frag} {p : Program} {loose : List Str} {mean : ExcName → Option Value} {mg mb : Str → Option Value}
theorem ct_picks {k : Nat} {f : Addr} {vals : List Value} {sub rest big : List (Addr × Obj)} {pre : Heap → Prop} {post : Value → List (Addr × Obj) → Prop} {dp un : Nat} {gd : Option (List Code)} {Q E : Value → Shared → Prop}
    (C : Ct prog w K p loose mean mg mb k f vals sub pre post)
    (B : Below A₀ base outer h₀) (F : Fr h₀ L s.heap m) (X : K.In h₀) (N : News h₀ L s.heap big) (T : Top p loose mean mg mb h₀) (hf : env.frame = some L) (hke : env.scope.kind = .function) (hd : dp + k < recursionLimit) (hu : un + 8 * k < cLine)
    (hs : Picks sub big rest) (hne : ∀ q ∈ sub, ∀ x ∈ rest, x.1 ≠ q.1) (hp : pre s.heap)
    (ret : ∀ r news' h' tk', Fr h₀ L h' m → News h₀ L h' (news' ++ rest) → (∀ p ∈ news', ∀ q ∈ rest, p.1 ≠ q.1) → post r news' → Q r { s with heap := h', toks := tk' }) :
    wpAny (model prog w) (top dp un gd env outer) (call (.ref f) vals) Q E s :=
  ct_use C B F X N T hf hke hd hu hs.mem.1 hs.mem.2 (fun x hx hm => by
    obtain ⟨q, hq, e⟩ := List.mem_map.mp hm
    exact hne q hq x hx e.symm) hp ret
end
end
local macro_rules | `(tactic| walk_at "pad") => `(tactic| fail)
section
abbrev ent (w : World) (x : Str) (k : Tok) (v : Value) : DictEntry := { hash := PyData.keyHash w.params x, key := .str x k, val := v }
abbrev hoDict (w : World) (k1 k2 : Tok) (most : Int) (tm : Tok) (rw : Addr) : Obj := dictOf [ent w (Str.ofString "most") k1 (.int most tm), ent w (Str.ofString "rows") k2 (.ref rw)] 2
abbrev tup (lo hi : Int) (t1 t2 : Tok) : Obj := { cls := .type "tuple", data := .seq #[.int lo t1, .int hi t2] }

/-- a Datagram's dict -/
abbrev dgDict (w : World) (k1 k2 k3 k4 k5 k6 k7 k8 : Tok) (began : Value) (most : Int) (tm : Tok) (hs pa : Addr) (ev : Value) (ahead : Int) (ta : Tok) (fv : Value) (size : Int) (ts : Tok) : Obj :=
  dictOf [ent w (Str.ofString "began") k1 began, ent w (Str.ofString "most") k2 (.int most tm), ent w (Str.ofString "holes") k3 (.ref hs), ent w (Str.ofString "parts") k4 (.ref pa),
    ent w (Str.ofString "end") k5 ev, ent w (Str.ofString "ahead") k6 (.int ahead ta), ent w (Str.ofString "first") k7 fv, ent w (Str.ofString "size") k8 (.int size ts)] 8
abbrev endV (eo : Option Int) (te : Tok) : Value := match eo with | none => .none | some e => .int e te
inductive RowVals (h : Heap) : List Value → List (Int × Int) → Prop
  | nil : RowVals h [] []
  | cons {t : Addr} {lo hi : Int} {t1 t2 : Tok} {vs : List Value} {rs : List (Int × Int)} : IsTup h t #[.int lo t1, .int hi t2] → RowVals h vs rs → RowVals h (.ref t :: vs) ((lo, hi) :: rs)
def RowsAt (h : Heap) (rw : Addr) (rs : List (Int × Int)) : Prop := ∃ vs, h.IsList rw vs.toArray ∧ RowVals h vs rs
theorem RowVals.keeps {h h' : Heap} (hk : ∀ b o, h.get? b = some o → h'.get? b = some o) : ∀ {vs : List Value} {rs : List (Int × Int)}, RowVals h vs rs → RowVals h' vs rs
  | _, _, .nil => .nil
  | _, _, .cons a r => .cons (a.keeps hk) (r.keeps hk)
theorem RowVals.length {h : Heap} : ∀ {vs : List Value} {rs : List (Int × Int)}, RowVals h vs rs → vs.length = rs.length
  | _, _, .nil => rfl
  | _, _, .cons _ r => congrArg (· + 1) r.length
theorem RowVals.append {h : Heap} {ws : List Value} {qs : List (Int × Int)} (k : RowVals h ws qs) {vs : List Value} {rs : List (Int × Int)} (a : RowVals h vs rs) : RowVals h (vs ++ ws) (rs ++ qs) := by
  induction a with
  | nil => exact k
  | cons a _ ih => exact .cons a ih
theorem RowVals.get {h : Heap} {vs : List Value} {rs : List (Int × Int)} (a : RowVals h vs rs) : ∀ (i : Nat) (r : Int × Int), rs[i]? = some r → ∃ (t : Addr) (t1 t2 : Tok), vs[i]? = some (Value.ref t) ∧ IsTup h t #[.int r.1 t1, .int r.2 t2] := by
  induction a with
  | nil => intro i r e; simp at e
  | @cons t lo hi t1 t2 vs rs a _ ih =>
    intro i r e
    cases i with
    | zero => simp at e; subst e; exact ⟨t, t1, t2, rfl, a⟩
    | succ i => simpa using ih i r (by simpa using e)
theorem RowsAt.keeps {h h' : Heap} {rw : Addr} {rs : List (Int × Int)} (hk : ∀ b o, h.get? b = some o → h'.get? b = some o) (x : RowsAt h rw rs) : RowsAt h' rw rs :=
  let ⟨vs, a, b⟩ := x; ⟨vs, a.at (hk rw), b.keeps hk⟩
/-- what is in the ledger under a type other than ours is not ours -/
theorem not_in_of_cls {h : Heap} {news : List (Addr × Obj)} {a : Addr} {o : Obj} (N : ∀ q ∈ news, h.get? q.1 = some q.2) (ho : h.get? a = some o) (hc : ∀ q ∈ news, q.2.cls ≠ o.cls) : a ∉ news.map (·.1) := fun hm => by
  obtain ⟨q, hq, e⟩ := List.mem_map.mp hm
  have h1 := N q hq
  rw [e, ho] at h1
  exact hc q hq (by rw [Option.some.inj h1])
theorem RowVals.keepsBut {h h' : Heap} {news : List (Addr × Obj)} (N : ∀ q ∈ news, h.get? q.1 = some q.2) (hc : ∀ q ∈ news, q.2.cls ≠ .type "tuple") (kp : Keeps news h h') {vs : List Value} {rs : List (Int × Int)} (x : RowVals h vs rs) : RowVals h' vs rs := by
  induction x with
  | nil => exact .nil
  | @cons t lo hi t1 t2 vs rs a _ ih =>
    obtain ⟨o, ho, hcl, n, hd⟩ := a
    exact .cons ⟨o, kp _ _ ho (not_in_of_cls N ho fun q hq e => hc q hq (e.trans hcl)), hcl, n, hd⟩ ih
theorem RowsAt.keepsBut {h h' : Heap} {news : List (Addr × Obj)} {rw : Addr} {rs : List (Int × Int)} (x : RowsAt h rw rs) (kp : Keeps news h h') (N : ∀ q ∈ news, h.get? q.1 = some q.2) (hrw : rw ∉ news.map (·.1)) (hc : ∀ q ∈ news, q.2.cls ≠ .type "tuple") : RowsAt h' rw rs :=
  let ⟨vs, a, b⟩ := x; ⟨vs, a.at fun o e => kp _ o e hrw, b.keepsBut N hc kp⟩
theorem RowsAt.keepsCls {h h' : Heap} {news : List (Addr × Obj)} {rw : Addr} {rs : List (Int × Int)} (x : RowsAt h rw rs) (kp : Keeps news h h') (N : ∀ q ∈ news, h.get? q.1 = some q.2) (hc : ∀ q ∈ news, q.2.cls ≠ .type "tuple" ∧ q.2.cls ≠ .type "list") : RowsAt h' rw rs := by
  refine x.keepsBut kp N ?_ fun q hq => (hc q hq).1
  obtain ⟨vs, ⟨o, ho, hcl, _⟩, _⟩ := x
  exact not_in_of_cls N ho fun q hq e => (hc q hq).2 (e.trans hcl)
def rowP (r : Int × Int) : PyData := .tuple [.int r.1, .int r.2]
theorem RowVals.reads {h : Heap} : ∀ {vs : List Value} {rs : List (Int × Int)}, RowVals h vs rs → ∃ as, ReadsAll h vs (rs.map rowP) as
  | _, _, .nil => ⟨_, .nil⟩
  | _, _, .cons ⟨o, ho, hc, n, hd⟩ r => let ⟨_, q⟩ := r.reads; ⟨_, .cons (reads_tuple_at ho hc hd (.cons (.int _ _) (.cons (.int _ _) .nil))) q⟩
theorem RowsAt.reads {h : Heap} {rw : Addr} {rs : List (Int × Int)} (x : RowsAt h rw rs) : ∃ as, Reads h (.ref rw) (.list (rs.map rowP)) as :=
  let ⟨_, ⟨_, ho, hc, _, hd⟩, b⟩ := x; let ⟨_, q⟩ := b.reads; ⟨_, reads_list_at ho hc hd (by simpa using q)⟩
theorem rows_lay : ∀ rs : List (Int × Int), PyData.canLayAll0 (rs.map rowP) = true ∧ PyData.depthAll (rs.map rowP) ≤ 1
  | [] => by simp [PyData.canLayAll0, PyData.depthAll]
  | r :: rs => by
    have q := rows_lay rs
    simp only [List.map_cons, PyData.canLayAll0, PyData.depthAll, rowP, PyData.canLay0, PyData.depth, q.1, Bool.and_self, true_and]
    have := q.2
    simp; omega
section
variable {prog : Program} {w : World} {A : Around} {E : Value → Shared → Prop} {s : Shared} {g : Heap} {L rw l : Addr} {m : Str → Option Value} {news : List (Addr × Obj)} {rs : List (Int × Int)} {Q : Value → Shared → Prop} {n : Nat}
theorem rows_ne (F : Fr g L s.heap m) (N : News g L s.heap news) (hr : RowsAt g rw rs) (hm : (l, listOf #[] n) ∈ news) (hu : A.units + 64 < cLine) (h : Q (.bool (!decide (rs = []))) s) :
    wpAny (model prog w) A (compareOp .NotEq (.ref rw) (.ref l)) Q E s := by
  obtain ⟨as, ra⟩ := (hr.keeps F.keep).reads
  have rb : Reads s.heap (.ref l) (.list []) [l] := reads_list_at (N _ hm).1 rfl rfl .nil
  have q := rows_lay rs
  refine ne_dataH ra rb ?_ ?_ hu ?_
  · simp only [SeqAt.shaped, PyData.canLay0, PyData.depth, q.1, Bool.true_and]
    have := q.2
    exact decide_eq_true (by omega)
  · decide
  · have e : PyData.eqv (.list (rs.map rowP)) (.list []) = decide (rs = []) := by
      cases rs <;> simp [PyData.eqv, PyData.eqvAll]
    rw [e]; exact h
theorem rows_last {value slice : PySem.Expr} {u : Tok} {lo hi : Int} {ini : List (Int × Int)} (F : Fr g L s.heap m) (hr : RowsAt g rw (ini ++ [(lo, hi)])) (hsz : ini.length < 1000000)
    (h : ∀ tp t1 t2, IsTup g tp #[.int lo t1, .int hi t2] → Q (.ref tp) s)
    (hs : subscripted slice false (.ref rw) (.int (-1) u) = operate [.ref rw, .int (-1) u] (getItem (.ref rw) (.int (-1) u))) :
    wpAny (model prog w) A (subscriptTail value slice (.ref rw) (.int (-1) u)) Q E s := by
  obtain ⟨vs, hl, hv⟩ := hr
  have e := hv.length
  obtain ⟨t, t1, t2, hx, ht⟩ := hv.get ini.length (lo, hi) (by simp)
  have hl' : s.heap.IsList rw vs.toArray := hl.at (F.keep rw)
  simp only [List.length_append, List.length_cons, List.length_nil] at e
  refine tail_any hl'.typeIs slot_list_getitem.lookup (wpAny_getItem_list_neg hl' (by decide) ?_ (by decide) (x := .ref t) ?_ (h t t1 t2 ht)) hs
  · rw [List.size_toArray, e]; omega
  · have : (-1 + (vs.toArray.size : Int)).toNat = ini.length := by rw [List.size_toArray, e]; omega
    rw [this]; simpa using hx
theorem tup_at {value slice : PySem.Expr} {u : Tok} {tp : Addr} {items : Array Value} {k : Int} {x : Value} (F : Fr g L s.heap m) (ht : IsTup g tp items) (h0 : 0 ≤ k) (hk : k < 100) (hx : items[k.toNat]? = some x) (h : Q x s)
    (hs : subscripted slice false (.ref tp) (.int k u) = operate [.ref tp, .int k u] (getItem (.ref tp) (.int k u))) :
    wpAny (model prog w) A (subscriptTail value slice (.ref tp) (.int k u)) Q E s := by
  have ht' := F.tup ht
  have hn : k.toNat < items.size := by
    rcases Nat.lt_or_ge k.toNat items.size with h | h
    · exact h
    · rw [Array.getElem?_eq_none h] at hx; cases hx
  exact tail_any ht'.typeIs slot_tuple_getitem.lookup (getItem_tuple ht' (by omega) (by omega) (seqIndex_of h0 (by omega)) hx h) hs
theorem tup_fst {value slice : PySem.Expr} {u : Tok} {tp : Addr} {x y : Value} (F : Fr g L s.heap m) (ht : IsTup g tp #[x, y]) (h : Q x s)
    (hs : subscripted slice false (.ref tp) (.int 0 u) = operate [.ref tp, .int 0 u] (getItem (.ref tp) (.int 0 u))) :
    wpAny (model prog w) A (subscriptTail value slice (.ref tp) (.int 0 u)) Q E s := tup_at F ht (by decide) (by decide) rfl h hs
theorem tup_snd {value slice : PySem.Expr} {u : Tok} {tp : Addr} {x y : Value} (F : Fr g L s.heap m) (ht : IsTup g tp #[x, y]) (h : Q y s)
    (hs : subscripted slice false (.ref tp) (.int 1 u) = operate [.ref tp, .int 1 u] (getItem (.ref tp) (.int 1 u))) :
    wpAny (model prog w) A (subscriptTail value slice (.ref tp) (.int 1 u)) Q E s := tup_at F ht (by decide) (by decide) rfl h hs
end
end
local macro_rules | `(tactic| walk_at "pad") => `(tactic| fail)
section
/-- the end of a loop's turn: the iterator stands as it stood, the rest is as J says -/
def TurnEnd (h₀ : Heap) (L : Addr) (ic : Value) (I : Addr) (ob : Obj) (J : (Str → Option Value) → List (Addr × Obj) → Prop) (s₁ s₂ : Shared) : Prop :=
  ∃ h' tk m' nx, s₂ = { s₁ with heap := h', toks := tk } ∧ Fr h₀ L h' m' ∧ News h₀ L h' nx ∧ h'.get? I = some ob ∧ (∀ p ∈ nx, p.2.cls ≠ ic ∨ p.1 ≠ I) ∧ J m' nx
def TurnP (h₀ : Heap) (L : Addr) (ic : Value) (I : Addr) (ob : Obj) (J : (Str → Option Value) → List (Addr × Obj) → Prop) (s₁ : Shared) (Q : Flow → Shared → Prop) (f : Flow) (s₂ : Shared) : Prop :=
  match f with
  | .ret v => Q (.ret v) s₂
  | .brk => Q .next s₂
  | _ => TurnEnd h₀ L ic I ob J s₁ s₂
section
variable {prog : Program} {w : World} {A : Around} {E : Value → Shared → Prop} {s : Shared} {env : Env} {h₀ : Heap} {x : Str} {body : List Stmt} {Q : Flow → Shared → Prop}
theorem loopJ {I : Addr} {fp wr : List Addr} {n : Nat} {P : Nat → Value → Prop} {St : Nat → Heap → Prop} {m₀ : Str → Option Value} {news : List (Addr × Obj)} (ic : Value) (J : Nat → (Str → Option Value) → List (Addr × Obj) → Prop)
    (W : Walks prog w A I fp wr n P St) (hLf : env.locals ∉ fp) (hwr : wr = [I]) (hI : h₀.get? I = none) (hIf : I ∈ fp) (hfp : ∀ b ∈ fp, h₀.get? b = none → b = I)
    (hob : ∀ i h, St i h → ∃ ob, h.get? I = some ob ∧ ob.cls = ic)
    (hst : St 0 s.heap) (F : Fr h₀ env.locals s.heap m₀) (N : News h₀ env.locals s.heap news) (hnw : ∀ p ∈ news, p.1 ≠ I) (hj : J 0 m₀ news)
    (turn : ∀ i v m₁ nx h tk ob, i < n → P i v → J i m₁ nx → ob.cls = ic → (∀ p ∈ nx, p.1 ≠ I) → Fr h₀ env.locals h (fun y => if y = x then some v else m₁ y) → News h₀ env.locals h ((I, ob) :: nx) →
      wpAny (model prog w) A (execs body env) (TurnP h₀ env.locals ic I ob (J (i + 1)) { s with heap := h, toks := tk } Q) E { s with heap := h, toks := tk })
    (done : ∀ m₁ nx h tk, J n m₁ nx → Fr h₀ env.locals h m₁ → News h₀ env.locals h nx → Q .next { s with heap := h, toks := tk }) :
    LoopAtV prog w A h₀ env x body Q E (.ref I) s := by
  subst hwr
  refine ⟨I, fp, [I], n, P, St, m₀, news, J, rfl, W, hLf, fun b hb => by rw [List.mem_singleton.mp hb]; exact hI, fun p hp q => hnw p hp (List.mem_singleton.mp q), hst, F, N, hj, ?_, ?_⟩
  · rintro i v m₁ nx s₁ own ⟨hh', tk', rfl⟩ hin hP hJ hoff hown hget hall hSt F₁ N₁
    obtain ⟨ob, hob1, hob2⟩ := hob _ _ hSt
    have hin1 : (I, ob) ∈ own := hall I hIf hI ob hob1
    have N₂ : News h₀ env.locals hh' ((I, ob) :: nx) := fun p hp => by
      rcases List.mem_cons.mp hp with rfl | hp
      · exact N₁ _ (List.mem_append_left _ hin1)
      · exact N₁ _ (List.mem_append_right _ hp)
    refine wpAny_mono (turn i v m₁ nx hh' tk' ob hin hP hJ hob2 (fun p hp q => hoff p hp (List.mem_singleton.mpr q)) F₁ N₂) (fun f s₂ p => ?_) fun _ _ e => e
    have fin : TurnEnd h₀ env.locals ic I ob (J (i + 1)) { s with heap := hh', toks := tk' } s₂ → LoopStepU h₀ env.locals [I] own (J (i + 1)) { s with heap := hh', toks := tk' } .next s₂ := by
      rintro ⟨h', tk, m', nx', e, F', N', hI', hc, hm⟩
      refine ⟨rfl, h', tk, m', nx', e, F', fun p hp => ?_, fun p hp hq => ?_, hm⟩
      · rcases List.mem_append.mp hp with hp | hp
        · have hpI : p.1 = I := hfp p.1 (hown p hp) (N₁ p (List.mem_append_left _ hp)).2.2
          have e1 := hget p hp
          rw [hpI] at e1
          have e2 : some ob = some p.2 := hob1.symm.trans e1
          have e3 := Option.some.inj e2
          exact ⟨by rw [hpI, ← e3]; exact hI', (N₁ p (List.mem_append_left _ hp)).2⟩
        · exact N' p hp
      · have e1 := (N' p hp).1
        rw [List.mem_singleton.mp hq, hI'] at e1
        exact (hc p hp).elim (fun hc => hc (by rw [← Option.some.inj e1]; exact hob2)) fun hne => hne (List.mem_singleton.mp hq)
    cases f with
    | ret v => exact .ret p
    | brk => exact .brk p
    | next => exact .next (fin p)
    | cont => exact .cont (fin p)
  · rintro h' tk m' nx' F' N' _ hJ
    exact done m' nx' h' tk hJ F' N'

theorem rangeJ {r : Addr} {a₀ b₀ : Int} {t₀ u₀ v₀ : Tok} {n : Nat} {m₀ : Str → Option Value} {news : List (Addr × Obj)} (J : Nat → (Str → Option Value) → List (Addr × Obj) → Prop)
    (hh : A.handled = none) (hr : IsRange s.heap r a₀ b₀ 1 t₀ u₀ v₀) (hsmall : Builtin.Range.small a₀ b₀ 1 = true) (hn : Builtin.Range.rangeSize a₀ b₀ 1 = (n : Int)) (F : Fr h₀ env.locals s.heap m₀) (N : News h₀ env.locals s.heap news) (hj : J 0 m₀ news)
    (turn : ∀ i t m₁ nx h tk I ob, i < n → J i m₁ nx → ob.cls = .type "range_iterator" → (∀ p ∈ nx, p.1 ≠ I) → Fr h₀ env.locals h (fun y => if y = x then some (.int (a₀ + (i : Int)) t) else m₁ y) → News h₀ env.locals h ((I, ob) :: nx) →
      wpAny (model prog w) A (execs body env) (TurnP h₀ env.locals (.type "range_iterator") I ob (J (i + 1)) { s with heap := h, toks := tk } Q) E { s with heap := h, toks := tk })
    (done : ∀ m₁ nx h tk, J n m₁ nx → Fr h₀ env.locals h m₁ → News h₀ env.locals h nx → Q .next { s with heap := h, toks := tk }) :
    wpAny (model prog w) A (pyIter (.ref r)) (fun it s₂ => LoopAtV prog w A h₀ env x body Q E it s₂) E s := by
  refine wpAny_pyIter_range hr hsmall ?_
  have W : Walks prog w A s.heap.objs.size [s.heap.objs.size] [s.heap.objs.size] n (fun i v => i < n ∧ ∃ t, v = .int (a₀ + i * 1) t)
      (fun i h => IsRangeIter h s.heap.objs.size (a₀ + (i : Nat) * 1) ((n : Int) - (i : Nat)) 1) := (Walks.range hh _ a₀ 1 n).bound
  refine loopJ (.type "range_iterator") J W ?_ rfl ?_ (by simp) (fun b hb _ => List.mem_singleton.mp hb) (fun i h st => ⟨_, st, rfl⟩) (by show IsRangeIter _ _ _ _ _; rw [hn]; simpa using Heap.get?_push_size _ rfl) (F.push _) (fun p hp => ⟨Heap.get?_push_of_some _ (N p hp).1, (N p hp).2⟩) ?_ hj ?_ ?_
  · intro hm
    exact absurd F.ns.lt ((List.mem_singleton.mp hm) ▸ Nat.lt_irrefl _)
  · exact next_is_new F
  · intro p hp hI
    exact absurd (Heap.lt_size (N p hp).1) (hI ▸ Nat.lt_irrefl _)
  · rintro i v m₁ nx h tk ob hi ⟨_, t, rfl⟩ hJ hc hoff F₁ N₁
    have e1 : a₀ + (i : Int) * 1 = a₀ + (i : Int) := by omega
    rw [e1] at F₁
    exact turn i t m₁ nx h tk _ ob hi hJ hc hoff F₁ N₁
  · exact fun m₁ nx h tk hJ F₁ N₁ => done m₁ nx h tk hJ F₁ N₁

/-- over a list of the base -/
theorem listJ {l : Addr} {vs : List Value} {m₀ : Str → Option Value} {news : List (Addr × Obj)} (J : Nat → (Str → Option Value) → List (Addr × Obj) → Prop)
    (hh : A.handled = none) (hl : h₀.IsList l vs.toArray) (F : Fr h₀ env.locals s.heap m₀) (N : News h₀ env.locals s.heap news) (hj : J 0 m₀ news)
    (turn : ∀ i v m₁ nx h tk I ob, vs[i]? = some v → J i m₁ nx → ob.cls = .type "list_iterator" → (∀ p ∈ nx, p.1 ≠ I) → Fr h₀ env.locals h (fun y => if y = x then some v else m₁ y) → News h₀ env.locals h ((I, ob) :: nx) →
      wpAny (model prog w) A (execs body env) (TurnP h₀ env.locals (.type "list_iterator") I ob (J (i + 1)) { s with heap := h, toks := tk } Q) E { s with heap := h, toks := tk })
    (done : ∀ m₁ nx h tk, J vs.length m₁ nx → Fr h₀ env.locals h m₁ → News h₀ env.locals h nx → Q .next { s with heap := h, toks := tk }) :
    wpAny (model prog w) A (pyIter (.ref l)) (fun it s₂ => LoopAtV prog w A h₀ env x body Q E it s₂) E s := by
  have hls : s.heap.IsList l vs.toArray := hl.at fun o e => F.keep l o e
  obtain ⟨ol, hol, _⟩ := id hl
  have hlt : l < h₀.objs.size := Heap.lt_size hol
  have hne : l ≠ s.heap.objs.size := Nat.ne_of_lt (Nat.lt_trans (Nat.lt_of_lt_of_le hlt F.above) F.ns.lt)
  refine wpAny_pyIter_list hls ?_
  have W := Walks.list (prog := prog) (w := w) hh s.heap.objs.size l hne vs.toArray
  rw [List.size_toArray] at W
  refine loopJ (.type "list_iterator") J W ?_ rfl ?_ (by simp) ?_ (fun i h st => by obtain ⟨⟨o, ho, hc, _⟩, _⟩ := st; exact ⟨o, ho, hc⟩) ⟨⟨_, Heap.get?_push_size _ rfl, rfl, rfl⟩, hls.at fun o e => Heap.get?_push_of_some _ e⟩ (F.push _) (fun p hp => ⟨Heap.get?_push_of_some _ (N p hp).1, (N p hp).2⟩) ?_ hj ?_ ?_
  · intro hm
    rcases List.mem_cons.mp hm with e | hm
    · exact absurd F.ns.lt (e ▸ Nat.lt_irrefl _)
    · exact absurd (Nat.lt_of_lt_of_le hlt F.above) ((List.mem_singleton.mp hm) ▸ Nat.lt_irrefl _)
  · exact next_is_new F
  · intro b hb hn
    rcases List.mem_cons.mp hb with e | hm
    · exact e
    · rw [List.mem_singleton.mp hm, hol] at hn; cases hn
  · intro p hp hI
    exact absurd (Heap.lt_size (N p hp).1) (hI ▸ Nat.lt_irrefl _)
  · rintro i v m₁ nx h tk ob hi hP hJ hc hoff F₁ N₁
    exact turn i v m₁ nx h tk _ ob (by simpa using hP) hJ hc hoff F₁ N₁
  · exact fun m₁ nx h tk hJ F₁ N₁ => done m₁ nx h tk hJ F₁ N₁

/-- between the turns of a loop that stores names alone -/
def ROJ (x : Str) (stored : List Str) (m₀ : Str → Option Value) (news : List (Addr × Obj)) (m' : Str → Option Value) (nx' : List (Addr × Obj)) : Prop := nx' = news ∧ ∀ z, z ≠ x → stored.contains z = false → m' z = m₀ z
theorem ro_fr {L : Addr} {h : Heap} {stored : List Str} {m₀ m₁ : Str → Option Value} {v : Value} (h2 : ∀ z, z ≠ x → stored.contains z = false → m₁ z = m₀ z)
    (F : Fr h₀ L h (fun y => if y = x then some v else m₁ y)) : Fr h₀ L h (fun y => if y = x then some v else if stored.contains y then m₁ y else m₀ y) := by
  have em : (fun y => if y = x then some v else if stored.contains y then m₁ y else m₀ y) = fun y => if y = x then some v else m₁ y := by
    funext y
    by_cases hy : y = x
    · rw [if_pos hy, if_pos hy]
    · rw [if_neg hy, if_neg hy]
      cases hc : stored.contains y with
      | true => simp
      | false => simp only [Bool.false_eq_true, if_false]; exact (h2 y hy hc).symm
  rw [em]; exact F
theorem ro_frOut {L : Addr} {h : Heap} {stored : List Str} {m₀ m₁ : Str → Option Value} (h2 : ∀ z, z ≠ x → stored.contains z = false → m₁ z = m₀ z)
    (F : Fr h₀ L h m₁) : Fr h₀ L h (fun y => if y = x then m₁ y else if stored.contains y then m₁ y else m₀ y) := by
  have em : (fun y => if y = x then m₁ y else if stored.contains y then m₁ y else m₀ y) = m₁ := by
    funext y
    by_cases hy : y = x
    · rw [if_pos hy]
    · rw [if_neg hy]
      cases hc : stored.contains y with
      | true => simp
      | false => simp only [Bool.false_eq_true, if_false]; exact (h2 y hy hc).symm
  rw [em]; exact F
theorem rangeRO {r : Addr} {a₀ b₀ : Int} {t₀ u₀ v₀ : Tok} {n : Nat} {m₀ : Str → Option Value} {news : List (Addr × Obj)} (stored : List Str)
    (hh : A.handled = none) (hr : IsRange s.heap r a₀ b₀ 1 t₀ u₀ v₀) (hsmall : Builtin.Range.small a₀ b₀ 1 = true) (hn : Builtin.Range.rangeSize a₀ b₀ 1 = (n : Int)) (F : Fr h₀ env.locals s.heap m₀) (N : News h₀ env.locals s.heap news)
    (turn : ∀ (i : Nat) (t : Tok) (u : Str → Option Value) (h : Heap) (tk : Nat) (I : Addr) (ob : Obj), i < n → ob.cls = .type "range_iterator" → (∀ p ∈ news, p.1 ≠ I) → Fr h₀ env.locals h (fun y => if y = x then some (.int (a₀ + (i : Int)) t) else if stored.contains y then u y else m₀ y) → News h₀ env.locals h ((I, ob) :: news) →
      wpAny (model prog w) A (execs body env) (TurnP h₀ env.locals (.type "range_iterator") I ob (ROJ x stored m₀ news) { s with heap := h, toks := tk } Q) E { s with heap := h, toks := tk })
    (done : ∀ (u : Str → Option Value) h tk, Fr h₀ env.locals h (fun y => if y = x then u y else if stored.contains y then u y else m₀ y) → News h₀ env.locals h news → Q .next { s with heap := h, toks := tk }) :
    wpAny (model prog w) A (pyIter (.ref r)) (fun it s₂ => LoopAtV prog w A h₀ env x body Q E it s₂) E s := by
  refine rangeJ (fun _ => ROJ x stored m₀ news) hh hr hsmall hn F N ⟨rfl, fun _ _ _ => rfl⟩ ?_ ?_
  · rintro i t m₁ nx h tk I ob hi ⟨rfl, h2⟩ hc hoff F₁ N₁
    exact turn i t m₁ h tk I ob hi hc hoff (ro_fr h2 F₁) N₁
  · rintro m₁ nx h tk ⟨rfl, h2⟩ F₁ N₁
    exact done m₁ h tk (ro_frOut h2 F₁) N₁

variable {target : Expr}
/-- a turn of any target over a list: of the base (left of hlb) or of the ledger, where J keeps it (right) -/
theorem turnsJ {l : Addr} {vs : List Value} {m₀ : Str → Option Value} {news : List (Addr × Obj)} (J : Nat → (Str → Option Value) → List (Addr × Obj) → Prop)
    (hh : A.handled = none) (hl : s.heap.IsList l vs.toArray) (hlL : l ≠ env.locals) (hlb : (∃ o, h₀.get? l = some o) ∨ (∃ lo, ∀ i m nx, J i m nx → (l, lo) ∈ nx))
    (F : Fr h₀ env.locals s.heap m₀) (N : News h₀ env.locals s.heap news) (hj : J 0 m₀ news)
    (turn : ∀ i v m₁ nx h tk I ob, vs[i]? = some v → J i m₁ nx → ob.cls = .type "list_iterator" → (∀ p ∈ nx, p.1 ≠ I) → Fr h₀ env.locals h m₁ → News h₀ env.locals h ((I, ob) :: nx) →
      wpAny (model prog w) A (assign target env v) (fun _ s₃ => wpAny (model prog w) A (execs body env) (TurnP h₀ env.locals (.type "list_iterator") I ob (J (i + 1)) { s with heap := h, toks := tk } Q) E s₃) E { s with heap := h, toks := tk })
    (done : ∀ m₁ nx h tk, J vs.length m₁ nx → Fr h₀ env.locals h m₁ → News h₀ env.locals h nx → Q .next { s with heap := h, toks := tk }) :
    wpAny (model prog w) A (pyIter (.ref l)) (fun it s₂ => TurnsAt prog w A h₀ env target body Q E it s₂) E s := by
  obtain ⟨ol, hol, _⟩ := id hl
  have hlt : l < s.heap.objs.size := Heap.lt_size hol
  have hne : l ≠ s.heap.objs.size := Nat.ne_of_lt hlt
  refine wpAny_pyIter_list hl ?_
  have W := Walks.list (prog := prog) (w := w) hh s.heap.objs.size l hne vs.toArray
  rw [List.size_toArray] at W
  have hI : h₀.get? s.heap.objs.size = none := next_is_new F
  refine ⟨s.heap.objs.size, [s.heap.objs.size, l], [s.heap.objs.size], vs.length, _, _, _, m₀, news, J, rfl, KTurns.ofWalks W (fun i v s Q E st q => letGo_listiter st.1 q), ?_, fun b hb => by rw [List.mem_singleton.mp hb]; exact hI, ?_, ?_, F.push _, (fun p hp => ⟨Heap.get?_push_of_some _ (N p hp).1, (N p hp).2⟩), hj, ?_, ?_⟩
  · intro hm
    rcases List.mem_cons.mp hm with e | hm
    · exact absurd F.ns.lt (e ▸ Nat.lt_irrefl _)
    · exact hlL (List.mem_singleton.mp hm).symm
  · intro p hp hI
    exact absurd (Heap.lt_size (N p hp).1) ((List.mem_singleton.mp hI) ▸ Nat.lt_irrefl _)
  · exact ⟨⟨_, Heap.get?_push_size _ rfl, rfl, rfl⟩, hl.at fun o e => Heap.get?_push_of_some _ e⟩
  · intro i v m₁ nx hh' tk' own hin hP hJ hoff hown hget hall hSt F₁ N₁
    obtain ⟨⟨ob, hob1, hob2, hob3⟩, hls⟩ := hSt
    have hin1 : (s.heap.objs.size, ob) ∈ own := hall _ (by simp) hI ob hob1
    have N₂ : News h₀ env.locals hh' ((s.heap.objs.size, ob) :: nx) := fun p hp => by
      rcases List.mem_cons.mp hp with rfl | hp
      · exact N₁ _ (List.mem_append_left _ hin1)
      · exact N₁ _ (List.mem_append_right _ hp)
    refine wpAny_mono (turn i v m₁ nx hh' tk' s.heap.objs.size ob (by simpa using hP) hJ hob2 (fun p hp q => hoff p hp (List.mem_singleton.mpr q)) F₁ N₂) (fun _ s₃ q => wpAny_mono q (fun f s₂ p => ?_) fun _ _ e => e) fun _ _ e => e
    have fin : TurnEnd h₀ env.locals (.type "list_iterator") s.heap.objs.size ob (J (i + 1)) { s with heap := hh', toks := tk' } s₂ → LoopStepU h₀ env.locals [s.heap.objs.size] own (J (i + 1)) { s with heap := hh', toks := tk' } .next s₂ := by
      rintro ⟨h', tk, m', nx', e, F', N', hI', hc, hm⟩
      refine ⟨rfl, h', tk, m', nx', e, F', fun p hp => ?_, fun p hp hq => ?_, hm⟩
      · rcases List.mem_append.mp hp with hp | hp
        · refine ⟨?_, (N₁ p (List.mem_append_left _ hp)).2⟩
          have e1 := hget p hp
          rcases List.mem_cons.mp (hown p hp) with hpI | hpl
          · rw [hpI] at e1
            have e2 : some ob = some p.2 := hob1.symm.trans e1
            rw [hpI, ← Option.some.inj e2]; exact hI'
          · have hpl' := List.mem_singleton.mp hpl
            have hn : h₀.get? l = none := by rw [← hpl']; exact (N₁ p (List.mem_append_left _ hp)).2.2
            rcases hlb with ⟨o, ho⟩ | ⟨lo, hlo⟩
            · rw [hn] at ho; cases ho
            · have q1 := (N₁ _ (List.mem_append_right _ (hlo i m₁ nx hJ))).1
              have q2 := (N' _ (hlo (i + 1) m' nx' hm)).1
              rw [hpl'] at e1
              have q3 : some lo = some p.2 := q1.symm.trans e1
              rw [hpl', ← Option.some.inj q3]
              exact q2
        · exact N' p hp
      · have e1 := (N' p hp).1
        rw [List.mem_singleton.mp hq, hI'] at e1
        exact (hc p hp).elim (fun hc => hc (by rw [← Option.some.inj e1]; exact hob2)) fun hne => hne (List.mem_singleton.mp hq)
    cases f with
    | ret v => exact .ret p
    | brk => exact .brk p
    | next => exact .next (fin p)
    | cont => exact .cont (fin p)
  · exact fun h' tk m' nx' F' N' _ hJ => done m' nx' h' tk hJ F' N'

/-- between the turns: what the ledger is, and the names that stay -/
def SJ (stored : List Str) (m₀ : Str → Option Value) (J : List (Addr × Obj) → Prop) (m' : Str → Option Value) (nx' : List (Addr × Obj)) : Prop := J nx' ∧ ∀ z, stored.contains z = false → m' z = m₀ z
theorem sj_fr {L : Addr} {h : Heap} {stored : List Str} {m₀ m₁ : Str → Option Value} (h2 : ∀ z, stored.contains z = false → m₁ z = m₀ z)
    (F : Fr h₀ L h m₁) : Fr h₀ L h (fun y => if stored.contains y then m₁ y else m₀ y) := by
  have em : (fun y => if stored.contains y then m₁ y else m₀ y) = m₁ := by
    funext y
    cases hc : stored.contains y with
    | true => simp
    | false => simp only [Bool.false_eq_true, if_false]; exact (h2 y hc).symm
  rw [em]; exact F
theorem turnsS {l : Addr} {vs : List Value} {m₀ : Str → Option Value} {news : List (Addr × Obj)} (stored : List Str) (J : Nat → List (Addr × Obj) → Prop)
    (hh : A.handled = none) (hl : s.heap.IsList l vs.toArray) (hlL : l ≠ env.locals) (hlb : (∃ o, h₀.get? l = some o) ∨ (∃ lo, ∀ i nx, J i nx → (l, lo) ∈ nx))
    (F : Fr h₀ env.locals s.heap m₀) (N : News h₀ env.locals s.heap news) (hj : J 0 news)
    (turn : ∀ (i : Nat) (v : Value) (u : Str → Option Value) (nx : List (Addr × Obj)) (h : Heap) (tk : Tok) (I : Addr) (ob : Obj), vs[i]? = some v → J i nx → ob.cls = .type "list_iterator" → (∀ p ∈ nx, p.1 ≠ I) → Fr h₀ env.locals h (fun y => if stored.contains y then u y else m₀ y) → News h₀ env.locals h ((I, ob) :: nx) →
      wpAny (model prog w) A (assign target env v) (fun _ s₃ => wpAny (model prog w) A (execs body env) (TurnP h₀ env.locals (.type "list_iterator") I ob (SJ stored m₀ (J (i + 1))) { s with heap := h, toks := tk } Q) E s₃) E { s with heap := h, toks := tk })
    (done : ∀ (u : Str → Option Value) (nx : List (Addr × Obj)) (h : Heap) (tk : Tok), J vs.length nx → Fr h₀ env.locals h (fun y => if stored.contains y then u y else m₀ y) → News h₀ env.locals h nx → Q .next { s with heap := h, toks := tk }) :
    wpAny (model prog w) A (pyIter (.ref l)) (fun it s₂ => TurnsAt prog w A h₀ env target body Q E it s₂) E s := by
  refine turnsJ (fun i => SJ stored m₀ (J i)) hh hl hlL (hlb.imp id fun ⟨lo, h⟩ => ⟨lo, fun i m nx q => h i nx q.1⟩) F N ⟨hj, fun _ _ => rfl⟩ ?_ ?_
  · rintro i v m₁ nx h tk I ob hv ⟨hJ, h2⟩ hc hoff F₁ N₁
    exact turn i v m₁ nx h tk I ob hv hJ hc hoff (sj_fr h2 F₁) N₁
  · rintro m₁ nx h tk ⟨hJ, h2⟩ F₁ N₁
    exact done m₁ nx h tk hJ (sj_fr h2 F₁) N₁
theorem sj_frx {L : Addr} {h : Heap} {stored : List Str} {m₀ m₁ : Str → Option Value} {v : Value} (h2 : ∀ z, stored.contains z = false → m₁ z = m₀ z)
    (F : Fr h₀ L h (fun y => if y = x then some v else m₁ y)) : Fr h₀ L h (fun y => if y = x then some v else if stored.contains y then m₁ y else m₀ y) := by
  have em : (fun y => if y = x then some v else if stored.contains y then m₁ y else m₀ y) = fun y => if y = x then some v else m₁ y := by
    funext y
    by_cases hy : y = x
    · rw [if_pos hy, if_pos hy]
    · rw [if_neg hy, if_neg hy]
      cases hc : stored.contains y with
      | true => simp
      | false => simp only [Bool.false_eq_true, if_false]; exact (h2 y hc).symm
  rw [em]; exact F
/-- over a range: the loop's own name is among the stored ones -/
theorem rangeS {r : Addr} {a₀ b₀ : Int} {t₀ u₀ v₀ : Tok} {n : Nat} {m₀ : Str → Option Value} {news : List (Addr × Obj)} (stored : List Str) (J : Nat → List (Addr × Obj) → Prop)
    (hh : A.handled = none) (hr : IsRange s.heap r a₀ b₀ 1 t₀ u₀ v₀) (hsmall : Builtin.Range.small a₀ b₀ 1 = true) (hn : Builtin.Range.rangeSize a₀ b₀ 1 = (n : Int)) (F : Fr h₀ env.locals s.heap m₀) (N : News h₀ env.locals s.heap news) (hj : J 0 news)
    (turn : ∀ (i : Nat) (t : Tok) (u : Str → Option Value) (nx : List (Addr × Obj)) (h : Heap) (tk : Tok) (I : Addr) (ob : Obj), i < n → J i nx → ob.cls = .type "range_iterator" → (∀ p ∈ nx, p.1 ≠ I) → Fr h₀ env.locals h (fun y => if y = x then some (.int (a₀ + (i : Int)) t) else if stored.contains y then u y else m₀ y) → News h₀ env.locals h ((I, ob) :: nx) →
      wpAny (model prog w) A (execs body env) (TurnP h₀ env.locals (.type "range_iterator") I ob (SJ stored m₀ (J (i + 1))) { s with heap := h, toks := tk } Q) E { s with heap := h, toks := tk })
    (done : ∀ (u : Str → Option Value) (nx : List (Addr × Obj)) (h : Heap) (tk : Tok), J n nx → Fr h₀ env.locals h (fun y => if stored.contains y then u y else m₀ y) → News h₀ env.locals h nx → Q .next { s with heap := h, toks := tk }) :
    wpAny (model prog w) A (pyIter (.ref r)) (fun it s₂ => LoopAtV prog w A h₀ env x body Q E it s₂) E s := by
  refine rangeJ (fun i => SJ stored m₀ (J i)) hh hr hsmall hn F N ⟨hj, fun _ _ => rfl⟩ ?_ ?_
  · rintro i t m₁ nx h tk I ob hi ⟨hJ, h2⟩ hc hoff F₁ N₁
    exact turn i t m₁ nx h tk I ob hi hJ hc hoff (sj_frx h2 F₁) N₁
  · rintro m₁ nx h tk ⟨hJ, h2⟩ F₁ N₁
    exact done m₁ nx h tk hJ (sj_fr h2 F₁) N₁
end
end
local macro_rules | `(tactic| walk_at "pad") => `(tactic| fail)
section
/-- between the turns: one name's value and the ledger are as J says, the names that are not stored stay -/
def SJY (y : Str) (stored : List Str) (m₀ : Str → Option Value) (J : Value → List (Addr × Obj) → Prop) (m' : Str → Option Value) (nx' : List (Addr × Obj)) : Prop :=
  ∃ v, m' y = some v ∧ J v nx' ∧ ∀ z, z ≠ y → stored.contains z = false → m' z = m₀ z
section
variable {prog : Program} {w : World} {A : Around} {E : Value → Shared → Prop} {s : Shared} {env : Env} {h₀ : Heap} {x : Str} {body : List Stmt} {Q : Flow → Shared → Prop}
theorem sjy_eq {y : Str} {stored : List Str} {m₀ m₁ : Str → Option Value} {v : Value} (h1 : m₁ y = some v) (h2 : ∀ z, z ≠ y → stored.contains z = false → m₁ z = m₀ z) :
    (fun z => if z = y then some v else if stored.contains z then m₁ z else m₀ z) = m₁ := by
  funext z
  by_cases hy : z = y
  · rw [if_pos hy, hy, h1]
  · rw [if_neg hy]
    cases hc : stored.contains z with
    | true => simp
    | false => simp only [Bool.false_eq_true, if_false]; exact (h2 z hy hc).symm
theorem rangeY {r : Addr} {a₀ b₀ : Int} {t₀ u₀ v₀ : Tok} {n : Nat} {m₀ : Str → Option Value} {news : List (Addr × Obj)} {vy : Value} (y : Str) (stored : List Str) (J : Nat → Value → List (Addr × Obj) → Prop)
    (hh : A.handled = none) (hr : IsRange s.heap r a₀ b₀ 1 t₀ u₀ v₀) (hsmall : Builtin.Range.small a₀ b₀ 1 = true) (hn : Builtin.Range.rangeSize a₀ b₀ 1 = (n : Int)) (F : Fr h₀ env.locals s.heap m₀) (N : News h₀ env.locals s.heap news) (hy : m₀ y = some vy) (hj : J 0 vy news)
    (turn : ∀ (i : Nat) (t : Tok) (u : Str → Option Value) (v : Value) (nx : List (Addr × Obj)) (h : Heap) (tk : Tok) (I : Addr) (ob : Obj) (QQ : Flow → Shared → Prop), i < n → J i v nx → ob.cls = .type "range_iterator" → (∀ p ∈ nx, p.1 ≠ I) →
      Fr h₀ env.locals h (fun z => if z = x then some (.int (a₀ + (i : Int)) t) else if z = y then some v else if stored.contains z then u z else m₀ z) → News h₀ env.locals h ((I, ob) :: nx) →
      (∀ s₂, TurnEnd h₀ env.locals (.type "range_iterator") I ob (SJY y stored m₀ (J (i + 1))) { s with heap := h, toks := tk } s₂ → QQ .next s₂) →
      wpAny (model prog w) A (execs body env) QQ E { s with heap := h, toks := tk })
    (done : ∀ (u : Str → Option Value) (v : Value) (nx : List (Addr × Obj)) (h : Heap) (tk : Tok), J n v nx → Fr h₀ env.locals h (fun z => if z = y then some v else if stored.contains z then u z else m₀ z) → News h₀ env.locals h nx → Q .next { s with heap := h, toks := tk }) :
    wpAny (model prog w) A (pyIter (.ref r)) (fun it s₂ => LoopAtV prog w A h₀ env x body Q E it s₂) E s := by
  refine rangeJ (fun i => SJY y stored m₀ (J i)) hh hr hsmall hn F N ⟨vy, hy, hj, fun _ _ _ => rfl⟩ ?_ ?_
  · rintro i t m₁ nx h tk I ob hi ⟨v, h1, hJ, h2⟩ hc hoff F₁ N₁
    refine turn i t m₁ v nx h tk I ob _ hi hJ hc hoff ?_ N₁ (fun _ x => x)
    have e := sjy_eq h1 h2
    have e2 : (fun z => if z = x then some (Value.int (a₀ + (i : Int)) t) else if z = y then some v else if stored.contains z then m₁ z else m₀ z) = fun z => if z = x then some (Value.int (a₀ + (i : Int)) t) else m₁ z := by
      funext z
      by_cases hz : z = x
      · rw [if_pos hz, if_pos hz]
      · rw [if_neg hz, if_neg hz]
        exact congrFun e z
    rw [e2]; exact F₁
  · rintro m₁ nx h tk ⟨v, h1, hJ, h2⟩ F₁ N₁
    refine done m₁ v nx h tk hJ ?_ N₁
    rw [sjy_eq h1 h2]; exact F₁
end
end
local macro_rules | `(tactic| walk_at "pad") => `(tactic| fail)
section
local macro_rules | `(tactic| ktr_enter) => `(tactic| (
  refine' callM _ ?k1 ?k2 ?k3 ?k4 ?k5 ?kA ?kF ?kK ?k6 ?k7 ?k8 ?k9 ?kB ?_ ?kR ?c2 ?c3 ?c4 ?c5; (case kR => assumption); (case kA => exact rfl); (case kF => assumption); (case kK => assumption); (case k1 => k_asm); (case k2 => k_asm); (case k3 => k_asm); (case k4 => k_asm); (case k5 => k_asm); (case k6 => k_is); (case k7 => k_is); (case k8 => ktr_room); (case k9 => exact BindsTo.of_eq rfl); (case c5 => decide); (case kB => exact locs rfl); (case c2 => exact rfl); (case c3 => exact rfl); (case c4 => exact rfl); k_whole; intro g' L' h' F' N' B' X' T' l' kp'; (try dsimp only); (try k_fold)))

theorem sqk {a x : Int} : IntMulOk ([a, x.fmod 2147483647].getD (Int.toNat 1) 0) ([a, x.fmod 2147483647].getD (Int.toNat 1) 0) := by
  have h0 : 0 ≤ x.fmod 2147483647 := Int.fmod_nonneg_of_pos _ (by decide)
  have h1 : x.fmod 2147483647 < 2147483647 := Int.fmod_lt_of_pos _ (by decide)
  show IntMulOk (x.fmod 2147483647) (x.fmod 2147483647)
  exact PySem.IntMulOk.of_right (PySem.intBits_le_64 (by omega) (by omega))
local macro_rules | `(tactic| walk_at "binaryOp Mult int int") => `(tactic| (with_reducible refine mul_int ?_ sqk))
theorem take_ct (w : World) (mean : ExcName → Option Value) (mg mb : Str → Option Value) (src : Addr) (a b top : Int) (ta tb tt : Tok) (n : Nat) (ha : 0 ≤ a) (hb : 0 ≤ b) (hb' : b < 2147483647) (ht : 0 < top) (ht' : top < 100) :
    Ct PySem.Challenge.rw_xw0332_01.row.prog w (topK.heap_1 w.params) topView (looseW topView [Str.ofString "IpHeader"]) mean mg mb 20 195 [.ref src, .int top tt] [(src, listOf #[.int a ta, .int b tb] n)] (fun _ => True)
      (fun r news' => ∃ d t a' b' ta' tb' n', r = .int d t ∧ 0 ≤ d ∧ d < top ∧ 0 ≤ a' ∧ 0 ≤ b' ∧ b' < 2147483647 ∧ news' = [(src, listOf #[.int a' ta', .int b' tb'] n')]) := by
  w_top off
  k_fill
  refine ⟨?_⟩
  intro dp un gd env outer A₀ base h₀ L m s Q E B F X N T hf hke hdp hun _ hret
  refine wpAny_call ?_
  k_dflt ktr_enter
  k_steps
  all_goals (try dsimp only)
  all_goals (refine ⟨_, _, _, _, _, rfl, by k_asm, by k_asm, ?_⟩)
  · exact ⟨_, _, _, _, _, _, _, rfl, Int.fmod_nonneg_of_pos _ ht, Int.fmod_lt_of_pos _ ht, Int.fdiv_nonneg ha (Int.le_of_lt ht), hb, hb', rfl⟩
  · exact ⟨_, _, _, _, _, _, _, rfl, Int.fmod_nonneg_of_pos _ ht, Int.fmod_lt_of_pos _ ht, ha, Int.fmod_nonneg_of_pos _ (by decide), Int.fmod_lt_of_pos _ (by decide), rfl⟩
end
local macro_rules | `(tactic| walk_at "pad") => `(tactic| fail)
local macro_rules | `(tactic| walk_at "pad") => `(tactic| fail)
section
local macro_rules | `(tactic| ktr_enter) => `(tactic| (
  refine' callM _ ?k1 ?k2 ?k3 ?k4 ?k5 ?kA ?kF ?kK ?k6 ?k7 ?k8 ?k9 ?kB ?_ ?kR ?c2 ?c3 ?c4 ?c5; (case kR => assumption); (case kA => exact rfl); (case kF => assumption); (case kK => assumption); (case k1 => k_asm); (case k2 => k_asm); (case k3 => k_asm); (case k4 => k_asm); (case k5 => k_asm); (case k6 => k_is); (case k7 => k_is); (case k8 => ktr_room); (case k9 => exact BindsTo.of_eq rfl); (case c5 => decide); (case kB => exact locs rfl); (case c2 => exact rfl); (case c3 => exact rfl); (case c4 => exact rfl); k_whole; intro g' L' h' F' N' B' X' T' l' kp'; (try dsimp only); (try k_fold)))

def denied (ns : List Int) (most e : Int) (more : Bool) : Bool := if most < e then true else if more = true then decide (∀ x ∈ ns, x ≤ e) else !(ns.any fun x => x == e)
theorem denied_max {ns : List Int} {most e M : Int} (h : ¬ most < e) (hm : M ∈ ns) (ha : ∀ a, a ∈ ns → a ≤ M) : decide (M ≤ e) = denied ns most e true := by
  unfold denied
  rw [if_neg h, if_pos rfl]
  refine decide_eq_decide.mpr ⟨fun hM x hx => Int.le_trans (ha x hx) hM, fun hx => hx M hm⟩
theorem den_ct (w : World) (mean : ExcName → Option Value) (mg mb : Str → Option Value) (sz : Addr) (vs : List Value) (ns : List Int) (most e : Int) (more : Bool) (t1 t2 : Tok) (hI : IntsAre vs ns) (hne : 0 < ns.length) :
    Ct PySem.Challenge.rw_xw0332_01.row.prog w (topK.heap_1 w.params) topView (looseW topView [Str.ofString "IpHeader"]) mean mg mb 20 216 [.ref sz, .int most t1, .int e t2, .bool more] [] (fun h => h.IsList sz vs.toArray)
      (fun r news' => r = .bool (denied ns most e more) ∧ news' = []) := by
  w_top off
  k_fill
  refine ⟨?_⟩
  intro dp un gd env outer A₀ base h₀ L m s Q E B F X N T hf hke hdp hun hsz hret
  refine wpAny_call ?_
  k_dflt ktr_enter
  rename Keeps _ _ _ => kp
  rename Fr _ _ _ _ => F1
  have hL := Heap.IsList.at hsz fun o e => kp _ o e (by simp)
  k_steps
  all_goals (try dsimp only)
  all_goals (refine ⟨_, _, _, _, _, rfl, by k_asm, by k_asm, ?_⟩)
  · exact ⟨by rw [denied, if_pos (by assumption)], rfl⟩
  · refine ⟨?_, rfl⟩
    rename (¬ most < e) => h1
    rename (more = true) => h2
    rename (_ ∈ ns) => h3
    rename (∀ a, a ∈ ns → a ≤ _) => h4
    subst h2
    exact congrArg Value.bool (denied_max h1 h3 h4)
  · refine ⟨?_, rfl⟩
    rename (¬ most < e) => h1
    rename (more = false) => h2
    subst h2
    exact congrArg Value.bool (by rw [denied, if_neg h1, if_neg (by decide)])
end
local macro_rules | `(tactic| walk_at "pad") => `(tactic| fail)
section
local macro_rules | `(tactic| ktr_enter) => `(tactic| (
  refine' callM _ ?k1 ?k2 ?k3 ?k4 ?k5 ?kA ?kF ?kK ?k6 ?k7 ?k8 ?k9 ?kB ?_ ?kR ?c2 ?c3 ?c4 ?c5; (case kR => assumption); (case kA => exact rfl); (case kF => assumption); (case kK => assumption); (case k1 => k_asm); (case k2 => k_asm); (case k3 => k_asm); (case k4 => k_asm); (case k5 => k_asm); (case k6 => k_is); (case k7 => k_is); (case k8 => ktr_room); (case k9 => exact BindsTo.of_eq rfl); (case c5 => decide); (case kB => exact locs rfl); (case c2 => exact rfl); (case c3 => exact rfl); (case c4 => exact rfl); k_whole; intro g' L' h' F' N' B' X' T' l' kp'; (try dsimp only); (try k_fold)))

local macro_rules | `(tactic| walk_at "compareOp NotEq ref ref") => `(tactic| ((with_reducible show wpAny _ _ (compareOp CmpOp.NotEq (Value.ref _) (Value.ref _)) _ _ _); k_dflt (refine rows_ne (by k_asm) (by k_asm) (by assumption) (by k_mem) (by ke_room) ?_)))
local macro_rules | `(tactic| walk_at "subscriptTail") => `(tactic| first
  | ((with_reducible show wpAny _ _ (subscriptTail _ _ (Value.ref _) (Value.int 0 _)) _ _ _); (with_reducible refine tup_fst (by k_asm) (by with_reducible assumption) ?_ (by with_unfolding_all rfl)))
  | ((with_reducible show wpAny _ _ (subscriptTail _ _ (Value.ref _) (Value.int 1 _)) _ _ _); (with_reducible refine tup_snd (by k_asm) (by with_reducible assumption) ?_ (by with_unfolding_all rfl)))
  | ((with_reducible show wpAny _ _ (subscriptTail _ _ (Value.ref _) (Value.int (-1) _)) _ _ _); (with_reducible refine rows_last (by k_asm) (by with_reducible assumption) (by assumption) ?_ (by with_unfolding_all rfl)); intro tp9 u9 v9 ht9))
/-- how far the pieces with more behind them are known to reach -/
def reachv (rs : List (Int × Int)) (most : Int) : Int := match rs.getLast? with | some r => if r.2 = most then r.1 else most | none => most
theorem reachv_last {ini : List (Int × Int)} {lo hi most : Int} : reachv (ini ++ [(lo, hi)]) most = if hi = most then lo else most := by simp [reachv]
theorem rs_cases (rs : List (Int × Int)) : rs = [] ∨ ∃ ini lo hi, rs = ini ++ [(lo, hi)] := by
  rcases List.eq_nil_or_concat rs with h | ⟨ini, ⟨lo, hi⟩, h⟩
  · exact .inl h
  · exact .inr ⟨ini, lo, hi, by simpa using h⟩
theorem News.get' {h₀ h : Heap} {L : Addr} {news : List (Addr × Obj)} {q : Addr × Obj} (N : News h₀ L h news) (hq : q ∈ news) : h.get? q.1 = some q.2 ∧ q.1 ≠ L ∧ h₀.get? q.1 = none := N q hq
theorem reach_ct (w : World) (mean : ExcName → Option Value) (mg mb : Str → Option Value) (hs hd' rw : Addr) (k1 k2 : Tok) (most : Int) (tm : Tok) (rs : List (Int × Int)) (hlen : rs.length < 1000000) :
    Ct PySem.Challenge.rw_xw0332_01.row.prog w (topK.heap_1 w.params) topView (looseW topView [Str.ofString "IpHeader"]) mean mg mb 20 113 [.ref hs]
      [(hs, instObj 123 hd'), (hd', hoDict w k1 k2 most tm rw)] (fun h => RowsAt h rw rs)
      (fun r news' => (∃ t, r = .int (reachv rs most) t) ∧ news' = [(hs, instObj 123 hd'), (hd', hoDict w k1 k2 most tm rw)]) := by
  w_top off
  k_fill
  refine ⟨?_⟩
  intro dp un gd env outer A₀ base h₀ L m s Q E B F X N T hf hke hdp hun hsz hret
  rcases rs_cases rs with hrs | ⟨ini, lo, hi, hrs⟩
  · subst hrs
    refine wpAny_call ?_
    k_dflt ktr_enter
    rename Keeps _ _ _ => kp
    have hR := hsz.keepsCls kp (fun q hq => (N q hq).1) (by simp)
    k_steps
    all_goals (try dsimp only)
    all_goals (refine ⟨_, _, _, _, _, rfl, by k_asm, (fun q hq => News.get' (by k_asm) (.tail _ hq)), ?_⟩)
    all_goals (refine ⟨⟨_, rfl⟩, rfl⟩)
  · subst hrs
    have hil : ini.length < 1000000 := by simp at hlen; omega
    refine wpAny_call ?_
    k_dflt ktr_enter
    rename Keeps _ _ _ => kp
    have hR := hsz.keepsCls kp (fun q hq => (N q hq).1) (by simp)
    k_steps
    all_goals (try (exfalso; simp at *; done))
    all_goals (try dsimp only)
    all_goals (refine ⟨_, _, _, _, _, rfl, by k_asm, (fun q hq => News.get' (by k_asm) (.tail _ hq)), ?_⟩)
    all_goals (refine ⟨?_, rfl⟩; rw [reachv_last])
    · exact ⟨_, by rw [if_pos (by assumption)]⟩
    · exact ⟨_, by rw [if_neg (by assumption)]⟩
end
local macro_rules | `(tactic| walk_at "pad") => `(tactic| fail)
local macro_rules | `(tactic| walk_at "pad") => `(tactic| fail)
local macro_rules | `(tactic| walk_at "pad") => `(tactic| fail)
section
local macro_rules | `(tactic| ktr_enter) => `(tactic| (
  refine' callM _ ?k1 ?k2 ?k3 ?k4 ?k5 ?kA ?kF ?kK ?k6 ?k7 ?k8 ?k9 ?kB ?_ ?kR ?c2 ?c3 ?c4 ?c5; (case kR => assumption); (case kA => exact rfl); (case kF => assumption); (case kK => assumption); (case k1 => k_asm); (case k2 => k_asm); (case k3 => k_asm); (case k4 => k_asm); (case k5 => k_asm); (case k6 => k_is); (case k7 => k_is); (case k8 => ktr_room); (case k9 => exact BindsTo.of_eq rfl); (case c5 => decide); (case kB => exact locs rfl); (case c2 => exact rfl); (case c3 => exact rfl); (case c4 => exact rfl); k_whole; intro g' L' h' F' N' B' X' T' l' kp'; (try dsimp only); (try k_fold)))

local macro_rules | `(tactic| walk_at "compareOp NotEq ref ref") => `(tactic| ((with_reducible show wpAny _ _ (compareOp CmpOp.NotEq (Value.ref _) (Value.ref _)) _ _ _); k_dflt (refine rows_ne (by k_asm) (by k_asm) (by assumption) (by k_mem) (by ke_room) ?_)))
local macro_rules | `(tactic| walk_at "subscriptTail") => `(tactic| first
  | ((with_reducible show wpAny _ _ (subscriptTail _ _ (Value.ref _) (Value.int 0 _)) _ _ _); (with_reducible refine tup_fst (by k_asm) (by with_reducible assumption) ?_ (by with_unfolding_all rfl)))
  | ((with_reducible show wpAny _ _ (subscriptTail _ _ (Value.ref _) (Value.int 1 _)) _ _ _); (with_reducible refine tup_snd (by k_asm) (by with_reducible assumption) ?_ (by with_unfolding_all rfl)))
  | ((with_reducible show wpAny _ _ (subscriptTail _ _ (Value.ref _) (Value.int (-1) _)) _ _ _); (with_reducible refine rows_last (by k_asm) (by with_reducible assumption) (by assumption) ?_ (by with_unfolding_all rfl)); intro tp9 u9 v9 ht9))
local macro_rules | `(tactic| walk_at "call ref") => `(tactic| (
  (try dsimp only); (with_reducible show wpAny _ _ (PySem.call (Value.ref 113) _ _) _ _ _); k_dflt (
  refine' ct_ro (reach_ct (hlen := ?hlen) ..) ?B ?F ?X ?N ?T ?hf ?hke ?hd ?hu ?hs ?hp ?_;
  (case B => k_asm); (case F => k_asm); (case X => k_asm); (case N => k_asm); (case T => k_asm); (case hf => exact rfl); (case hke => exact rfl);
  (case hs => k_allIn); (case hp => exact RowsAt.keeps (Fr.keep (by k_asm)) (by with_reducible assumption)); (case hlen => assumption); (case hd => ktr_room); (case hu => ktr_units); k_whole);
  intro r9 h9 tk9 F9 N9 P9; obtain ⟨t9, e9⟩ := P9; subst e9; (try dsimp only)))
def against (eo : Option Int) (ahead reach most e : Int) (more : Bool) : Bool :=
  if most < e then true else if more = true then (match eo with | none => false | some E => decide (E ≤ e)) else match eo with | some E => !decide (e = E) | none => decide (e < reach) || (decide (e ≤ ahead) && decide (0 < e))
theorem against_ct (w : World) (mean : ExcName → Option Value) (mg mb : Str → Option Value) (o d hs hd' rw pa : Addr) (k1 k2 k3 k4 k5 k6 k7 k8 : Tok) (began : Value) (fv : Value) (size : Int) (ts : Tok) (j1 j2 : Tok) (most : Int) (tm tm' : Tok) (eo : Option Int) (te : Tok) (ahead : Int) (ta : Tok) (rs : List (Int × Int)) (b e : Int) (tb t2 : Tok) (more : Bool) (hlen : rs.length < 1000000) :
    Ct PySem.Challenge.rw_xw0332_01.row.prog w (topK.heap_1 w.params) topView (looseW topView [Str.ofString "IpHeader"]) mean mg mb 40 148 [.ref o, .int b tb, .int e t2, .bool more]
      [(o, instObj 177 d), (d, dgDict w k1 k2 k3 k4 k5 k6 k7 k8 began most tm hs pa (endV eo te) ahead ta fv size ts), (hs, instObj 123 hd'), (hd', hoDict w j1 j2 most tm' rw)] (fun h => RowsAt h rw rs)
      (fun r news' => r = .bool (against eo ahead (reachv rs most) most e more) ∧ news' = [(o, instObj 177 d), (d, dgDict w k1 k2 k3 k4 k5 k6 k7 k8 began most tm hs pa (endV eo te) ahead ta fv size ts), (hs, instObj 123 hd'), (hd', hoDict w j1 j2 most tm' rw)]) := by
  w_top off
  k_fill
  refine ⟨?_⟩
  intro dp un gd env outer A₀ base h₀ L m s Q E B F X N T hf hke hdp hun hsz hret
  cases eo with
  | some E0 =>
    dsimp only [endV] at N hret
    refine wpAny_call ?_
    k_dflt ktr_enter
    k_steps
    all_goals (try dsimp only)
    all_goals (refine ⟨_, _, _, _, _, rfl, by k_asm, by k_asm, ?_⟩)
    all_goals (refine ⟨?_, rfl⟩; refine congrArg Value.bool ?_)
    · rw [against, if_pos (by assumption)]
    · rw [against, if_neg (by assumption), if_pos (by assumption)]
    · rename (more = false) => hm9
      subst hm9
      rw [against, if_neg (by assumption), if_neg (by decide)]
      rfl
  | none =>
    dsimp only [endV] at N hret
    refine wpAny_call ?_
    k_dflt ktr_enter
    rename Keeps _ _ _ => kp
    have hR := hsz.keepsCls kp (fun q hq => (N q hq).1) (by simp)
    k_steps
    all_goals (try dsimp only)
    all_goals (refine ⟨_, _, _, _, _, rfl, by k_asm, by k_asm, ?_⟩)
    all_goals (refine ⟨?_, rfl⟩; refine congrArg Value.bool ?_)
    · rw [against, if_pos (by assumption)]
    · rw [against, if_neg (by assumption), if_pos (by assumption)]
    all_goals (
      rename (more = false) => hm9
      rw [against, if_neg (by assumption), if_neg (by rw [hm9]; decide)]
      rw [Bool.eq_iff_iff]
      simp only [Bool.or_eq_true, Bool.and_eq_true, decide_eq_true_eq]
      omega)
end
local macro_rules | `(tactic| walk_at "pad") => `(tactic| fail)
local macro_rules | `(tactic| walk_at "pad") => `(tactic| fail)
local macro_rules | `(tactic| walk_at "pad") => `(tactic| fail)
local macro_rules | `(tactic| walk_at "pad") => `(tactic| fail)
section
local macro_rules | `(tactic| ktr_enter) => `(tactic| (
  refine' callM _ ?k1 ?k2 ?k3 ?k4 ?k5 ?kA ?kF ?kK ?k6 ?k7 ?k8 ?k9 ?kB ?_ ?kR ?c2 ?c3 ?c4 ?c5; (case kR => assumption); (case kA => exact rfl); (case kF => assumption); (case kK => assumption); (case k1 => k_asm); (case k2 => k_asm); (case k3 => k_asm); (case k4 => k_asm); (case k5 => k_asm); (case k6 => k_is); (case k7 => k_is); (case k8 => ktr_room); (case k9 => exact BindsTo.of_eq rfl); (case c5 => decide); (case kB => exact locs rfl); (case c2 => exact rfl); (case c3 => exact rfl); (case c4 => exact rfl); k_whole; intro g' L' h' F' N' B' X' T' l' kp'; (try dsimp only); (try k_fold)))

local macro_rules | `(tactic| walk_at "call ref") => `(tactic| (
  (try dsimp only); (with_reducible show wpAny _ _ (PySem.call (Value.ref 148) _ _) _ _ _); k_dflt (
  refine' ct_ro (against_ct (hlen := ?hlen) ..) ?B ?F ?X ?N ?T ?hf ?hke ?hd ?hu ?hs ?hp ?_;
  (case B => k_asm); (case F => k_asm); (case X => k_asm); (case N => k_asm); (case T => k_asm); (case hf => exact rfl); (case hke => exact rfl);
  (case hs => k_allIn); (case hp => exact RowsAt.keeps (Fr.keep (by k_asm)) (by with_reducible assumption)); (case hlen => assumption); (case hd => ktr_room); (case hu => ktr_units); k_whole);
  intro r9 h9 tk9 F9 N9 P9; (try rw [hlaw _ _ (by omega)] at P9); subst P9; (try dsimp only)))
local macro_rules | `(tactic| walk_at "call ref") => `(tactic| (
  (try dsimp only); (with_reducible show wpAny _ _ (PySem.call (Value.ref 216) _ _) _ _ _); k_dflt (
  refine' ct_ro (den_ct (hI := ?hI) (hne := ?hne) ..) ?B ?F ?X ?N ?T ?hf ?hke ?hd ?hu ?hs ?hp ?_;
  (case B => k_asm); (case F => k_asm); (case X => k_asm); (case N => k_asm); (case T => k_asm); (case hf => exact rfl); (case hke => exact rfl);
  (case hs => exact fun _ h => nomatch h); (case hp => exact Heap.IsList.at (by with_reducible assumption) (fun o e => Fr.keep (by k_asm) _ o e)); (case hI => assumption); (case hne => assumption); (case hd => ktr_room); (case hu => ktr_units); k_whole);
  intro r9 h9 tk9 F9 N9 P9; subst P9; (try dsimp only)))
local macro_rules | `(tactic| walk_at "pyIter ref") => `(tactic| (
  (with_reducible show wpAny _ _ (pyIter (Value.ref _)) (fun it s₂ => LoopAtV _ _ _ _ _ _ _ _ _ it s₂) _ _);
  (rename Fr _ _ _ _ => lF'); (rename News _ _ _ _ => lN'); (rename IsRange _ _ _ _ _ _ _ _ => rgX);
  (with_unfolding_all refine' rangeRO [Str.ofString "more"] (by rfl) (by first | exact rgX | assumption) (by exact small_one (by omega) (by omega) (by omega) (by omega)) (by first | exact rangeSize_nat _ _ | rfl) lF' lN' (fun i' t' u' h' tk' I' ob' hi' hc' hoff' F' N' => ?_) (fun u' h' tk' F' N' => ?_));
  (all_goals (try clear lF' lN'));
  (all_goals (try simp only [List.forall_mem_cons, List.not_mem_nil, false_implies, implies_true, and_true] at hoff'))))
theorem asked_ct (w : World) (mean : ExcName → Option Value) (mg mb : Str → Option Value) (o d hs hd' rw pa sz : Addr) (vs : List Value) (ns : List Int) (k1 k2 k3 k4 k5 k6 k7 k8 : Tok) (began : Value) (fv : Value) (size : Int) (ts : Tok) (j1 j2 : Tok) (most : Int) (tm tm' tm2 : Tok) (eo : Option Int) (te : Tok) (ahead : Int) (ta : Tok) (rs : List (Int × Int)) (hlen : rs.length < 1000000)
    (hI : IntsAre vs ns) (hne : 0 < ns.length) (hm0 : 0 ≤ most) (hm1 : most < 100) (hlaw : ∀ (e : Int) (more : Bool), 0 ≤ e → against eo ahead (reachv rs most) most e more = denied ns most e more) :
    Ct PySem.Challenge.rw_xw0332_01.row.prog w (topK.heap_1 w.params) topView (looseW topView [Str.ofString "IpHeader"]) mean mg mb 60 223 [.ref o, .ref sz, .int most tm2]
      [(o, instObj 177 d), (d, dgDict w k1 k2 k3 k4 k5 k6 k7 k8 began most tm hs pa (endV eo te) ahead ta fv size ts), (hs, instObj 123 hd'), (hd', hoDict w j1 j2 most tm' rw)] (fun h => RowsAt h rw rs ∧ h.IsList sz vs.toArray)
      (fun r news' => r = .bool true ∧ news' = [(o, instObj 177 d), (d, dgDict w k1 k2 k3 k4 k5 k6 k7 k8 began most tm hs pa (endV eo te) ahead ta fv size ts), (hs, instObj 123 hd'), (hd', hoDict w j1 j2 most tm' rw)]) := by
  w_top off
  k_fill
  refine ⟨?_⟩
  intro dp un gd env outer A₀ base h₀ L m s Q E B F X N T hf hke hdp hun hsz hret
  refine wpAny_call ?_
  k_dflt ktr_enter
  rename Keeps _ _ _ => kp
  have hR := hsz.1.keepsCls kp (fun q hq => (N q hq).1) (by simp)
  have hL := Heap.IsList.at hsz.2 fun ob e => kp _ ob e (not_in_of_cls (fun q hq => (N q hq).1) e (by
    obtain ⟨o1, e1, c1, _⟩ := hsz.2
    rw [e] at e1; cases e1; rw [c1]; simp))
  k_steps
  · rename ((_ != _) = true) => hbad
    rw [hlaw _ _ (by omega)] at hbad
    simp at hbad
  · rename ((_ != _) = true) => hbad
    rw [hlaw _ _ (by omega)] at hbad
    simp at hbad
  · show TurnEnd _ _ _ _ _ _ _ _
    refine ⟨_, _, _, _, rfl, by k_asm, (fun q hq => News.get' (by k_asm) (.tail _ (.tail _ hq))), (News.get' (by k_asm) (.tail _ (.head _))).1, by simp, rfl, ?_⟩
    intro z h1 h2
    have h3 : z ≠ Str.ofString "more" := by
      intro e
      rw [e] at h2
      exact absurd h2 (by decide)
    simp only [if_neg h3, if_neg h1, h2, Bool.false_eq_true, if_false]
  · try dsimp only
    exact ⟨_, _, _, _, _, rfl, by k_asm, by k_asm, rfl, rfl⟩
end
local macro_rules | `(tactic| walk_at "pad") => `(tactic| fail)
local macro_rules | `(tactic| walk_at "pad") => `(tactic| fail)
local macro_rules | `(tactic| walk_at "pad") => `(tactic| fail)
local macro_rules | `(tactic| walk_at "pad") => `(tactic| fail)
section
local macro_rules | `(tactic| ktr_enter) => `(tactic| (
  refine' callM _ ?k1 ?k2 ?k3 ?k4 ?k5 ?kA ?kF ?kK ?k6 ?k7 ?k8 ?k9 ?kB ?_ ?kR ?c2 ?c3 ?c4 ?c5; (case kR => assumption); (case kA => exact rfl); (case kF => assumption); (case kK => assumption); (case k1 => k_asm); (case k2 => k_asm); (case k3 => k_asm); (case k4 => k_asm); (case k5 => k_asm); (case k6 => k_is); (case k7 => k_is); (case k8 => ktr_room); (case k9 => exact BindsTo.of_eq rfl); (case c5 => decide); (case kB => exact locs rfl); (case c2 => exact rfl); (case c3 => exact rfl); (case c4 => exact rfl); k_whole; intro g' L' h' F' N' B' X' T' l' kp'; (try dsimp only); (try k_fold)))

local macro_rules | `(tactic| size_fits) => `(tactic| ((with_reducible show _ ≤ PySem.sizeLine); (simp only [PySem.sizeLine_eq, List.size_toArray, Array.size_push, List.length_append, List.length_cons, List.length_nil]); omega))
/-- tuples of two ints, by what the ledger says -/
inductive TIn (tl : List (Addr × Obj)) : List Value → List (Int × Int) → Prop
  | nil : TIn tl [] []
  | cons {t : Addr} {lo hi : Int} {t1 t2 : Tok} {vs : List Value} {rs : List (Int × Int)} : (t, tup lo hi t1 t2) ∈ tl → TIn tl vs rs → TIn tl (.ref t :: vs) ((lo, hi) :: rs)
theorem TIn.mono {tl tl' : List (Addr × Obj)} (hs : ∀ p ∈ tl, p ∈ tl') {vs : List Value} {rs : List (Int × Int)} (x : TIn tl vs rs) : TIn tl' vs rs := by
  induction x with
  | nil => exact .nil
  | cons a _ ih => exact .cons (hs _ a) ih
theorem TIn.append {tl : List (Addr × Obj)} {ws : List Value} {qs : List (Int × Int)} (k : TIn tl ws qs) {vs : List Value} {rs : List (Int × Int)} (a : TIn tl vs rs) : TIn tl (vs ++ ws) (rs ++ qs) := by
  induction a with
  | nil => exact k
  | cons a _ ih => exact .cons a ih
theorem TIn.append' {tl : List (Addr × Obj)} {ws : List Value} {q : Int × Int} {f : Int × Int → List (Int × Int)} (k : TIn tl ws (f q)) {vs : List Value} {rs : List (Int × Int)} (a : TIn tl vs rs) : TIn tl (vs ++ ws) (rs ++ List.flatMap f [q]) := by
  have e : List.flatMap f [q] = f q := by simp
  rw [e]
  exact TIn.append k a
theorem TIn.length {tl : List (Addr × Obj)} {vs : List Value} {rs : List (Int × Int)} (a : TIn tl vs rs) : vs.length = rs.length := by
  induction a with
  | nil => rfl
  | cons _ _ ih => exact congrArg (· + 1) ih
/-- what fill makes of one row -/
abbrev ffirst (b lo : Int) : Int := if b > lo then b else lo
abbrev flast (e hi : Int) : Int := if e < hi then e else hi
def rowF (b e : Int) (r : Int × Int) : List (Int × Int) := if flast e r.2 ≤ ffirst b r.1 then [] else [(ffirst b r.1, flast e r.2)]
def rowR (b e : Int) (r : Int × Int) : List (Int × Int) :=
  if flast e r.2 ≤ ffirst b r.1 then [r] else (if r.1 < ffirst b r.1 then [(r.1, ffirst b r.1)] else []) ++ (if flast e r.2 < r.2 then [(flast e r.2, r.2)] else [])
section
variable {b e lo hi : Int}
theorem rowF_pos (h : flast e hi ≤ ffirst b lo) : rowF b e (lo, hi) = [] := if_pos h
theorem rowF_neg (h : ¬ flast e hi ≤ ffirst b lo) : rowF b e (lo, hi) = [(ffirst b lo, flast e hi)] := if_neg h
theorem rowR_pos (h : flast e hi ≤ ffirst b lo) : rowR b e (lo, hi) = [(lo, hi)] := if_pos h
theorem rowR_11 (h : ¬ flast e hi ≤ ffirst b lo) (h1 : lo < ffirst b lo) (h2 : flast e hi < hi) : rowR b e (lo, hi) = [(lo, ffirst b lo), (flast e hi, hi)] := by
  simp only [rowR, if_neg h, if_pos h1, if_pos h2, List.cons_append, List.nil_append]
theorem rowR_10 (h : ¬ flast e hi ≤ ffirst b lo) (h1 : lo < ffirst b lo) (h2 : ¬ flast e hi < hi) : rowR b e (lo, hi) = [(lo, ffirst b lo)] := by
  simp only [rowR, if_neg h, if_pos h1, if_neg h2, List.append_nil]
theorem rowR_01 (h : ¬ flast e hi ≤ ffirst b lo) (h1 : ¬ lo < ffirst b lo) (h2 : flast e hi < hi) : rowR b e (lo, hi) = [(flast e hi, hi)] := by
  simp only [rowR, if_neg h, if_neg h1, if_pos h2, List.nil_append]
theorem rowR_00 (h : ¬ flast e hi ≤ ffirst b lo) (h1 : ¬ lo < ffirst b lo) (h2 : ¬ flast e hi < hi) : rowR b e (lo, hi) = [] := by
  simp only [rowR, if_neg h, if_neg h1, if_neg h2, List.append_nil]
end
def foundOf (b e : Int) (rs : List (Int × Int)) : List (Int × Int) := rs.flatMap (rowF b e)
def rowsOf (b e : Int) (rs : List (Int × Int)) : List (Int × Int) := rs.flatMap (rowR b e)

theorem list_ne_frame {g h : Heap} {L l : Addr} {m : Str → Option Value} {xs : Array Value} (F : Fr g L h m) (hl : g.IsList l xs) : l ≠ L := by
  obtain ⟨o, ho, _⟩ := hl
  exact Nat.ne_of_lt (Nat.lt_of_lt_of_le (Heap.lt_size ho) F.above)
theorem list_has {g : Heap} {l : Addr} {xs : Array Value} (hl : g.IsList l xs) : ∃ o, g.get? l = some o := hl.imp fun _ h => h.1
def FillJ (w : World) (fl rl hs hd' rw : Addr) (j1 j2 : Tok) (most : Int) (tm : Tok) (b e : Int) (rs : List (Int × Int)) (i : Nat) (nx : List (Addr × Obj)) : Prop :=
  ∃ fvs rvs nf nr tl, nx = (rl, listOf rvs.toArray nr) :: (fl, listOf fvs.toArray nf) :: (hs, instObj 123 hd') :: (hd', hoDict w j1 j2 most tm rw) :: tl ∧ TIn tl fvs (foundOf b e (rs.take i)) ∧ TIn tl rvs (rowsOf b e (rs.take i)) ∧
    (∀ p ∈ tl, p.2.cls = .type "tuple") ∧ OwnOff tl [fl, rl, hs, hd'] ∧ rvs.length ≤ 2 * i ∧ fvs.length ≤ i
theorem offCons {p : Addr × Obj} {l : List (Addr × Obj)} {adr : List Addr} (h : ∀ b ∈ adr, b < p.1) (k : OwnOff l adr) : OwnOff (p :: l) adr := by
  intro q hq b hb
  rcases List.mem_cons.mp hq with rfl | hq
  · exact Nat.ne_of_gt (h b hb)
  · exact k q hq b hb
theorem offNil {adr : List Addr} : OwnOff [] adr := fun _ hp => nomatch hp
theorem all4 {a b c d x : Nat} (h1 : a < x) (h2 : b < x) (h3 : c < x) (h4 : d < x) : ∀ y ∈ [a, b, c, d], y < x := by
  intro y hy
  simp only [List.mem_cons, List.not_mem_nil, or_false] at hy
  rcases hy with rfl | rfl | rfl | rfl <;> assumption
theorem arr0 {vs : List Value} : vs.toArray = (vs ++ []).toArray := by simp
theorem arr1 {vs : List Value} {x : Value} : vs.toArray.push x = (vs ++ [x]).toArray := by simp
theorem arr2 {vs : List Value} {x y : Value} : (vs.toArray.push x).push y = (vs ++ [x, y]).toArray := by simp
theorem fill_end {w : World} {fl rl hs hd' rw : Addr} {j1 j2 : Tok} {most : Int} {tm : Tok} {b e : Int} {rs : List (Int × Int)} {i : Nat} {lo hi : Int} {g h' : Heap} {L I : Addr} {ob : Obj} {m' m₀ : Str → Option Value} {stored : List Str} {s₁ : Shared} {tk : Tok}
    {fvs rvs af ar : List Value} {fvs' rvs' : Array Value} {nf nr : Nat} {nt tl : List (Addr × Obj)} (hri : rs[i]? = some (lo, hi))
    (h1 : TIn tl fvs (foundOf b e (rs.take i))) (h2 : TIn tl rvs (rowsOf b e (rs.take i))) (h3 : ∀ p ∈ tl, p.2.cls = .type "tuple") (h4 : OwnOff tl [fl, rl, hs, hd']) (h5 : rvs.length ≤ 2 * i) (h6 : fvs.length ≤ i)
    (F' : Fr g L h' m') (N' : News g L h' (nt ++ ((I, ob) :: (rl, listOf rvs' nr) :: (fl, listOf fvs' nf) :: (hs, instObj 123 hd') :: (hd', hoDict w j1 j2 most tm rw) :: tl)))
    (ef : fvs' = (fvs ++ af).toArray) (er : rvs' = (rvs ++ ar).toArray) (hf : TIn nt af (rowF b e (lo, hi))) (hr : TIn nt ar (rowR b e (lo, hi))) (hla : ar.length ≤ 2) (hlf : af.length ≤ 1)
    (hcls : ∀ p ∈ nt, p.2.cls = .type "tuple") (hoff : OwnOff nt [fl, rl, hs, hd']) (hm : ∀ z, stored.contains z = false → m' z = m₀ z) :
    TurnEnd g L (.type "list_iterator") I ob (SJ stored m₀ (FillJ w fl rl hs hd' rw j1 j2 most tm b e rs (i + 1))) s₁ { s₁ with heap := h', toks := tk } := by
  subst ef er
  have ht : rs.take (i + 1) = rs.take i ++ [(lo, hi)] := by simp [List.take_add_one, hri]
  have sub : ∀ q ∈ (rl, listOf (rvs ++ ar).toArray nr) :: (fl, listOf (fvs ++ af).toArray nf) :: (hs, instObj 123 hd') :: (hd', hoDict w j1 j2 most tm rw) :: (nt ++ tl),
      q ∈ nt ++ ((I, ob) :: (rl, listOf (rvs ++ ar).toArray nr) :: (fl, listOf (fvs ++ af).toArray nf) :: (hs, instObj 123 hd') :: (hd', hoDict w j1 j2 most tm rw) :: tl) := by
    intro q hq
    simp only [List.mem_cons, List.mem_append] at hq ⊢
    rcases hq with h | h | h | h | h | h
    · exact .inr (.inr (.inl h))
    · exact .inr (.inr (.inr (.inl h)))
    · exact .inr (.inr (.inr (.inr (.inl h))))
    · exact .inr (.inr (.inr (.inr (.inr (.inl h)))))
    · exact .inl h
    · exact .inr (.inr (.inr (.inr (.inr (.inr h)))))
  refine ⟨h', tk, m', _, rfl, F', fun q hq => N' q (sub q hq), (N' _ (List.mem_append_right _ (.head _))).1, ?_, ⟨fvs ++ af, rvs ++ ar, nf, nr, nt ++ tl, rfl, ?_, ?_, ?_, ?_, ?_, ?_⟩, hm⟩
  · intro p hp
    left
    simp only [List.mem_cons, List.mem_append] at hp
    rcases hp with rfl | rfl | rfl | rfl | h | h
    · show Value.type "list" ≠ Value.type "list_iterator"
      decide
    · show Value.type "list" ≠ Value.type "list_iterator"
      decide
    · simp
    · simp
    · rw [hcls p h]; decide
    · rw [h3 p h]; decide
  · rw [ht, foundOf, List.flatMap_append]
    exact ((hf.mono fun p hp => List.mem_append_left _ hp).append' (by simpa [foundOf] using h1.mono fun p hp => List.mem_append_right _ hp))
  · rw [ht, rowsOf, List.flatMap_append]
    exact ((hr.mono fun p hp => List.mem_append_left _ hp).append' (by simpa [rowsOf] using h2.mono fun p hp => List.mem_append_right _ hp))
  · intro p hp
    rcases List.mem_append.mp hp with h | h
    · exact hcls p h
    · exact h3 p h
  · intro p hp
    rcases List.mem_append.mp hp with h | h
    · exact hoff p h
    · exact h4 p h
  · rw [List.length_append]; omega
  · rw [List.length_append]; omega
def FillPost (w : World) (hs hd' : Addr) (j1 : Tok) (most : Int) (tm : Tok) (found rows : List (Int × Int)) (r : Value) (news' : List (Addr × Obj)) : Prop :=
  ∃ fl rl j2 nf nr fvs rvs tl, r = .ref fl ∧ news' = (rl, listOf rvs.toArray nr) :: (fl, listOf fvs.toArray nf) :: (hs, instObj 123 hd') :: (hd', hoDict w j1 j2 most tm rl) :: tl ∧ TIn tl fvs found ∧ TIn tl rvs rows ∧
    (∀ p ∈ tl, p.2.cls = .type "tuple") ∧ OwnOff tl [fl, rl, hs, hd'] ∧ fl ≠ rl ∧ fl ≠ hs ∧ fl ≠ hd' ∧ rl ≠ hs ∧ rl ≠ hd'
theorem fill_ct (w : World) (mean : ExcName → Option Value) (mg mb : Str → Option Value) (hs hd' rw : Addr) (j1 j2 : Tok) (most : Int) (tm : Tok) (rs : List (Int × Int)) (b e : Int) (tb te : Tok) (hlen : rs.length < 10000) (hne : hs ≠ hd') :
    Ct PySem.Challenge.rw_xw0332_01.row.prog w (topK.heap_1 w.params) topView (looseW topView [Str.ofString "IpHeader"]) mean mg mb 20 99 [.ref hs, .int b tb, .int e te]
      [(hs, instObj 123 hd'), (hd', hoDict w j1 j2 most tm rw)] (fun h => RowsAt h rw rs)
      (FillPost w hs hd' j1 most tm (foundOf b e rs) (rowsOf b e rs)) := by
  w_top off
  k_fill
  refine ⟨?_⟩
  intro dp un gd env outer A₀ base h₀ L m s Q E B F X N T hf hke hdp hun hsz hret
  have hne := neN hne
  refine wpAny_call ?_
  k_dflt ktr_enter
  rename Keeps _ _ _ => kp
  have hR := hsz.keepsCls kp (fun q hq => (N q hq).1) (by simp)
  k_steps
  (with_unfolding_all refine' For_turns (by k_asm) ?_)
  k_steps
  rename_i fl _ lfl _ _ rl _ lrl _ F1 N1
  obtain ⟨rvs0, hl0, hv0⟩ := hR
  have hlr := hv0.length
  have hL := list_ne_frame F1 hl0
  have hb := list_has hl0
  with_unfolding_all refine' turnsS [Str.ofString "low", Str.ofString "high", Str.ofString "first", Str.ofString "last"] (FillJ w fl rl hs hd' rw j1 j2 most tm b e rs) (by rfl) (hl0.at (F1.keep rw)) hL (.inl hb) F1 N1 ?hj ?_ ?_
  · exact ⟨[], [], 0, 0, [], rfl, .nil, .nil, (by simp), (by intro p hp; cases hp), (by simp), (by simp)⟩
  · intro i v u nx h tk I ob hv hJ hc hoff F N
    obtain ⟨fvs, rvs, nf, nr, tl, rfl, h1, h2, h3, h4, h5, h6⟩ := hJ
    have hi : i < rs.length := by rw [← hlr]; exact (List.getElem?_eq_some_iff.mp hv).1
    obtain ⟨⟨lo, hi'⟩, hri⟩ : ∃ r, rs[i]? = some r := ⟨_, List.getElem?_eq_getElem hi⟩
    obtain ⟨t, t1, t2, hx, ht⟩ := hv0.get i _ hri
    rw [hv] at hx
    cases hx
    simp only [List.forall_mem_cons] at hoff
    obtain ⟨ho1, ho2, ho3, ho4, ho5⟩ := hoff
    clear F1 N1
    dsimp only at ht
    have ho1 := neN ho1
    have ho2 := neN ho2
    have ho3 := neN ho3
    have ho4 := neN ho4
    try dsimp only at ho1 ho2 ho3 ho4
    k_steps
    · show TurnEnd _ _ _ _ _ _ _ _
      refine fill_end (nt := [_]) (af := []) (ar := [_]) hri h1 h2 h3 h4 h5 h6 (by k_asm) (by k_asm) arr0 arr1 ?_ ?_ (by simp) (by simp) (by simp) (offCons (all4 (by first | omega | (dsimp only; omega)) (by first | omega | (dsimp only; omega)) (by first | omega | (dsimp only; omega)) (by first | omega | (dsimp only; omega))) offNil) ?_
      · rw [rowF_pos (b := b) (e := e) (lo := lo) (hi := hi') (by assumption)]; exact .nil
      · rw [rowR_pos (b := b) (e := e) (lo := lo) (hi := hi') (by assumption)]; exact .cons (.head _) .nil
      intro z hz
      have e1 : z ≠ Str.ofString "low" := by intro e; rw [e] at hz; exact absurd hz (by decide)
      have e2 : z ≠ Str.ofString "high" := by intro e; rw [e] at hz; exact absurd hz (by decide)
      have e3 : z ≠ Str.ofString "first" := by intro e; rw [e] at hz; exact absurd hz (by decide)
      have e4 : z ≠ Str.ofString "last" := by intro e; rw [e] at hz; exact absurd hz (by decide)
      simp only [if_neg e1, if_neg e2, if_neg e3, if_neg e4, hz, Bool.false_eq_true, if_false]
    · show TurnEnd _ _ _ _ _ _ _ _
      refine fill_end (nt := [_, _, _]) (af := [_]) (ar := [_, _]) hri h1 h2 h3 h4 h5 h6 (by k_asm) (by k_asm) arr1 arr2 ?_ ?_ (by simp) (by simp) (by simp) (offCons (all4 (by first | omega | (dsimp only; omega)) (by first | omega | (dsimp only; omega)) (by first | omega | (dsimp only; omega)) (by first | omega | (dsimp only; omega))) (offCons (all4 (by first | omega | (dsimp only; omega)) (by first | omega | (dsimp only; omega)) (by first | omega | (dsimp only; omega)) (by first | omega | (dsimp only; omega))) (offCons (all4 (by first | omega | (dsimp only; omega)) (by first | omega | (dsimp only; omega)) (by first | omega | (dsimp only; omega)) (by first | omega | (dsimp only; omega))) offNil))) ?_
      · rw [rowF_neg (b := b) (e := e) (lo := lo) (hi := hi') (by assumption)]; exact .cons (.tail _ (.tail _ (.head _))) .nil
      · rw [rowR_11 (b := b) (e := e) (lo := lo) (hi := hi') (by assumption) (by assumption) (by assumption)]; exact .cons (.tail _ (.head _)) (.cons (.head _) .nil)
      intro z hz
      have e1 : z ≠ Str.ofString "low" := by intro e; rw [e] at hz; exact absurd hz (by decide)
      have e2 : z ≠ Str.ofString "high" := by intro e; rw [e] at hz; exact absurd hz (by decide)
      have e3 : z ≠ Str.ofString "first" := by intro e; rw [e] at hz; exact absurd hz (by decide)
      have e4 : z ≠ Str.ofString "last" := by intro e; rw [e] at hz; exact absurd hz (by decide)
      simp only [if_neg e1, if_neg e2, if_neg e3, if_neg e4, hz, Bool.false_eq_true, if_false]
    · show TurnEnd _ _ _ _ _ _ _ _
      refine fill_end (nt := [_, _]) (af := [_]) (ar := [_]) hri h1 h2 h3 h4 h5 h6 (by k_asm) (by k_asm) arr1 arr1 ?_ ?_ (by simp) (by simp) (by simp) (offCons (all4 (by first | omega | (dsimp only; omega)) (by first | omega | (dsimp only; omega)) (by first | omega | (dsimp only; omega)) (by first | omega | (dsimp only; omega))) (offCons (all4 (by first | omega | (dsimp only; omega)) (by first | omega | (dsimp only; omega)) (by first | omega | (dsimp only; omega)) (by first | omega | (dsimp only; omega))) offNil)) ?_
      · rw [rowF_neg (b := b) (e := e) (lo := lo) (hi := hi') (by assumption)]; exact .cons (.tail _ (.head _)) .nil
      · rw [rowR_10 (b := b) (e := e) (lo := lo) (hi := hi') (by assumption) (by assumption) (by assumption)]; exact .cons (.head _) .nil
      intro z hz
      have e1 : z ≠ Str.ofString "low" := by intro e; rw [e] at hz; exact absurd hz (by decide)
      have e2 : z ≠ Str.ofString "high" := by intro e; rw [e] at hz; exact absurd hz (by decide)
      have e3 : z ≠ Str.ofString "first" := by intro e; rw [e] at hz; exact absurd hz (by decide)
      have e4 : z ≠ Str.ofString "last" := by intro e; rw [e] at hz; exact absurd hz (by decide)
      simp only [if_neg e1, if_neg e2, if_neg e3, if_neg e4, hz, Bool.false_eq_true, if_false]
    · show TurnEnd _ _ _ _ _ _ _ _
      refine fill_end (nt := [_, _]) (af := [_]) (ar := [_]) hri h1 h2 h3 h4 h5 h6 (by k_asm) (by k_asm) arr1 arr1 ?_ ?_ (by simp) (by simp) (by simp) (offCons (all4 (by first | omega | (dsimp only; omega)) (by first | omega | (dsimp only; omega)) (by first | omega | (dsimp only; omega)) (by first | omega | (dsimp only; omega))) (offCons (all4 (by first | omega | (dsimp only; omega)) (by first | omega | (dsimp only; omega)) (by first | omega | (dsimp only; omega)) (by first | omega | (dsimp only; omega))) offNil)) ?_
      · rw [rowF_neg (b := b) (e := e) (lo := lo) (hi := hi') (by assumption)]; exact .cons (.tail _ (.head _)) .nil
      · rw [rowR_01 (b := b) (e := e) (lo := lo) (hi := hi') (by assumption) (by assumption) (by assumption)]; exact .cons (.head _) .nil
      intro z hz
      have e1 : z ≠ Str.ofString "low" := by intro e; rw [e] at hz; exact absurd hz (by decide)
      have e2 : z ≠ Str.ofString "high" := by intro e; rw [e] at hz; exact absurd hz (by decide)
      have e3 : z ≠ Str.ofString "first" := by intro e; rw [e] at hz; exact absurd hz (by decide)
      have e4 : z ≠ Str.ofString "last" := by intro e; rw [e] at hz; exact absurd hz (by decide)
      simp only [if_neg e1, if_neg e2, if_neg e3, if_neg e4, hz, Bool.false_eq_true, if_false]
    · show TurnEnd _ _ _ _ _ _ _ _
      refine fill_end (nt := [_]) (af := [_]) (ar := []) hri h1 h2 h3 h4 h5 h6 (by k_asm) (by k_asm) arr1 arr0 ?_ ?_ (by simp) (by simp) (by simp) (offCons (all4 (by first | omega | (dsimp only; omega)) (by first | omega | (dsimp only; omega)) (by first | omega | (dsimp only; omega)) (by first | omega | (dsimp only; omega))) offNil) ?_
      · rw [rowF_neg (b := b) (e := e) (lo := lo) (hi := hi') (by assumption)]; exact .cons (.head _) .nil
      · rw [rowR_00 (b := b) (e := e) (lo := lo) (hi := hi') (by assumption) (by assumption) (by assumption)]; exact .nil
      intro z hz
      have e1 : z ≠ Str.ofString "low" := by intro e; rw [e] at hz; exact absurd hz (by decide)
      have e2 : z ≠ Str.ofString "high" := by intro e; rw [e] at hz; exact absurd hz (by decide)
      have e3 : z ≠ Str.ofString "first" := by intro e; rw [e] at hz; exact absurd hz (by decide)
      have e4 : z ≠ Str.ofString "last" := by intro e; rw [e] at hz; exact absurd hz (by decide)
      simp only [if_neg e1, if_neg e2, if_neg e3, if_neg e4, hz, Bool.false_eq_true, if_false]
  · intro u nx h tk hJ F N
    obtain ⟨fvs, rvs, nf, nr, tl, rfl, h1, h2, h3, h4, h5, h6⟩ := hJ
    clear F1 N1
    k_steps
    try dsimp only
    rw [hlr, List.take_length] at h1 h2
    refine ⟨_, _, _, _, _, rfl, by k_asm, by k_asm, fl, rl, j2, nf, nr, fvs, rvs, tl, rfl, rfl, h1, h2, h3, h4, ?_, ?_, ?_, ?_, ?_⟩
    all_goals (refine neN ?_; omega)
end
local macro_rules | `(tactic| walk_at "pad") => `(tactic| fail)
section
local macro_rules | `(tactic| ktr_enter) => `(tactic| (
  refine' callM _ ?k1 ?k2 ?k3 ?k4 ?k5 ?kA ?kF ?kK ?k6 ?k7 ?k8 ?k9 ?kB ?_ ?kR ?c2 ?c3 ?c4 ?c5; (case kR => assumption); (case kA => exact rfl); (case kF => assumption); (case kK => assumption); (case k1 => k_asm); (case k2 => k_asm); (case k3 => k_asm); (case k4 => k_asm); (case k5 => k_asm); (case k6 => k_is); (case k7 => k_is); (case k8 => ktr_room); (case k9 => exact BindsTo.of_eq rfl); (case c5 => decide); (case kB => exact locs rfl); (case c2 => exact rfl); (case c3 => exact rfl); (case c4 => exact rfl); k_whole; intro g' L' h' F' N' B' X' T' l' kp'; (try dsimp only); (try k_fold)))

local macro_rules | `(tactic| walk_at "call ref") => `(tactic| (
  (try dsimp only); (with_reducible show wpAny _ _ (PySem.call (Value.ref 99) _ _) _ _ _); k_dflt (
  refine' ct_use (rest := []) (fill_ct (hlen := ?hlen) (hne := ?hne9) ..) ?B ?F ?X ?N ?T ?hf ?hke ?hd ?hu ?hs ?hr ?hne ?hp ?_;
  (case B => k_asm); (case F => k_asm); (case X => k_asm); (case N => k_asm); (case T => k_asm); (case hf => exact rfl); (case hke => exact rfl);
  (case hs => k_allIn); (case hr => exact fun _ h => nomatch h); (case hne => exact fun _ h => nomatch h); (case hp => exact RowsAt.keeps (Fr.keep (by k_asm)) (by with_reducible assumption)); (case hlen => assumption); (case hne9 => assumption); (case hd => ktr_room); (case hu => ktr_units); k_whole);
  intro r9 n9 h9 tk9 F9 N9 D9 P9; obtain ⟨fl9, rl9, j9, nf9, nr9, fvs9, rvs9, tl9, e9, en9, q1, q2, q3, q4, q5, q6, q7, q8, q9⟩ := P9; subst e9; subst en9; clear D9; (try simp only [List.cons_append, List.append_nil] at N9); (try dsimp only)))
theorem end_ct (w : World) (mean : ExcName → Option Value) (mg mb : Str → Option Value) (hs hd' rw : Addr) (j1 j2 : Tok) (most : Int) (tm : Tok) (rs : List (Int × Int)) (e : Int) (te : Tok) (hlen : rs.length < 10000) (hne : hs ≠ hd') :
    Ct PySem.Challenge.rw_xw0332_01.row.prog w (topK.heap_1 w.params) topView (looseW topView [Str.ofString "IpHeader"]) mean mg mb 40 106 [.ref hs, .int e te]
      [(hs, instObj 123 hd'), (hd', hoDict w j1 j2 most tm rw)] (fun h => RowsAt h rw rs)
      (fun r news' => r = .none ∧ ∃ v, FillPost w hs hd' j1 most tm (foundOf e most rs) (rowsOf e most rs) v news') := by
  w_top off
  k_fill
  refine ⟨?_⟩
  intro dp un gd env outer A₀ base h₀ L m s Q E B F X N T hf hke hdp hun hsz hret
  refine wpAny_call ?_
  k_dflt ktr_enter
  rename Keeps _ _ _ => kp
  have hR := hsz.keepsCls kp (fun q hq => (N q hq).1) (by simp)
  k_steps
  refine ⟨_, _, _, _, _, rfl, by k_asm, by k_asm, rfl, .ref _, _, _, _, _, _, _, _, _, rfl, rfl, ?_, ?_, ?_, ?_, ?_, ?_, ?_, ?_, ?_⟩
  all_goals assumption
/-- a header's dict -/
abbrev hrDict (w : World) (c1 c2 c3 c4 c5 c6 c7 c8 c9 c10 : Tok) (v1 v2 v3 v4 v5 v6 v7 : Value) (more : Bool) (offset : Int) (tb to : Tok) : Obj :=
  dictOf [ent w (Str.ofString "source") c1 v1, ent w (Str.ofString "target") c2 v2, ent w (Str.ofString "protocol") c3 v3, ent w (Str.ofString "ident") c4 v4, ent w (Str.ofString "ttl") c5 v5, ent w (Str.ofString "tos") c6 v6, ent w (Str.ofString "dont") c7 v7,
    ent w (Str.ofString "more") c8 (.bool more), ent w (Str.ofString "offset") c9 (.int offset tb), ent w (Str.ofString "options") c10 (.bytes #[] to)] 10
theorem size_ct (w : World) (mean : ExcName → Option Value) (mg mb : Str → Option Value) (hr dh : Addr) (c1 c2 c3 c4 c5 c6 c7 c8 c9 c10 : Tok) (v1 v2 v3 v4 v5 v6 v7 : Value) (more : Bool) (offset : Int) (tb to : Tok) :
    Ct PySem.Challenge.rw_xw0332_01.row.prog w (topK.heap_1 w.params) topView (looseW topView [Str.ofString "IpHeader"]) mean mg mb 20 43 [.ref hr]
      [(hr, instObj 74 dh), (dh, hrDict w c1 c2 c3 c4 c5 c6 c7 c8 c9 c10 v1 v2 v3 v4 v5 v6 v7 more offset tb to)] (fun _ => True)
      (fun r news' => (∃ t, r = .int 20 t) ∧ news' = [(hr, instObj 74 dh), (dh, hrDict w c1 c2 c3 c4 c5 c6 c7 c8 c9 c10 v1 v2 v3 v4 v5 v6 v7 more offset tb to)]) := by
  w_top off
  k_fill
  refine ⟨?_⟩
  intro dp un gd env outer A₀ base h₀ L m s Q E B F X N T hf hke hdp hun hsz hret
  refine wpAny_call ?_
  k_dflt ktr_enter
  k_steps
  exact ⟨_, _, _, _, _, rfl, by k_asm, by k_asm, ⟨_, rfl⟩, rfl⟩
end
local macro_rules | `(tactic| walk_at "pad") => `(tactic| fail)
local macro_rules | `(tactic| walk_at "pad") => `(tactic| fail)
section
theorem by_no_bytes : typeLookup (.type "int") "__bytes__" = pure none := by rw [typeLookup_type, builtinLookup_eq_fast]; kernel_rfl
theorem by_index : typeLookup (.type "int") "__index__" = pure (some (.builtin "int.__index__")) := by rw [typeLookup_type, builtinLookup_eq_fast]; kernel_rfl
section
variable {prog : Program} {w : World} {A : Around} {E : Value → Shared → Prop} {s : Shared}
theorem by_if_neg {α : Type} {M : Model} {c : Prop} [Decidable c] {a b : Sem α} {Q : α → Shared → Prop} (hc : ¬ c) (h : wpAny M A b Q E s) : wpAny M A (if c then a else b) Q E s := by
  rw [if_neg hc]; exact h
theorem by_new {n : Int} {t : Tok} {Q : Value → Shared → Prop} (h0 : 0 ≤ n) (h1 : n ≤ 1000)
    (hQ : ∀ t' k, Q (.bytes (Array.replicate n.toNat 0) t') { s with toks := k }) :
    codeAny (model prog w) A (.call (.builtin "bytes.__new__") ⟨[.type "bytes", .int n t], []⟩) (wants Q E) s := by
  refine codeAny_of_tree ?_
  show wpAny _ A.in1 (do checkBuiltinCall "bytes.__new__" ⟨[.type "bytes", .int n t], []⟩; again (.builtin "bytes.__new__" ⟨[.type "bytes", .int n t], []⟩)) _ _ s
  refine wpAny_bind (wpAny_of_eq (F.bm_newCall _) (wpAny_pure ⟨plainId_quiet F.bm_plain _, codeAny_builtin F.bm_entry ?_⟩))
  rw [Around.under_plainId F.bm_plain _]
  have hT : s.TypeIs (.int n t) "int" := typeIs_int s n t
  unfold Builtin.«bytes.__new__»
  refine wpAny_bind (wpAny_of_eq (a := true) rfl ?_)
  refine bm_if_false rfl ?_
  refine wpAny_bind (wpAny_of_eq F.bm_sub ?_)
  refine bm_if_false rfl ?_
  refine wpAny_bind (wpAny_of_eq (F.bm_bind _) ?_)
  refine wpAny_bind (wpAny_of_eq (a := ()) rfl ?_)
  refine wpAny_bind (wpAny_of_eq (a := ()) rfl ?_)
  refine bm_if_false rfl ?_
  refine wpAny_bind (wpAny_specialOf hT by_no_bytes ?_)
  refine wpAny_bind (wpAny_of_eq (a := false) rfl ?_)
  refine bm_if_false rfl ?_
  refine wpAny_bind (wpAny_specialOf hT by_index ?_)
  refine bm_if_false rfl ?_
  refine wpAny_bind (wpAny_of_eq (rfl : (asIndex (.int n t)).attempt = pure (.ok n)) ?_)
  have f1 : (!Builtin.Bytes.fitsIndex n) = false := by
    simp only [Builtin.Bytes.fitsIndex, Bool.not_eq_false', Bool.and_eq_true, decide_eq_true_eq]
    omega
  have f2 : Builtin.Bytes.tooLong n.toNat = false := by
    simp only [Builtin.Bytes.tooLong, decide_eq_false_iff_not, sizeLine_eq]
    omega
  refine bm_if_false f1 ?_
  refine by_if_neg (show ¬ n < 0 by omega) ?_
  refine by_if_neg (show ¬ n > 2 ^ 63 - 34 by omega) ?_
  refine bm_if_false f2 ?_
  refine wpAny_bind (wpAny_rule ?_)
  refine wpAny_bind (wpAny_mkBytes ?_ (by rw [Array.size_replicate, sizeLine_eq]; omega))
  show wpAny _ _ (if (Value.type "bytes" == Value.type "bytes") = true then _ else _) _ _ _
  refine bm_if_true (by decide) ?_
  first
    | exact wpAny_pure (hQ _ _)
    | exact wpAny_bind (wpAny_pure (wpAny_pure (hQ _ _)))
theorem by_call {n : Int} {t : Tok} {Q : Value → Shared → Prop} (h0 : 0 ≤ n) (h1 : n ≤ 1000)
    (hQ : ∀ t' k, Q (.bytes (Array.replicate n.toNat 0) t') { s with toks := k }) : wpAny (model prog w) A (call (.type "bytes") [.int n t]) Q E s := by
  refine callType_codes (Q₁ := fun obj s₁ => s₁.TypeIs obj "bytes" ∧ Q obj s₁) F.bm_called (F.bm_typeCall _) F.entry_object_init
    (by_new h0 h1 fun t' k => ⟨PySem.W.typeIs_bytes _ _ _, hQ t' k⟩) fun obj s₁ h₁ => ?_
  exact ⟨h₁.1, F.args_object_init_2 obj _, object_init_meets F.bm_called.init.lookup F.bm_called.made (by decide) prog w A.in1 _ s₁ ⟨h₁.1, rfl, h₁.2⟩⟩
end
end
local macro_rules | `(tactic| walk_at "pad") => `(tactic| fail)
section
local macro_rules | `(tactic| ktr_enter) => `(tactic| (
  refine' callM _ ?k1 ?k2 ?k3 ?k4 ?k5 ?kA ?kF ?kK ?k6 ?k7 ?k8 ?k9 ?kB ?_ ?kR ?c2 ?c3 ?c4 ?c5; (case kR => assumption); (case kA => exact rfl); (case kF => assumption); (case kK => assumption); (case k1 => k_asm); (case k2 => k_asm); (case k3 => k_asm); (case k4 => k_asm); (case k5 => k_asm); (case k6 => k_is); (case k7 => k_is); (case k8 => ktr_room); (case k9 => exact BindsTo.of_eq rfl); (case c5 => decide); (case kB => exact locs rfl); (case c2 => exact rfl); (case c3 => exact rfl); (case c4 => exact rfl); k_whole; intro g' L' h' F' N' B' X' T' l' kp'; (try dsimp only); (try k_fold)))

local macro_rules | `(tactic| size_fits) => `(tactic| ((with_reducible show _ ≤ PySem.sizeLine); (simp only [PySem.sizeLine_eq, List.size_toArray, Array.size_push, List.length_append, List.length_cons, List.length_nil]); omega))
local macro_rules | `(tactic| walk_at "call ref") => `(tactic| (
  (try dsimp only); (with_reducible show wpAny _ _ (PySem.call (Value.ref 148) _ _) _ _ _); k_dflt (
  refine' ct_ro (against_ct (hlen := ?hlen) ..) ?B ?F ?X ?N ?T ?hf ?hke ?hd ?hu ?hs ?hp ?_;
  (case B => k_asm); (case F => k_asm); (case X => k_asm); (case N => k_asm); (case T => k_asm); (case hf => exact rfl); (case hke => exact rfl);
  (case hs => k_allIn); (case hp => exact RowsAt.keeps (Fr.keep (by k_asm)) (by with_reducible assumption)); (case hlen => omega); (case hd => ktr_room); (case hu => ktr_units); k_whole);
  intro r9 h9 tk9 F9 N9 P9; subst P9; (try dsimp only)))
local macro_rules | `(tactic| walk_at "call ref") => `(tactic| (
  (try dsimp only); (with_reducible show wpAny _ _ (PySem.call (Value.ref 43) _ _) _ _ _); k_dflt (
  refine' ct_ro (size_ct ..) ?B ?F ?X ?N ?T ?hf ?hke ?hd ?hu ?hs ?hp ?_;
  (case B => k_asm); (case F => k_asm); (case X => k_asm); (case N => k_asm); (case T => k_asm); (case hf => exact rfl); (case hke => exact rfl);
  (case hs => k_allIn); (case hp => exact trivial); (case hd => ktr_room); (case hu => ktr_units); k_whole);
  intro r9 h9 tk9 F9 N9 P9; obtain ⟨t9, e9⟩ := P9; subst e9; (try dsimp only)))
local macro_rules | `(tactic| k_ne) => `(tactic| (refine neN ?_; (try dsimp only); first | exact Ap.ne (by with_reducible assumption) | exact Ap.ne' (by with_reducible assumption) | omega))
theorem TIn.get {tl : List (Addr × Obj)} {vs : List Value} {rs : List (Int × Int)} (a : TIn tl vs rs) : ∀ (i : Nat) (v : Value), vs[i]? = some v → ∃ lo hi t t1 t2, v = .ref t ∧ (t, tup lo hi t1 t2) ∈ tl ∧ (lo, hi) ∈ rs := by
  induction a with
  | nil => intro i v e; simp at e
  | @cons t lo hi t1 t2 vs rs a _ ih =>
    intro i v e
    cases i with
    | zero => simp at e; exact ⟨lo, hi, t, t1, t2, e.symm, a, .head _⟩
    | succ i =>
      obtain ⟨lo', hi', t', t1', t2', e1, e2, e3⟩ := ih i v (by simpa using e)
      exact ⟨lo', hi', t', t1', t2', e1, e2, .tail _ e3⟩
theorem found_mem {b e : Int} {rs : List (Int × Int)} {lo hi : Int} (h : (lo, hi) ∈ foundOf b e rs) : b ≤ lo ∧ lo < hi ∧ hi ≤ e := by
  unfold foundOf at h
  obtain ⟨⟨lo0, hi0⟩, _, hr⟩ := List.mem_flatMap.mp h
  by_cases hc : flast e hi0 ≤ ffirst b lo0
  · rw [rowF_pos hc] at hr; cases hr
  · rw [rowF_neg hc] at hr
    simp only [List.mem_cons, List.not_mem_nil, or_false, Prod.mk.injEq] at hr
    obtain ⟨rfl, rfl⟩ := hr
    unfold ffirst flast at *
    split <;> split <;> omega
theorem found_length (b e : Int) (rs : List (Int × Int)) : (foundOf b e rs).length ≤ rs.length := by
  unfold foundOf
  induction rs with
  | nil => simp
  | cons r rs ih =>
    rw [List.flatMap_cons, List.length_append, List.length_cons]
    have : (rowF b e r).length ≤ 1 := by unfold rowF; split <;> simp
    omega
def PutJ (w : World) (o d hs hd' pa hr dh rl fl : Addr) (k1 k2 k3 k4 k5 k6 k7 k8 : Tok) (began : Value) (most : Int) (tm : Tok) (eo : Option Int) (te : Tok) (ahead : Int) (ta : Tok) (fv : Value) (j1 j3 tm' : Tok) (c1 c2 c3 c4 c5 c6 c7 c8 c9 c10 : Tok) (v1 v2 v3 v4 v5 v6 v7 : Value) (more : Bool) (b : Int) (tb to : Tok)
    (rvs fvs : List Value) (nr nf : Nat) (pvs : List Value) (tl : List (Addr × Obj)) (i : Nat) (nx : List (Addr × Obj)) : Prop :=
  ∃ (pvs' : List Value) (np' : Nat) (size' : Int) (ts' : Tok), nx = (pa, listOf pvs'.toArray np') :: (d, dgDict w k1 k2 k3 k4 k5 k6 k7 k8 began most tm hs pa (endV eo te) ahead ta fv size' ts') :: (rl, listOf rvs.toArray nr) :: (fl, listOf fvs.toArray nf) :: (hs, instObj 123 hd') :: (hd', hoDict w j1 j3 most tm' rl) :: (o, instObj 177 d) :: (hr, instObj 74 dh) :: (dh, hrDict w c1 c2 c3 c4 c5 c6 c7 c8 c9 c10 v1 v2 v3 v4 v5 v6 v7 more b tb to) :: tl ∧ pvs'.length ≤ pvs.length + i
theorem put_end {w : World} {o d hs hd' pa hr dh rl fl : Addr} {k1 k2 k3 k4 k5 k6 k7 k8 : Tok} {began : Value} {most : Int} {tm : Tok} {eo : Option Int} {te : Tok} {ahead : Int} {ta : Tok} {fv : Value} {j1 j3 tm' : Tok} {c1 c2 c3 c4 c5 c6 c7 c8 c9 c10 : Tok} {v1 v2 v3 v4 v5 v6 v7 : Value} {more : Bool} {b : Int} {tb to : Tok}
    {rvs fvs : List Value} {nr nf : Nat} {pvs pvs' : List Value} {tl : List (Addr × Obj)} {i np2 : Nat} {p0 : Addr × Obj} {x : Value} {size2 : Int} {ts2 : Tok} {g h' : Heap} {L I : Addr} {ob : Obj} {m' m₀ : Str → Option Value} {stored : List Str} {s₁ : Shared} {tk : Tok}
    (hpl : pvs'.length ≤ pvs.length + i) (q3 : ∀ p ∈ tl, p.2.cls = .type "tuple") (F' : Fr g L h' m')
    (N' : News g L h' (p0 :: (I, ob) :: (pa, listOf (pvs'.toArray.push x) np2) :: (d, dgDict w k1 k2 k3 k4 k5 k6 k7 k8 began most tm hs pa (endV eo te) ahead ta fv size2 ts2) :: (rl, listOf rvs.toArray nr) :: (fl, listOf fvs.toArray nf) :: (hs, instObj 123 hd') :: (hd', hoDict w j1 j3 most tm' rl) :: (o, instObj 177 d) :: (hr, instObj 74 dh) :: (dh, hrDict w c1 c2 c3 c4 c5 c6 c7 c8 c9 c10 v1 v2 v3 v4 v5 v6 v7 more b tb to) :: tl))
    (hm : ∀ z, stored.contains z = false → m' z = m₀ z) :
    TurnEnd g L (.type "list_iterator") I ob (SJ stored m₀ (PutJ w o d hs hd' pa hr dh rl fl k1 k2 k3 k4 k5 k6 k7 k8 began most tm eo te ahead ta fv j1 j3 tm' c1 c2 c3 c4 c5 c6 c7 c8 c9 c10 v1 v2 v3 v4 v5 v6 v7 more b tb to rvs fvs nr nf pvs tl (i + 1))) s₁ { s₁ with heap := h', toks := tk } := by
  refine ⟨h', tk, m', _, rfl, F', fun q hq => N' q (.tail _ (.tail _ hq)), (N' _ (.tail _ (.head _))).1, ?_, ⟨pvs' ++ [x], np2, size2, ts2, by rw [arr1], ?_⟩, hm⟩
  · intro p hp
    left
    simp only [List.mem_cons] at hp
    rcases hp with rfl | rfl | rfl | rfl | rfl | rfl | rfl | rfl | rfl | hp
    · show Value.type "list" ≠ Value.type "list_iterator"
      decide
    · show Value.type "dict" ≠ Value.type "list_iterator"
      decide
    · show Value.type "list" ≠ Value.type "list_iterator"
      decide
    · show Value.type "list" ≠ Value.type "list_iterator"
      decide
    · simp
    · show Value.type "dict" ≠ Value.type "list_iterator"
      decide
    · simp
    · simp
    · show Value.type "dict" ≠ Value.type "list_iterator"
      decide
    · rw [q3 p hp]; decide
  · rw [List.length_append]; simp only [List.length_cons, List.length_nil]; omega
theorem mem_skip3 {α : Type} {a b c f q : α} {r : List α} (h : q ∈ a :: b :: c :: r) : q ∈ a :: b :: c :: f :: r := by
  simp only [List.mem_cons] at h ⊢
  rcases h with h | h | h | h
  · exact .inl h
  · exact .inr (.inl h)
  · exact .inr (.inr (.inl h))
  · exact .inr (.inr (.inr (.inr h)))
theorem rows_length (b e : Int) (rs : List (Int × Int)) : (rowsOf b e rs).length ≤ 2 * rs.length := by
  unfold rowsOf
  induction rs with
  | nil => simp
  | cons r rs ih =>
    rw [List.flatMap_cons, List.length_append, List.length_cons]
    have : (rowR b e r).length ≤ 2 := by
      unfold rowR
      split
      · simp
      · split <;> split <;> simp
    omega
theorem TIn.at {g h : Heap} {L rl : Addr} {news tl : List (Addr × Obj)} {rvs : List Value} {nr : Nat} {rows : List (Int × Int)} (ht : TIn tl rvs rows) (N : News g L h news) (hm : (rl, listOf rvs.toArray nr) ∈ news) (hs : ∀ p ∈ tl, p ∈ news) : RowsAt h rl rows := by
  refine ⟨rvs, ⟨_, (N _ hm).1, rfl, nr, rfl⟩, ?_⟩
  clear hm
  induction ht with
  | nil => exact .nil
  | cons a _ ih => exact .cons ⟨_, (N _ (hs _ a)).1, rfl, 0, rfl⟩ ih
def putEnd (eo : Option Int) (e : Int) (more : Bool) : Option Int := if more = true then eo else some (eo.getD e)
def putAhead (ahead e : Int) (more : Bool) : Int := if more = true then (if e > ahead then e else ahead) else ahead
def putRows (eo : Option Int) (b e most : Int) (more : Bool) (rs : List (Int × Int)) : List (Int × Int) := if more = true then rowsOf b e rs else match eo with | none => rowsOf e most (rowsOf b e rs) | some _ => rowsOf b e rs
def PutPost (w : World) (o d hs hd' pa hr dh : Addr) (k1 k2 k3 k4 k5 k6 k7 k8 : Tok) (began : Value) (most : Int) (tm : Tok) (j1 tm' : Tok) (c1 c2 c3 c4 c5 c6 c7 c8 c9 c10 : Tok) (v1 v2 v3 v4 v5 v6 v7 : Value) (more : Bool) (b : Int) (tb to : Tok)
    (eo' : Option Int) (ahead' : Int) (rows : List (Int × Int)) (plen : Nat) (news' : List (Addr × Obj)) : Prop :=
  ∃ (rl : Addr) (j3 : Tok) (nr np : Nat) (rvs pvs : List Value) (tl : List (Addr × Obj)) (ev fv : Value) (ta : Tok) (size : Int) (ts : Tok),
    news' = (pa, listOf pvs.toArray np) :: (d, dgDict w k1 k2 k3 k4 k5 k6 k7 k8 began most tm hs pa ev ahead' ta fv size ts) :: (rl, listOf rvs.toArray nr) :: (hs, instObj 123 hd') :: (hd', hoDict w j1 j3 most tm' rl) :: (o, instObj 177 d) :: (hr, instObj 74 dh) :: (dh, hrDict w c1 c2 c3 c4 c5 c6 c7 c8 c9 c10 v1 v2 v3 v4 v5 v6 v7 more b tb to) :: tl ∧
    (∃ te, ev = endV eo' te) ∧ (fv = .none ∨ ∃ a, fv = .ref a) ∧ TIn tl rvs rows ∧ (∀ p ∈ tl, p.2.cls = .type "tuple") ∧ pvs.length ≤ plen ∧ OwnOff tl [rl, hs, hd', o, d, pa, hr, dh] ∧ Ap rl hs ∧ Ap rl hd' ∧ Ap rl o ∧ Ap rl d ∧ Ap rl pa ∧ Ap rl hr ∧ Ap rl dh
theorem offSub {l : List (Addr × Obj)} {A B : List Addr} (h : OwnOff l A) (hs : ∀ x ∈ B, x ∈ A) : OwnOff l B := fun p hp x hx => h p hp x (hs x hx)
theorem News.reord {g h : Heap} {L : Addr} {a b c d e1 e2 e3 e4 e5 : Addr × Obj} {tl : List (Addr × Obj)} (N : News g L h (a :: b :: c :: d :: (tl ++ [e1, e2, e3, e4, e5]))) : News g L h (e1 :: e2 :: a :: b :: c :: d :: e3 :: e4 :: e5 :: tl) := fun q hq => N q (by
  simp only [List.mem_cons, List.mem_append, List.not_mem_nil, or_false] at hq ⊢
  rcases hq with h | h | h | h | h | h | h | h | h | h <;> simp only [h, true_or, or_true])
theorem off_more {tl : List (Addr × Obj)} {fl rl hs hd' o d pa hr dh : Addr} (q : OwnOff tl [fl, rl, hs, hd']) (h : ∀ p ∈ tl, p.1 ≠ o ∧ p.1 ≠ d ∧ p.1 ≠ pa ∧ p.1 ≠ hr ∧ p.1 ≠ dh) : OwnOff tl [fl, rl, hs, hd', o, d, pa, hr, dh] := by
  intro p hp c hc
  simp only [List.mem_cons, List.not_mem_nil, or_false] at hc
  have r1 := q p hp
  obtain ⟨r2, r3, r4, r5, r6⟩ := h p hp
  rcases hc with rfl | rfl | rfl | rfl | rfl | rfl | rfl | rfl | rfl
  · exact r1 _ (.head _)
  · exact r1 _ (.tail _ (.head _))
  · exact r1 _ (.tail _ (.tail _ (.head _)))
  · exact r1 _ (.tail _ (.tail _ (.tail _ (.head _))))
  · exact r2
  · exact r3
  · exact r4
  · exact r5
  · exact r6
theorem put_ct (w : World) (mean : ExcName → Option Value) (mg mb : Str → Option Value) (o d hs hd' rw pa hr dh : Addr) (k1 k2 k3 k4 k5 k6 k7 k8 : Tok) (began : Value) (fv : Value) (size : Int) (ts : Tok) (j1 j2 : Tok) (most : Int) (tm tm' : Tok) (eo : Option Int) (te : Tok) (ahead : Int) (ta : Tok) (rs : List (Int × Int))
    (c1 c2 c3 c4 c5 c6 c7 c8 c9 c10 : Tok) (v1 v2 v3 v4 v5 v6 v7 : Value) (more : Bool) (b : Int) (tb to : Tok) (pvs : List Value) (np : Nat) (arr : Array UInt8) (tr : Tok)
    (hlen : rs.length < 1000) (hb0 : 0 ≤ b) (hb1 : b ≤ 1000) (hsz : arr.size ≤ 1000) (hpv : pvs.length ≤ 100000) (hfv : fv = .none ∨ ∃ a, fv = .ref a) (l1 : @LT.lt Nat _ d o) (l2 : @LT.lt Nat _ o hd') (l3 : @LT.lt Nat _ hd' hs) (l4 : @LT.lt Nat _ hs pa) (g1 : Ap hr o) (g2 : Ap hr d) (g3 : Ap hr hs) (g4 : Ap hr hd') (g5 : Ap hr pa) (g6 : Ap dh o) (g7 : Ap dh d) (g8 : Ap dh hs) (g9 : Ap dh hd') (g10 : Ap dh pa) (g11 : Ap dh hr) (y1 : Ap rw o) (y2 : Ap rw d) (y3 : Ap rw hs) (y4 : Ap rw hd') (y5 : Ap rw pa) (y6 : Ap rw hr) (y7 : Ap rw dh) :
    Ct PySem.Challenge.rw_xw0332_01.row.prog w (topK.heap_1 w.params) topView (looseW topView [Str.ofString "IpHeader"]) mean mg mb 80 155 [.ref o, .ref hr, .bytes arr tr]
      [(o, instObj 177 d), (d, dgDict w k1 k2 k3 k4 k5 k6 k7 k8 began most tm hs pa (endV eo te) ahead ta fv size ts), (hs, instObj 123 hd'), (hd', hoDict w j1 j2 most tm' rw), (pa, listOf pvs.toArray np), (hr, instObj 74 dh), (dh, hrDict w c1 c2 c3 c4 c5 c6 c7 c8 c9 c10 v1 v2 v3 v4 v5 v6 v7 more b tb to)] (fun h => RowsAt h rw rs)
      (fun r news' => if against eo ahead (reachv rs most) most (b + arr.size) more = true then r = .bool false ∧ news' = [(o, instObj 177 d), (d, dgDict w k1 k2 k3 k4 k5 k6 k7 k8 began most tm hs pa (endV eo te) ahead ta fv size ts), (hs, instObj 123 hd'), (hd', hoDict w j1 j2 most tm' rw), (pa, listOf pvs.toArray np), (hr, instObj 74 dh), (dh, hrDict w c1 c2 c3 c4 c5 c6 c7 c8 c9 c10 v1 v2 v3 v4 v5 v6 v7 more b tb to)] else r = .bool true ∧ PutPost w o d hs hd' pa hr dh k1 k2 k3 k4 k5 k6 k7 k8 began most tm j1 tm' c1 c2 c3 c4 c5 c6 c7 c8 c9 c10 v1 v2 v3 v4 v5 v6 v7 more b tb to (putEnd eo (b + arr.size) more) (putAhead ahead (b + arr.size) more) (putRows eo b (b + arr.size) most more rs) (pvs.length + rs.length) news') := by
  w_top off
  k_fill
  refine ⟨?_⟩
  intro dp un gd env outer A₀ base h₀ L m s Q E B F X N T hf hke hdp hun hrows hret
  refine wpAny_call ?_
  k_dflt ktr_enter
  rename Keeps _ _ _ => kp
  have hR := hrows.keepsBut kp (fun q hq => (N q hq).1) (by
    simp only [List.map_cons, List.map_nil, List.mem_cons, List.not_mem_nil, or_false, not_or]
    exact ⟨y1.ne, y2.ne, y3.ne, y4.ne, y5.ne, y6.ne, y7.ne⟩) (by simp)
  k_steps
  · try dsimp only
    exact ⟨_, _, _, _, _, rfl, by k_asm, by k_asm, by show ite _ _ _; rw [if_pos (by assumption)]; exact ⟨rfl, rfl⟩⟩
  rename (against _ _ _ _ _ _ = false) => hag
  (with_unfolding_all refine' For_turns (by k_asm) ?_)
  k_steps
  k_dflt refine' ct_use (rest := [(o, instObj 177 d), (d, dgDict w k1 k2 k3 k4 k5 k6 k7 k8 began most tm hs pa (endV eo te) ahead ta fv size ts), (pa, listOf pvs.toArray np), (hr, instObj 74 dh), (dh, hrDict w c1 c2 c3 c4 c5 c6 c7 c8 c9 c10 v1 v2 v3 v4 v5 v6 v7 more b tb to)]) (fill_ct (hlen := ?hlen) (hne := ?hne9) ..) ?B ?F ?X ?N ?T ?hf ?hke ?hd ?hu ?hs ?hr ?hne ?hp ?_
  case B => k_dflt k_asm
  case F => k_dflt k_asm
  case X => k_dflt k_asm
  case N => k_dflt k_asm
  case T => k_dflt k_asm
  case hf => exact rfl
  case hke => exact rfl
  case hs => k_dflt k_allIn
  case hr => k_dflt k_allIn
  case hne =>
    intro q hq
    simp only [List.map_cons, List.map_nil, List.mem_cons, List.not_mem_nil, or_false, not_or] at hq ⊢
    rcases hq with rfl | rfl | rfl | rfl | rfl <;> constructor <;> k_ne
  case hp => exact RowsAt.keeps (Fr.keep (by k_asm)) (by with_reducible assumption)
  case hlen => omega
  case hne9 => exact neN (by omega)
  case hd => ktr_room
  case hu => ktr_units
  intro r9 n9 h9 tk9 F9 N9 D9 P9
  obtain ⟨fl, rl, j3, nf, nr, fvs, rvs, tl, e9, en9, q1, q2, q3, q4, q5, q6, q7, q8, q9⟩ := P9
  subst e9 en9
  simp only [List.cons_append] at N9
  simp only [List.forall_mem_cons, List.not_mem_nil, false_implies, implies_true, and_true] at D9
  obtain ⟨⟨p1, p2, p3, p4, p5⟩, ⟨p6, p7, p8, p9, p10⟩, _, _, D9⟩ := D9
  have N1 : News _ _ h9 ((pa, listOf pvs.toArray np) :: (d, dgDict w k1 k2 k3 k4 k5 k6 k7 k8 began most tm hs pa (endV eo te) ahead ta fv size ts) :: (rl, listOf rvs.toArray nr) :: (fl, listOf fvs.toArray nf) :: (hs, instObj 123 hd') :: (hd', hoDict w j1 j3 most tm' rl) :: (o, instObj 177 d) :: (hr, instObj 74 dh) :: (dh, hrDict w c1 c2 c3 c4 c5 c6 c7 c8 c9 c10 v1 v2 v3 v4 v5 v6 v7 more b tb to) :: tl) := fun q hq => N9 q (by
    simp only [List.mem_cons, List.mem_append, List.not_mem_nil, or_false] at hq ⊢
    rcases hq with h | h | h | h | h | h | h | h | h | h <;> simp only [h, true_or, or_true])
  have q5 := Ap.mk q5
  have q6 := Ap.mk q6
  have q7 := Ap.mk q7
  have q8 := Ap.mk q8
  have q9 := Ap.mk q9
  have p1 := Ap.mk p1
  have p2 := Ap.mk p2
  have p3 := Ap.mk p3
  have p4 := Ap.mk p4
  have p5 := Ap.mk p5
  have p6 := Ap.mk p6
  have p7 := Ap.mk p7
  have p8 := Ap.mk p8
  have p9 := Ap.mk p9
  have p10 := Ap.mk p10
  have q4 : OwnOff tl [fl, rl, hs, hd', o, d, pa, hr, dh] := by
    intro p hp c hc
    simp only [List.mem_cons, List.not_mem_nil, or_false] at hc
    have r1 := q4 p hp
    obtain ⟨r2, r3, r4, r5, r6⟩ := D9 p hp
    rcases hc with rfl | rfl | rfl | rfl | rfl | rfl | rfl | rfl | rfl
    · exact r1 _ (.head _)
    · exact r1 _ (.tail _ (.head _))
    · exact r1 _ (.tail _ (.tail _ (.head _)))
    · exact r1 _ (.tail _ (.tail _ (.tail _ (.head _))))
    · exact r2
    · exact r3
    · exact r4
    · exact r5
    · exact r6
  clear D9 N9
  have hfl := (N1 _ (.tail _ (.tail _ (.tail _ (.head _))))).1
  have hL := (N1 _ (.tail _ (.tail _ (.tail _ (.head _))))).2.1
  with_unfolding_all refine' turnsS [Str.ofString "low", Str.ofString "high"] (PutJ w o d hs hd' pa hr dh rl fl k1 k2 k3 k4 k5 k6 k7 k8 began most tm eo te ahead ta fv j1 j3 tm' c1 c2 c3 c4 c5 c6 c7 c8 c9 c10 v1 v2 v3 v4 v5 v6 v7 more b tb to rvs fvs nr nf pvs tl) (by rfl) ⟨_, hfl, rfl, nf, rfl⟩ hL (.inr ⟨listOf fvs.toArray nf, ?hin⟩) F9 N1 ?hj ?_ ?_
  case hin =>
    rintro i nx ⟨pvs', np', size', ts', rfl, _⟩
    exact .tail _ (.tail _ (.tail _ (.head _)))
  case hj => exact ⟨pvs, np, size, ts, rfl, Nat.le_refl _⟩
  · clear F9 N1
    intro i v u nx h tk I ob hv hJ hc hoff F N
    obtain ⟨pvs', np', size', ts', rfl, hpl⟩ := hJ
    obtain ⟨lo, hi', t, t1, t2, rfl, hmt, hmf⟩ := q1.get i v hv
    obtain ⟨z1, z2, z3⟩ := found_mem hmf
    have hil : i < rs.length := Nat.lt_of_lt_of_le (by rw [← q1.length]; exact (List.getElem?_eq_some_iff.mp hv).1) (found_length b (b + ↑arr.size) rs)
    have ht : IsTup h t #[.int lo t1, .int hi' t2] := ⟨tup lo hi' t1 t2, (N (t, tup lo hi' t1 t2) (.tail _ (.tail _ (.tail _ (.tail _ (.tail _ (.tail _ (.tail _ (.tail _ (.tail _ (.tail _ hmt))))))))))).1, rfl, 0, rfl⟩
    simp only [List.forall_mem_cons] at hoff
    obtain ⟨ho1, ho2, ho3, ho4, ho5, ho6, ho7, ho8, ho9, ho10⟩ := hoff
    have ho1 := Ap.mk ho1
    have ho2 := Ap.mk ho2
    have ho3 := Ap.mk ho3
    have ho4 := Ap.mk ho4
    have ho5 := Ap.mk ho5
    have ho6 := Ap.mk ho6
    have ho7 := Ap.mk ho7
    have ho8 := Ap.mk ho8
    have ho9 := Ap.mk ho9
    obtain ⟨ks9, hka⟩ : ∃ ks, KBw.bInts arr = ks := ⟨_, rfl⟩
    have hkl : ks9.length ≤ 1000 := by rw [← hka, KBw.ints_length]; exact hsz
    k_steps
    show TurnEnd _ _ _ _ _ _ _ _
    refine put_end hpl q3 (by k_asm) (by k_asm) ?_
    intro z hz
    have e1 : z ≠ Str.ofString "low" := by intro e; rw [e] at hz; exact absurd hz (by decide)
    have e2 : z ≠ Str.ofString "high" := by intro e; rw [e] at hz; exact absurd hz (by decide)
    simp only [if_neg e1, if_neg e2, hz, Bool.false_eq_true, if_false]
  · clear F9 N1
    intro u nx h tk hJ F N
    obtain ⟨pvs', np', size', ts', rfl, hpl⟩ := hJ
    have hfl9 : pvs'.length ≤ pvs.length + rs.length := Nat.le_trans hpl (Nat.add_le_add_left (by rw [q1.length]; exact found_length _ _ _) _)
    rcases hfv with rfl | ⟨af, rfl⟩
    all_goals (
      cases eo with
      | none =>
        dsimp only [endV] at N
        k_steps
        iterate 2 (
          try dsimp only
          refine ⟨_, _, _, _, _, rfl, by k_asm, fun q hq => News.get' (by k_asm) (mem_skip3 hq), ?_⟩
          show ite _ _ _
          rw [if_neg (by rw [hag]; decide)]
          rename (more = _) => hm9
          subst hm9
          refine ⟨rfl, rl, _, _, _, rvs, pvs', tl, _, _, _, _, _, rfl, ?e1, ?e2, q2, q3, ?e5, offSub q4 ?e6, q8, q9, p1, p2, p3, p4, p5⟩
          case e2 => first | exact .inl rfl | exact .inr ⟨_, rfl⟩
          case e5 => omega
          case e6 => simp
          case e1 => first | exact ⟨0, rfl⟩ | exact ⟨_, rfl⟩)
        k_dflt refine' ct_use (rest := [(pa, listOf pvs'.toArray np'), (d, _), (o, instObj 177 d), (hr, instObj 74 dh), (dh, hrDict w c1 c2 c3 c4 c5 c6 c7 c8 c9 c10 v1 v2 v3 v4 v5 v6 v7 more b tb to)]) (end_ct (hlen := ?hlen) (hne := ?hne9) ..) ?B ?F ?X ?N ?T ?hf ?hke ?hd ?hu ?hs ?hr ?hne ?hp ?_
        case B => k_dflt k_asm
        case F => k_dflt k_asm
        case X => k_dflt k_asm
        case N => k_dflt k_asm
        case T => k_dflt k_asm
        case hf => exact rfl
        case hke => exact rfl
        case hs => k_dflt k_allIn
        case hr => k_dflt k_allIn
        case hne =>
          intro q hq
          simp only [List.map_cons, List.map_nil, List.mem_cons, List.not_mem_nil, or_false, not_or] at hq ⊢
          rcases hq with rfl | rfl | rfl | rfl | rfl <;> constructor <;> k_ne
        case hp => exact TIn.at q2 (by k_asm) (by k_mem) (by intro p hp; simp only [List.mem_cons, hp, or_true])
        case hlen => exact Nat.lt_of_le_of_lt (rows_length _ _ _) (by omega)
        case hne9 => exact neN (by omega)
        case hd => ktr_room
        case hu => ktr_units
        intro r9 n9 h9 tk9 F9 N9 D9 P9
        obtain ⟨e9, v9, fl2, rl2, j4, nf2, nr2, fvs2, rvs2, tl2, _, en9, r1, r2, r3, r4, r5, r6, r7, r8, r9'⟩ := P9
        subst e9 en9
        simp only [List.cons_append] at N9
        simp only [List.forall_mem_cons, List.not_mem_nil, false_implies, implies_true, and_true] at D9
        obtain ⟨⟨s5', s4', s3', s1', s2'⟩, ⟨_, _, _, _, _⟩, _, _, D9⟩ := D9
        have N2 := News.reord N9
        have r8 := Ap.mk r8
        have r9' := Ap.mk r9'
        have s1 := Ap.mk s3'
        have s2 := Ap.mk s4'
        have s3 := Ap.mk s5'
        have s4 := Ap.mk s1'
        have s5 := Ap.mk s2'
        have r4 : OwnOff tl2 [fl2, rl2, hs, hd', o, d, pa, hr, dh] := off_more r4 (fun p hp => by
          obtain ⟨x1, x2, x3, x4, x5⟩ := D9 p hp
          exact ⟨x3, x2, x1, x4, x5⟩)
        clear D9 N9
        k_steps
        all_goals (
          try dsimp only
          refine ⟨_, _, _, _, _, rfl, by k_asm, fun q hq => News.get' (by k_asm) (mem_skip3 hq), ?_⟩
          show ite _ _ _
          rw [if_neg (by rw [hag]; decide)]
          rename (more = _) => hm9
          subst hm9
          refine ⟨rfl, rl2, _, _, _, rvs2, pvs', tl2, _, _, _, _, _, rfl, ?e1, ?e2, r2, r3, ?e5, offSub r4 ?e6, r8, r9', s1, s2, s3, s4, s5⟩
          case e2 => first | exact .inl rfl | exact .inr ⟨_, rfl⟩
          case e5 => omega
          case e6 => simp
          case e1 => first | exact ⟨0, rfl⟩ | exact ⟨_, rfl⟩)
      | some E0 => 
        dsimp only [endV] at N
        k_steps
        all_goals (
          try dsimp only
          refine ⟨_, _, _, _, _, rfl, by k_asm, fun q hq => News.get' (by k_asm) (mem_skip3 hq), ?_⟩
          show ite _ _ _
          rw [if_neg (by rw [hag]; decide)]
          rename (more = _) => hm9
          subst hm9
          refine ⟨rfl, rl, _, _, _, rvs, pvs', tl, _, _, _, _, _, rfl, ?e1, ?e2, q2, q3, ?e5, offSub q4 ?e6, q8, q9, p1, p2, p3, p4, p5⟩
          case e2 => first | exact .inl rfl | exact .inr ⟨_, rfl⟩
          case e5 => omega
          case e6 => simp
          case e1 => first | exact ⟨0, rfl⟩ | exact ⟨_, rfl⟩))
end
local macro_rules | `(tactic| walk_at "pad") => `(tactic| fail)
local macro_rules | `(tactic| walk_at "pad") => `(tactic| fail)
local macro_rules | `(tactic| walk_at "pad") => `(tactic| fail)
section
/-- the holes: they reach to `ahead` -/
def RowInv (rs : List (Int × Int)) (ahead most : Int) : Prop :=
  (ahead < most ∧ ∃ ini, rs = ini ++ [(ahead, most)] ∧ ∀ r ∈ ini, r.2 < most) ∨ (ahead = most ∧ ∀ r ∈ rs, r.2 < most)
def LawInv (most : Int) (eo : Option Int) (ahead : Int) (rs : List (Int × Int)) (ns : List Int) : Prop :=
  match eo with
  | some E => ns = [E]
  | none => RowInv rs ahead most ∧ 0 ≤ ahead ∧ ahead ≤ most ∧ ∀ x, x ∈ ns ↔ x ≤ most + 1 ∧ (if 0 < ahead then ahead < x else 0 ≤ x)

theorem reach_inv {rs : List (Int × Int)} {ahead most : Int} (h : RowInv rs ahead most) : reachv rs most = ahead := by
  rcases h with ⟨_, ini, rfl, _⟩ | ⟨rfl, h⟩
  · rw [reachv_last, if_pos rfl]
  · rcases rs_cases rs with rfl | ⟨ini, lo, hi, rfl⟩
    · rfl
    · rw [reachv_last]
      have := h (lo, hi) (by simp)
      rw [if_neg (by dsimp only at this; omega)]

theorem rowR_high {b e most : Int} {r q : Int × Int} (h : r.2 < most) (hq : q ∈ rowR b e r) : q.2 < most := by
  unfold rowR at hq
  split at hq
  · simp only [List.mem_cons, List.not_mem_nil, or_false] at hq; rw [hq]; exact h
  · rename_i hc
    rcases List.mem_append.mp hq with hq | hq
    · split at hq
      · simp only [List.mem_cons, List.not_mem_nil, or_false] at hq
        rw [hq]
        have : flast e r.2 ≤ r.2 := by unfold flast; split <;> omega
        show ffirst b r.1 < most
        omega
      · cases hq
    · split at hq
      · simp only [List.mem_cons, List.not_mem_nil, or_false] at hq
        rw [hq]; exact h
      · cases hq
theorem rows_high {b e most : Int} {rs : List (Int × Int)} (h : ∀ r ∈ rs, r.2 < most) : ∀ r ∈ rowsOf b e rs, r.2 < most := by
  intro q hq
  obtain ⟨r, hr, hq⟩ := List.mem_flatMap.mp hq
  exact rowR_high (h r hr) hq
theorem row_inv {rs : List (Int × Int)} {ahead most b e : Int} (h : RowInv rs ahead most) (hb : b < e) (he : e ≤ most) : RowInv (rowsOf b e rs) (if e > ahead then e else ahead) most := by
  rcases h with ⟨h0, ini, rfl, h1⟩ | ⟨rfl, h1⟩
  · have hs : rowsOf b e (ini ++ [(ahead, most)]) = rowsOf b e ini ++ rowR b e (ahead, most) := by
      unfold rowsOf
      rw [List.flatMap_append]
      simp
    rw [hs]
    have hi := rows_high (b := b) (e := e) h1
    by_cases hc : e > ahead
    · rw [if_pos hc]
      have hn : ¬ flast e most ≤ ffirst b ahead := by unfold flast ffirst; split <;> split <;> omega
      have hf : ffirst b ahead < most := by unfold ffirst; split <;> omega
      by_cases hm : e < most
      · have hl : flast e most = e := by unfold flast; rw [if_pos hm]
        left
        refine ⟨hm, ?_⟩
        by_cases h2 : ahead < ffirst b ahead
        · rw [rowR_11 hn h2 (by rw [hl]; exact hm), hl]
          refine ⟨rowsOf b e ini ++ [(ahead, ffirst b ahead)], by simp, ?_⟩
          intro r hr
          rcases List.mem_append.mp hr with hr | hr
          · exact hi r hr
          · simp only [List.mem_cons, List.not_mem_nil, or_false] at hr; rw [hr]; exact hf
        · rw [rowR_01 hn h2 (by rw [hl]; exact hm), hl]
          exact ⟨rowsOf b e ini, rfl, hi⟩
      · have hem : e = most := by omega
        have hl : ¬ flast e most < most := by unfold flast; rw [if_neg hm]; omega
        right
        refine ⟨hem, ?_⟩
        intro r hr
        rcases List.mem_append.mp hr with hr | hr
        · exact hi r hr
        · by_cases h2 : ahead < ffirst b ahead
          · rw [rowR_10 hn h2 hl] at hr
            simp only [List.mem_cons, List.not_mem_nil, or_false] at hr; rw [hr]; exact hf
          · rw [rowR_00 hn h2 hl] at hr; cases hr
    · rw [if_neg hc]
      have hp : flast e most ≤ ffirst b ahead := by unfold flast ffirst; split <;> split <;> omega
      rw [rowR_pos hp]
      exact .inl ⟨h0, rowsOf b e ini, rfl, hi⟩
  · right
    refine ⟨by split <;> omega, rows_high h1⟩

theorem law_ask {most : Int} {eo : Option Int} {ahead : Int} {rs : List (Int × Int)} {ns : List Int} (h : LawInv most eo ahead rs ns) (hm : 0 ≤ most) (e : Int) (more : Bool) (he : 0 ≤ e) :
    against eo ahead (reachv rs most) most e more = denied ns most e more := by
  unfold against denied
  by_cases h1 : most < e
  · rw [if_pos h1, if_pos h1]
  · rw [if_neg h1, if_neg h1]
    cases eo with
    | some E =>
      have h : ns = [E] := h
      subst h
      cases more
      · simp only [Bool.false_eq_true, if_false, List.any_cons, List.any_nil, Bool.or_false]
        by_cases hE : e = E
        · simp [hE]
        · have : ¬ E = e := fun q => hE q.symm
          simp [hE, this]
      · simp
    | none =>
      obtain ⟨hr, h0, h2, hns⟩ := h
      rw [reach_inv hr]
      cases more
      · simp only [Bool.false_eq_true, if_false]
        rw [Bool.eq_iff_iff]
        simp only [Bool.or_eq_true, Bool.and_eq_true, decide_eq_true_eq, Bool.not_eq_true', List.any_eq_false, beq_iff_eq]
        constructor
        · intro hc x hx hxe
          subst hxe
          have := (hns x).mp hx
          obtain ⟨_, q⟩ := this
          split at q <;> omega
        · intro hc
          have hne : ¬ e ∈ ns := fun hx => hc e hx rfl
          rw [hns e] at hne
          by_cases ha : 0 < ahead
          · rw [if_pos ha] at hne; omega
          · rw [if_neg ha] at hne; omega
      · simp only [if_true]
        symm
        rw [decide_eq_false_iff_not]
        intro hc
        have hx : most + 1 ∈ ns := (hns (most + 1)).mpr ⟨Int.le_refl _, by split <;> omega⟩
        have := hc _ hx
        omega
theorem law_ne {most : Int} {eo : Option Int} {ahead : Int} {rs : List (Int × Int)} {ns : List Int} (h : LawInv most eo ahead rs ns) (hm : 0 ≤ most) : 0 < ns.length := by
  cases eo with
  | some E => have h : ns = [E] := h; subst h; simp
  | none =>
    obtain ⟨hr, h0, h2, hns⟩ := h
    have hx : most + 1 ∈ ns := (hns (most + 1)).mpr ⟨Int.le_refl _, by split <;> omega⟩
    exact List.length_pos_of_mem hx
theorem denied_le {ns : List Int} {most e : Int} {more : Bool} (h : denied ns most e more = false) : e ≤ most := by
  unfold denied at h
  by_cases h1 : most < e
  · rw [if_pos h1] at h; cases h
  · omega
theorem law_more {most : Int} {eo : Option Int} {ahead : Int} {rs : List (Int × Int)} {ns : List Int} {b e : Int} (h : LawInv most eo ahead rs ns) (hb : 0 ≤ b) (hbe : b < e) (hd : denied ns most e true = false) :
    LawInv most (putEnd eo e true) (putAhead ahead e true) (putRows eo b e most true rs) (ns.filter fun x => decide (x > e)) := by
  have hle := denied_le hd
  cases eo with
  | some E =>
    have h : ns = [E] := h
    subst h
    unfold denied at hd
    rw [if_neg (by omega), if_pos rfl] at hd
    simp at hd
    show List.filter _ [E] = [E]
    simp [hd]
  | none =>
    obtain ⟨hr, h0, h2, hns⟩ := h
    show RowInv (rowsOf b e rs) (if e > ahead then e else ahead) most ∧ 0 ≤ (if e > ahead then e else ahead) ∧ (if e > ahead then e else ahead) ≤ most ∧ _
    refine ⟨row_inv hr hbe hle, by split <;> omega, by split <;> omega, fun x => ?_⟩
    have hpa : putAhead ahead e true = (if e > ahead then e else ahead) := rfl
    rw [hpa, List.mem_filter, hns x, decide_eq_true_eq, if_pos (show 0 < (if e > ahead then e else ahead) by split <;> omega)]
    by_cases hc : e > ahead
    · rw [if_pos hc]
      constructor
      · rintro ⟨⟨q1, _⟩, q2⟩; exact ⟨q1, q2⟩
      · rintro ⟨q1, q2⟩; exact ⟨⟨q1, by split <;> omega⟩, q2⟩
    · rw [if_neg hc, if_pos (show 0 < ahead by omega)]
      constructor
      · rintro ⟨⟨q1, q3⟩, q2⟩; exact ⟨q1, q3⟩
      · rintro ⟨q1, q2⟩; exact ⟨⟨q1, q2⟩, by omega⟩
theorem law_last {most : Int} {eo : Option Int} {ahead : Int} {rs : List (Int × Int)} {ns : List Int} {b e : Int} (h : LawInv most eo ahead rs ns) (hd : denied ns most e false = false) :
    LawInv most (putEnd eo e false) (putAhead ahead e false) (putRows eo b e most false rs) [e] := by
  have hle := denied_le hd
  cases eo with
  | some E =>
    have h : ns = [E] := h
    subst h
    unfold denied at hd
    rw [if_neg (by omega), if_neg (by decide)] at hd
    simp at hd
    show [e] = [E]
    rw [hd]
  | none => rfl
theorem law_start {most : Int} {ns : List Int} (hm : 0 < most) (hns : ∀ x, x ∈ ns ↔ 0 ≤ x ∧ x < most + 2) : LawInv most none 0 [(0, most)] ns := by
  refine ⟨.inl ⟨hm, [], rfl, fun _ h => (nomatch h)⟩, Int.le_refl _, Int.le_of_lt hm, fun x => ?_⟩
  rw [hns x, if_neg (by omega)]
  omega
theorem putRows_length (eo : Option Int) (b e most : Int) (more : Bool) (rs : List (Int × Int)) : (putRows eo b e most more rs).length ≤ 4 * rs.length := by
  have h1 := rows_length b e rs
  have h2 := rows_length e most (rowsOf b e rs)
  unfold putRows
  split
  · omega
  · split <;> omega
end
local macro_rules | `(tactic| walk_at "pad") => `(tactic| fail)
section
local macro_rules | `(tactic| ktr_enter) => `(tactic| (
  refine' callM _ ?k1 ?k2 ?k3 ?k4 ?k5 ?kA ?kF ?kK ?k6 ?k7 ?k8 ?k9 ?kB ?_ ?kR ?c2 ?c3 ?c4 ?c5; (case kR => assumption); (case kA => exact rfl); (case kF => assumption); (case kK => assumption); (case k1 => k_asm); (case k2 => k_asm); (case k3 => k_asm); (case k4 => k_asm); (case k5 => k_asm); (case k6 => k_is); (case k7 => k_is); (case k8 => ktr_room); (case k9 => exact BindsTo.of_eq rfl); (case c5 => decide); (case kB => exact locs rfl); (case c2 => exact rfl); (case c3 => exact rfl); (case c4 => exact rfl); k_whole; intro g' L' h' F' N' B' X' T' l' kp'; (try dsimp only); (try k_fold)))

local macro_rules | `(tactic| size_fits) => `(tactic| ((with_reducible show _ ≤ PySem.sizeLine); (simp only [PySem.sizeLine_eq, List.size_toArray, Array.size_push, List.length_append, List.length_cons, List.length_nil]); omega))
local macro_rules | `(tactic| k_ne) => `(tactic| (refine neN ?_; (try dsimp only); first | exact Ap.ne (by with_reducible assumption) | exact Ap.ne' (by with_reducible assumption) | omega))
local macro_rules | `(tactic| walk_at "call ref") => `(tactic| (
  (try dsimp only); (with_reducible show wpAny _ _ (PySem.call (Value.ref 195) _ _) _ _ _); k_dflt (
  refine' ct_picks (take_ct (ha := ?ha) (hb := ?hb) (hb' := ?hb') (ht := ?ht) (ht' := ?ht') ..) ?B ?F ?X ?N ?T ?hf ?hke ?hd ?hu ?hs ?hne ?hp ?_;
  (case B => k_asm); (case F => k_asm); (case X => k_asm); (case N => k_asm); (case T => k_asm); (case hf => exact rfl); (case hke => exact rfl);
  (case hs => (refine' Picks.cons ?pk Picks.nil; (case pk => repeat' (first | exact Pick.head | refine' Pick.tail ?_))));
  (case hne => (refine' List.forall_mem_cons.mpr ⟨?_, fun _ h => nomatch h⟩; k_all));
  (case hp => exact trivial); (case ha => first | assumption | omega); (case hb => first | assumption | omega); (case hb' => first | assumption | omega); (case ht => first | omega | l_fact); (case ht' => first | omega | l_fact);
  (case hd => ktr_room); (case hu => ktr_units); k_whole);
  intro r9 n9 h9 tk9 F9 N9 D9 P9; obtain ⟨d9, t9, a9, b9, ta9, tb9, m9, e9, z1, z2, z3, z4, z5, en9⟩ := P9; subst e9; subst en9; clear D9; (try simp only [List.cons_append, List.nil_append] at N9); (try dsimp only)))
theorem one_menu {d : Int} (h0 : 0 ≤ d) (h1 : d < 3) : [(16 : Int), 24, 32].getD d.toNat 0 = 16 ∨ [(16 : Int), 24, 32].getD d.toNat 0 = 24 ∨ [(16 : Int), 24, 32].getD d.toNat 0 = 32 := by
  have h : d = 0 ∨ d = 1 ∨ d = 2 := by omega
  rcases h with rfl | rfl | rfl <;> decide
theorem one_ct (w : World) (mean : ExcName → Option Value) (mg mb : Str → Option Value) (src ml : Addr) (a b : Int) (ta tb x1 x2 x3 : Tok) (n nm : Nat) (ha : 0 ≤ a) (hb : 0 ≤ b) (hb' : b < 2147483647) (hne : Ap src ml) :
    Ct PySem.Challenge.rw_xw0332_01.row.prog w (topK.heap_1 w.params) topView (looseW topView [Str.ofString "IpHeader"]) mean mg mb 40 202 [.ref src, .ref ml] [(src, listOf #[.int a ta, .int b tb] n), (ml, listOf #[.int 16 x1, .int 24 x2, .int 32 x3] nm)] (fun _ => True)
      (fun r news' => ∃ M t a' b' ta' tb' n', r = .int M t ∧ (M = 16 ∨ M = 24 ∨ M = 32) ∧ 0 ≤ a' ∧ 0 ≤ b' ∧ b' < 2147483647 ∧ news' = [(src, listOf #[.int a' ta', .int b' tb'] n')]) := by
  w_top off
  k_fill
  refine ⟨?_⟩
  intro dp un gd env outer A₀ base h₀ L m s Q E B F X N T hf hke hdp hun _ hret
  refine wpAny_call ?_
  k_dflt ktr_enter
  k_steps
  rename_i d9 t9 a9 b9 ta9 tb9 m9 z1 z2 z3 z4 z5 N9 t0
  exact ⟨_, _, _, _, _, rfl, by k_asm, (fun q hq => N9 q (by rw [List.mem_singleton] at hq; subst hq; exact .head _)), _, _, a9, b9, ta9, tb9, m9, rfl, one_menu z1 z2, z3, z4, z5, rfl⟩
end
local macro_rules | `(tactic| walk_at "pad") => `(tactic| fail)
local macro_rules | `(tactic| walk_at "pad") => `(tactic| fail)
section
local macro_rules | `(tactic| ktr_enter) => `(tactic| (
  refine' callM _ ?k1 ?k2 ?k3 ?k4 ?k5 ?kA ?kF ?kK ?k6 ?k7 ?k8 ?k9 ?kB ?_ ?kR ?c2 ?c3 ?c4 ?c5; (case kR => assumption); (case kA => exact rfl); (case kF => assumption); (case kK => assumption); (case k1 => k_asm); (case k2 => k_asm); (case k3 => k_asm); (case k4 => k_asm); (case k5 => k_asm); (case k6 => k_is); (case k7 => k_is); (case k8 => ktr_room); (case k9 => exact BindsTo.of_eq rfl); (case c5 => decide); (case kB => exact locs rfl); (case c2 => exact rfl); (case c3 => exact rfl); (case c4 => exact rfl); k_whole; intro g' L' h' F' N' B' X' T' l' kp'; (try dsimp only); (try k_fold)))

local macro_rules | `(tactic| size_fits) => `(tactic| ((with_reducible show _ ≤ PySem.sizeLine); (simp only [PySem.sizeLine_eq, List.size_toArray, Array.size_push, List.length_append, List.length_cons, List.length_nil]); omega))
local macro_rules | `(tactic| k_ne) => `(tactic| (refine neN ?_; (try dsimp only); first | exact Ap.ne (by with_reducible assumption) | exact Ap.ne' (by with_reducible assumption) | omega))
local macro_rules | `(tactic| k_all) => `(tactic| first | exact List.forall_mem_nil _ | (refine' List.forall_mem_cons.mpr ⟨?a, ?b⟩; (case a => k_ne); (case b => k_all)))
theorem pool_nn {c : Int} {P : Prop} [Decidable P] : 0 ≤ (if -1 - c > c then -1 - c else c) * (if P then 1 else 0) := by
  refine Int.mul_nonneg ?_ ?_
  · split <;> omega
  · split <;> decide
theorem pool_ct (w : World) (mean : ExcName → Option Value) (mg mb : Str → Option Value) (sc : Addr) (vs : List Value) (ns : List Int) (tk0 : Tok) (hI : IntsAre vs ns) (hlay : ns.length ≤ 1048576) :
    Ct PySem.Challenge.rw_xw0332_01.row.prog w (topK.heap_1 w.params) topView (looseW topView [Str.ofString "IpHeader"]) mean mg mb 40 188 [.ref sc, .int 0 tk0] [] (fun h => h.IsList sc vs.toArray)
      (fun r news' => ∃ l a b ta tb n, r = .ref l ∧ 0 ≤ a ∧ 0 ≤ b ∧ b < 2147483647 ∧ news' = [(l, listOf #[.int a ta, .int b tb] n)]) := by
  w_top off
  k_fill
  refine ⟨?_⟩
  intro dp un gd env outer A₀ base h₀ L m s Q E B F X N T hf hke hdp hun hsz hret
  refine wpAny_call ?_
  k_dflt ktr_enter
  rename Keeps _ _ _ => kp
  rename Fr _ _ _ _ => F1
  have hL := Heap.IsList.at hsz fun o e => kp _ o e (by simp)
  k_steps
  all_goals (
    show Done _ _ _ _ _
    exact ⟨_, _, _, _, _, rfl, by k_asm, by k_asm, _, _, _, _, _, _, rfl, pool_nn, Int.fmod_nonneg_of_pos _ (by decide), Int.fmod_lt_of_pos _ (by decide), rfl⟩)
end
local macro_rules | `(tactic| walk_at "pad") => `(tactic| fail)
section
local macro_rules | `(tactic| ktr_enter) => `(tactic| (
  refine' callM _ ?k1 ?k2 ?k3 ?k4 ?k5 ?kA ?kF ?kK ?k6 ?k7 ?k8 ?k9 ?kB ?_ ?kR ?c2 ?c3 ?c4 ?c5; (case kR => assumption); (case kA => exact rfl); (case kF => assumption); (case kK => assumption); (case k1 => k_asm); (case k2 => k_asm); (case k3 => k_asm); (case k4 => k_asm); (case k5 => k_asm); (case k6 => k_is); (case k7 => k_is); (case k8 => ktr_room); (case k9 => exact BindsTo.of_eq rfl); (case c5 => decide); (case kB => exact locs rfl); (case c2 => exact rfl); (case c3 => exact rfl); (case c4 => exact rfl); k_whole; intro g' L' h' F' N' B' X' T' l' kp'; (try dsimp only); (try k_fold)))

local macro_rules | `(tactic| size_fits) => `(tactic| ((with_reducible show _ ≤ PySem.sizeLine); (simp only [PySem.sizeLine_eq, List.size_toArray, Array.size_push, List.length_append, List.length_cons, List.length_nil]); omega))
local macro_rules | `(tactic| k_ne) => `(tactic| (refine neN ?_; (try dsimp only); first | exact Ap.ne (by with_reducible assumption) | exact Ap.ne' (by with_reducible assumption) | omega))
local macro_rules | `(tactic| k_all) => `(tactic| first | exact List.forall_mem_nil _ | (refine' List.forall_mem_cons.mpr ⟨?a, ?b⟩; (case a => k_ne); (case b => k_all)))
local macro_rules | `(tactic| k_room) => `(tactic| ktr_room)
theorem head_ct (w : World) (mean : ExcName → Option Value) (mg mb : Str → Option Value) (b : Int) (tb : Tok) (more : Bool) :
    Ct PySem.Challenge.rw_xw0332_01.row.prog w (topK.heap_1 w.params) topView (looseW topView [Str.ofString "IpHeader"]) mean mg mb 40 209 [.int b tb, .bool more] [] (fun _ => True)
      (fun r news' => ∃ hr dh c1 c2 c3 c4 c5 c6 c7 c8 c9 c10 v1 v2 v3 v4 v5 v6 v7 to, r = .ref hr ∧ Ap dh hr ∧ news' = [(hr, instObj 74 dh), (dh, hrDict w c1 c2 c3 c4 c5 c6 c7 c8 c9 c10 v1 v2 v3 v4 v5 v6 v7 more b tb to)]) := by
  w_top off
  k_fill
  refine ⟨?_⟩
  intro dp un gd env outer A₀ base h₀ L m s Q E B F X N T hf hke hdp hun _ hret
  refine wpAny_call ?_
  k_dflt ktr_enter
  k_steps
  refine ⟨_, _, _, _, _, rfl, by k_asm, by k_asm, _, _, _, _, _, _, _, _, _, _, _, _, _, _, _, _, _, _, _, _, rfl, ?ap, rfl⟩
  exact ⟨neN (by omega)⟩
end
local macro_rules | `(tactic| walk_at "pad") => `(tactic| fail)
section
theorem co0 {P Q : Prop} (h : P ∧ Q) : P := h.1
theorem co1 {A0 P Q : Prop} (h : A0 ∧ P ∧ Q) : P := h.2.1
theorem cl1 {A0 P : Prop} (h : A0 ∧ P) : P := h.2
theorem co2 {A0 A1 P Q : Prop} (h : A0 ∧ A1 ∧ P ∧ Q) : P := h.2.2.1
theorem cl2 {A0 A1 P : Prop} (h : A0 ∧ A1 ∧ P) : P := h.2.2
theorem co3 {A0 A1 A2 P Q : Prop} (h : A0 ∧ A1 ∧ A2 ∧ P ∧ Q) : P := h.2.2.2.1
theorem cl3 {A0 A1 A2 P : Prop} (h : A0 ∧ A1 ∧ A2 ∧ P) : P := h.2.2.2
theorem co4 {A0 A1 A2 A3 P Q : Prop} (h : A0 ∧ A1 ∧ A2 ∧ A3 ∧ P ∧ Q) : P := h.2.2.2.2.1
theorem cl4 {A0 A1 A2 A3 P : Prop} (h : A0 ∧ A1 ∧ A2 ∧ A3 ∧ P) : P := h.2.2.2.2
theorem co5 {A0 A1 A2 A3 A4 P Q : Prop} (h : A0 ∧ A1 ∧ A2 ∧ A3 ∧ A4 ∧ P ∧ Q) : P := h.2.2.2.2.2.1
theorem cl5 {A0 A1 A2 A3 A4 P : Prop} (h : A0 ∧ A1 ∧ A2 ∧ A3 ∧ A4 ∧ P) : P := h.2.2.2.2.2
theorem co6 {A0 A1 A2 A3 A4 A5 P Q : Prop} (h : A0 ∧ A1 ∧ A2 ∧ A3 ∧ A4 ∧ A5 ∧ P ∧ Q) : P := h.2.2.2.2.2.2.1
theorem cl6 {A0 A1 A2 A3 A4 A5 P : Prop} (h : A0 ∧ A1 ∧ A2 ∧ A3 ∧ A4 ∧ A5 ∧ P) : P := h.2.2.2.2.2.2
theorem co7 {A0 A1 A2 A3 A4 A5 A6 P Q : Prop} (h : A0 ∧ A1 ∧ A2 ∧ A3 ∧ A4 ∧ A5 ∧ A6 ∧ P ∧ Q) : P := h.2.2.2.2.2.2.2.1
theorem cl7 {A0 A1 A2 A3 A4 A5 A6 P : Prop} (h : A0 ∧ A1 ∧ A2 ∧ A3 ∧ A4 ∧ A5 ∧ A6 ∧ P) : P := h.2.2.2.2.2.2.2
theorem co8 {A0 A1 A2 A3 A4 A5 A6 A7 P Q : Prop} (h : A0 ∧ A1 ∧ A2 ∧ A3 ∧ A4 ∧ A5 ∧ A6 ∧ A7 ∧ P ∧ Q) : P := h.2.2.2.2.2.2.2.2.1
theorem cl8 {A0 A1 A2 A3 A4 A5 A6 A7 P : Prop} (h : A0 ∧ A1 ∧ A2 ∧ A3 ∧ A4 ∧ A5 ∧ A6 ∧ A7 ∧ P) : P := h.2.2.2.2.2.2.2.2
theorem co9 {A0 A1 A2 A3 A4 A5 A6 A7 A8 P Q : Prop} (h : A0 ∧ A1 ∧ A2 ∧ A3 ∧ A4 ∧ A5 ∧ A6 ∧ A7 ∧ A8 ∧ P ∧ Q) : P := h.2.2.2.2.2.2.2.2.2.1
theorem cl9 {A0 A1 A2 A3 A4 A5 A6 A7 A8 P : Prop} (h : A0 ∧ A1 ∧ A2 ∧ A3 ∧ A4 ∧ A5 ∧ A6 ∧ A7 ∧ A8 ∧ P) : P := h.2.2.2.2.2.2.2.2.2
theorem co10 {A0 A1 A2 A3 A4 A5 A6 A7 A8 A9 P Q : Prop} (h : A0 ∧ A1 ∧ A2 ∧ A3 ∧ A4 ∧ A5 ∧ A6 ∧ A7 ∧ A8 ∧ A9 ∧ P ∧ Q) : P := h.2.2.2.2.2.2.2.2.2.2.1
theorem cl10 {A0 A1 A2 A3 A4 A5 A6 A7 A8 A9 P : Prop} (h : A0 ∧ A1 ∧ A2 ∧ A3 ∧ A4 ∧ A5 ∧ A6 ∧ A7 ∧ A8 ∧ A9 ∧ P) : P := h.2.2.2.2.2.2.2.2.2.2
theorem co11 {A0 A1 A2 A3 A4 A5 A6 A7 A8 A9 A10 P Q : Prop} (h : A0 ∧ A1 ∧ A2 ∧ A3 ∧ A4 ∧ A5 ∧ A6 ∧ A7 ∧ A8 ∧ A9 ∧ A10 ∧ P ∧ Q) : P := h.2.2.2.2.2.2.2.2.2.2.2.1
theorem cl11 {A0 A1 A2 A3 A4 A5 A6 A7 A8 A9 A10 P : Prop} (h : A0 ∧ A1 ∧ A2 ∧ A3 ∧ A4 ∧ A5 ∧ A6 ∧ A7 ∧ A8 ∧ A9 ∧ A10 ∧ P) : P := h.2.2.2.2.2.2.2.2.2.2.2
theorem co12 {A0 A1 A2 A3 A4 A5 A6 A7 A8 A9 A10 A11 P Q : Prop} (h : A0 ∧ A1 ∧ A2 ∧ A3 ∧ A4 ∧ A5 ∧ A6 ∧ A7 ∧ A8 ∧ A9 ∧ A10 ∧ A11 ∧ P ∧ Q) : P := h.2.2.2.2.2.2.2.2.2.2.2.2.1
theorem cl12 {A0 A1 A2 A3 A4 A5 A6 A7 A8 A9 A10 A11 P : Prop} (h : A0 ∧ A1 ∧ A2 ∧ A3 ∧ A4 ∧ A5 ∧ A6 ∧ A7 ∧ A8 ∧ A9 ∧ A10 ∧ A11 ∧ P) : P := h.2.2.2.2.2.2.2.2.2.2.2.2
theorem co13 {A0 A1 A2 A3 A4 A5 A6 A7 A8 A9 A10 A11 A12 P Q : Prop} (h : A0 ∧ A1 ∧ A2 ∧ A3 ∧ A4 ∧ A5 ∧ A6 ∧ A7 ∧ A8 ∧ A9 ∧ A10 ∧ A11 ∧ A12 ∧ P ∧ Q) : P := h.2.2.2.2.2.2.2.2.2.2.2.2.2.1
theorem cl13 {A0 A1 A2 A3 A4 A5 A6 A7 A8 A9 A10 A11 A12 P : Prop} (h : A0 ∧ A1 ∧ A2 ∧ A3 ∧ A4 ∧ A5 ∧ A6 ∧ A7 ∧ A8 ∧ A9 ∧ A10 ∧ A11 ∧ A12 ∧ P) : P := h.2.2.2.2.2.2.2.2.2.2.2.2.2
end
local macro_rules | `(tactic| walk_at "pad") => `(tactic| fail)
section
local macro_rules | `(tactic| ktr_enter) => `(tactic| (
  refine' callM _ ?k1 ?k2 ?k3 ?k4 ?k5 ?kA ?kF ?kK ?k6 ?k7 ?k8 ?k9 ?kB ?_ ?kR ?c2 ?c3 ?c4 ?c5; (case kR => assumption); (case kA => exact rfl); (case kF => assumption); (case kK => assumption); (case k1 => k_asm); (case k2 => k_asm); (case k3 => k_asm); (case k4 => k_asm); (case k5 => k_asm); (case k6 => k_is); (case k7 => k_is); (case k8 => ktr_room); (case k9 => exact BindsTo.of_eq rfl); (case c5 => decide); (case kB => exact locs rfl); (case c2 => exact rfl); (case c3 => exact rfl); (case c4 => exact rfl); k_whole; intro g' L' h' F' N' B' X' T' l' kp'; (try dsimp only); (try k_fold)))

local macro_rules | `(tactic| size_fits) => `(tactic| ((with_reducible show _ ≤ PySem.sizeLine); (simp only [PySem.sizeLine_eq, List.size_toArray, Array.size_push, List.length_append, List.length_cons, List.length_nil]); omega))
local macro_rules | `(tactic| k_ne) => `(tactic| (refine neN ?_; (try dsimp only); first | (with_reducible first | exact Ap.ne (by assumption) | exact Ap.ne' (by assumption) | exact Nat.ne_of_lt (by assumption) | exact Nat.ne_of_gt (by assumption) | exact Nat.ne_of_lt (Nat.lt_add_one _) | exact Nat.ne_of_gt (Nat.lt_add_one _) | exact Nat.ne_of_gt (co0 (by assumption)) | exact Nat.ne_of_lt (co0 (by assumption)) | exact Nat.ne_of_gt (co1 (by assumption)) | exact Nat.ne_of_gt (cl1 (by assumption)) | exact Nat.ne_of_lt (co1 (by assumption)) | exact Nat.ne_of_lt (cl1 (by assumption)) | exact Nat.ne_of_gt (co2 (by assumption)) | exact Nat.ne_of_gt (cl2 (by assumption)) | exact Nat.ne_of_lt (co2 (by assumption)) | exact Nat.ne_of_lt (cl2 (by assumption)) | exact Nat.ne_of_gt (co3 (by assumption)) | exact Nat.ne_of_gt (cl3 (by assumption)) | exact Nat.ne_of_lt (co3 (by assumption)) | exact Nat.ne_of_lt (cl3 (by assumption)) | exact Nat.ne_of_gt (co4 (by assumption)) | exact Nat.ne_of_gt (cl4 (by assumption)) | exact Nat.ne_of_lt (co4 (by assumption)) | exact Nat.ne_of_lt (cl4 (by assumption)) | exact Nat.ne_of_gt (co5 (by assumption)) | exact Nat.ne_of_gt (cl5 (by assumption)) | exact Nat.ne_of_lt (co5 (by assumption)) | exact Nat.ne_of_lt (cl5 (by assumption)) | exact Nat.ne_of_gt (co6 (by assumption)) | exact Nat.ne_of_gt (cl6 (by assumption)) | exact Nat.ne_of_lt (co6 (by assumption)) | exact Nat.ne_of_lt (cl6 (by assumption)) | exact Nat.ne_of_gt (co7 (by assumption)) | exact Nat.ne_of_gt (cl7 (by assumption)) | exact Nat.ne_of_lt (co7 (by assumption)) | exact Nat.ne_of_lt (cl7 (by assumption)) | exact Nat.ne_of_gt (co8 (by assumption)) | exact Nat.ne_of_gt (cl8 (by assumption)) | exact Nat.ne_of_lt (co8 (by assumption)) | exact Nat.ne_of_lt (cl8 (by assumption)) | exact Nat.ne_of_gt (co9 (by assumption)) | exact Nat.ne_of_gt (cl9 (by assumption)) | exact Nat.ne_of_lt (co9 (by assumption)) | exact Nat.ne_of_lt (cl9 (by assumption)) | exact Nat.ne_of_gt (co10 (by assumption)) | exact Nat.ne_of_gt (cl10 (by assumption)) | exact Nat.ne_of_lt (co10 (by assumption)) | exact Nat.ne_of_lt (cl10 (by assumption)) | exact Nat.ne_of_gt (co11 (by assumption)) | exact Nat.ne_of_gt (cl11 (by assumption)) | exact Nat.ne_of_lt (co11 (by assumption)) | exact Nat.ne_of_lt (cl11 (by assumption)) | exact Nat.ne_of_gt (co12 (by assumption)) | exact Nat.ne_of_gt (cl12 (by assumption)) | exact Nat.ne_of_lt (co12 (by assumption)) | exact Nat.ne_of_lt (cl12 (by assumption)) | exact Nat.ne_of_gt (co13 (by assumption)) | exact Nat.ne_of_gt (cl13 (by assumption)) | exact Nat.ne_of_lt (co13 (by assumption)) | exact Nat.ne_of_lt (cl13 (by assumption))) | omega))
local macro_rules | `(tactic| k_all) => `(tactic| first | exact List.forall_mem_nil _ | (refine' List.forall_mem_cons.mpr ⟨?a, ?b⟩; (case a => k_ne); (case b => k_all)))
local macro_rules | `(tactic| walk_at "call ref") => `(tactic| (
  (try dsimp only); (with_reducible show wpAny _ _ (PySem.call (Value.ref 195) _ _) _ _ _); k_dflt (
  refine' ct_picks (take_ct (ha := ?ha) (hb := ?hb) (hb' := ?hb') (ht := ?ht) (ht' := ?ht') ..) ?B ?F ?X ?N ?T ?hf ?hke ?hd ?hu ?hs ?hne ?hp ?_;
  (case B => k_asm); (case F => k_asm); (case X => k_asm); (case N => k_asm); (case T => k_asm); (case hf => exact rfl); (case hke => exact rfl);
  (case hs => (refine' Picks.cons ?pk Picks.nil; (case pk => repeat' (first | exact Pick.head | refine' Pick.tail ?_))));
  (case hne => (refine' List.forall_mem_cons.mpr ⟨?_, fun _ h => nomatch h⟩; k_all));
  (case hp => exact trivial); (case ha => first | assumption | omega); (case hb => first | assumption | omega); (case hb' => first | assumption | omega); (case ht => first | omega | l_fact); (case ht' => first | omega | l_fact);
  (case hd => ktr_room); (case hu => ktr_units); k_whole);
  intro r9 n9 h9 tk9 F9 N9 D9 P9; obtain ⟨d9, t9, a9, b9, ta9, tb9, m9, e9, z1, z2, z3, z4, z5, en9⟩ := P9; subst e9; subst en9; clear D9; (try simp only [List.cons_append, List.nil_append] at N9); (try dsimp only)))
local macro_rules | `(tactic| walk_at "call ref") => `(tactic| (
  (try dsimp only); (with_reducible show wpAny _ _ (PySem.call (Value.ref 202) _ _) _ _ _); k_dflt (
  refine' ct_picks (one_ct (ha := ?ha) (hb := ?hb) (hb' := ?hb') (hne := ?hne9) ..) ?B ?F ?X ?N ?T ?hf ?hke ?hd ?hu ?hs ?hne ?hp ?_;
  (case B => k_asm); (case F => k_asm); (case X => k_asm); (case N => k_asm); (case T => k_asm); (case hf => exact rfl); (case hke => exact rfl);
  (case hs => (refine' Picks.cons ?pk (Picks.cons ?pk2 Picks.nil); (case pk => repeat' (first | exact Pick.head | refine' Pick.tail ?_)); (case pk2 => repeat' (first | exact Pick.head | refine' Pick.tail ?_))));
  (case hne => (refine' List.forall_mem_cons.mpr ⟨?_, List.forall_mem_cons.mpr ⟨?_, fun _ h => nomatch h⟩⟩ <;> k_all));
  (case hp => exact trivial); (case ha => first | assumption | omega); (case hb => first | assumption | omega); (case hb' => first | assumption | omega); (case hne9 => (refine Ap.mk ?_; k_ne));
  (case hd => ktr_room); (case hu => ktr_units); k_whole);
  intro r9 n9 h9 tk9 F9 N9 D9 P9; obtain ⟨d9, t9, a9, b9, ta9, tb9, m9, e9, z1, z3, z4, z5, en9⟩ := P9; subst e9; subst en9; clear D9; (try simp only [List.cons_append, List.nil_append] at N9); (try dsimp only)))
local macro_rules | `(tactic| walk_at "call type:bytes") => `(tactic| ((with_reducible show wpAny _ _ (PySem.call (Value.type "bytes") [Value.int _ _] _) _ _ _); (refine by_call (by first | omega | decide) (by first | omega | decide) ?_); intro t9 k9; (try dsimp only)))
local macro_rules | `(tactic| walk_at "call ref") => `(tactic| (
  (try dsimp only); (with_reducible show wpAny _ _ (PySem.call (Value.ref 216) _ _) _ _ _); k_dflt (
  refine' ct_ro (den_ct (hI := ?hI) (hne := ?hne) ..) ?B ?F ?X ?N ?T ?hf ?hke ?hd ?hu ?hs ?hp ?_;
  (case B => k_asm); (case F => k_asm); (case X => k_asm); (case N => k_asm); (case T => k_asm); (case hf => exact rfl); (case hke => exact rfl);
  (case hs => exact fun _ h => nomatch h); (case hne => with_reducible assumption); (case hI => with_reducible assumption); (case hp => exact ⟨_, (News.get' (q := (_, _)) (by k_asm) (by k_mem)).1, rfl, _, rfl⟩); (case hd => ktr_room); (case hu => ktr_units); k_whole);
  intro r9 h9 tk9 F9 N9 P9; subst P9; (try dsimp only)))
def Stop (P : Prop) : Prop := P
theorem stop_here {P : Prop} (h : Stop P) : P := h
theorem stop_on {P : Prop} (h : P) : Stop P := h
local macro_rules | `(tactic| walk_at "call ref") => `(tactic| ((try dsimp only); first
  | ((with_reducible show wpAny _ _ (PySem.call (Value.ref 155) _ _) _ _ _); refine stop_here ?_)
  | ((with_reducible show wpAny _ _ (PySem.call (Value.ref 148) _ _) _ _ _); refine stop_here ?_)
  | ((with_reducible show wpAny _ _ (PySem.call (Value.ref 223) _ _) _ _ _); refine stop_here ?_)
  | ((with_reducible show wpAny _ _ (PySem.call (Value.ref 209) [Value.int (8 * _) _, Value.bool _] _) _ _ _); refine stop_here ?_)
  | ((with_reducible show wpAny _ _ (PySem.call (Value.ref 188) _ _) _ _ _); refine stop_here ?_)))
local macro_rules | `(tactic| walk_at "exec For Name Call cons nil") => `(tactic| refine stop_here ?_)
local macro_rules | `(tactic| walk_at "pyIter ref") => `(tactic| ((with_reducible show wpAny _ _ (pyIter (Value.ref _)) (fun it s₂ => LoopAtV _ _ _ _ _ _ _ _ _ it s₂) _ _); refine stop_here ?_))
local macro_rules | `(tactic| news_mem) => `(tactic| k_mem)
local macro_rules | `(tactic| walk_at "forall") => `(tactic| ((with_reducible show ∀ (D : Addr) (ys : List Value) (h' : Heap) (tk : Tok), Fr _ _ h' _ → News _ _ h' _ → Heap.get? _ D = none → _ → NewPlain _ _ _ _ → CarriedAll _ _ → _); refine stop_here ?_))
/-- between the turns of the law -/
def MainJ (w : World) (src o d hs hd' pa c2 c1 : Addr) (k1 k2 k3 k4 k5 k6 k7 k8 : Tok) (began : Value) (most : Int) (tm tm' j1 : Tok) (i : Nat) (vsz : Value) (nx : List (Addr × Obj)) : Prop :=
  ∃ (a b : Int) (ta tb : Tok) (n1 : Nat) (sz rl : Addr) (vs rvs pvs : List Value) (zs : List Int) (nz nr np : Nat) (eo : Option Int) (te : Tok) (ahead : Int) (ta' : Tok) (fv : Value) (size : Int) (ts j2 : Tok) (rs : List (Int × Int)) (tl : List (Addr × Obj)) (o1 o2 : Obj),
    vsz = .ref sz ∧
    nx = (sz, listOf vs.toArray nz) :: (src, listOf #[.int a ta, .int b tb] n1) :: (pa, listOf pvs.toArray np) :: (d, dgDict w k1 k2 k3 k4 k5 k6 k7 k8 began most tm hs pa (endV eo te) ahead ta' fv size ts) :: (rl, listOf rvs.toArray nr) :: (hs, instObj 123 hd') :: (hd', hoDict w j1 j2 most tm' rl) :: (o, instObj 177 d) :: (c2, o2) :: (c1, o1) :: tl ∧
    (0 ≤ a ∧ 0 ≤ b ∧ b < 2147483647) ∧ (IntsAre vs zs ∧ zs.length ≤ 200) ∧ LawInv most eo ahead rs zs ∧ TIn tl rvs rs ∧ (∀ p ∈ tl, p.2.cls = .type "tuple") ∧ (fv = .none ∨ ∃ a, fv = .ref a) ∧ rs.length ≤ 4 ^ i ∧ pvs.length ≤ 1000 * i ∧ (∃ v, o1.data = .cell v) ∧ (∃ v, o2.data = .cell v) ∧
    OwnOff tl [sz, src, pa, d, rl, hs, hd', o, c2, c1] ∧ (Ap rl sz ∧ Ap rl src ∧ Ap rl pa ∧ Ap rl d ∧ Ap rl hs ∧ Ap rl hd' ∧ Ap rl o ∧ Ap rl c2 ∧ Ap rl c1) ∧ (Ap sz src ∧ Ap sz pa ∧ Ap sz d ∧ Ap sz hs ∧ Ap sz hd' ∧ Ap sz o ∧ Ap sz c2 ∧ Ap sz c1)
theorem News.start {g h : Heap} {L : Addr} {src t sz pa rw tp hs hd' o d c2 c1 : Addr × Obj} (N : News g L h [src, t, sz, pa, rw, tp, hs, hd', o, d, c2, c1]) : News g L h [sz, src, pa, d, rw, hs, hd', o, c2, c1, tp] := fun q hq => N q (by
  simp only [List.mem_cons, List.not_mem_nil, or_false] at hq ⊢
  rcases hq with h | h | h | h | h | h | h | h | h | h | h <;> simp only [h, true_or, or_true])
theorem range_mem {most : Int} (hm : 0 ≤ most) (x : Int) : x ∈ rangeKs 0 (most + 2 - 0).toNat ↔ 0 ≤ x ∧ x < most + 2 := by
  unfold rangeKs
  simp only [List.mem_map, List.mem_range]
  constructor
  · rintro ⟨k, hk, rfl⟩; omega
  · rintro ⟨h1, h2⟩; exact ⟨x.toNat, by omega, by omega⟩
theorem main_start {w : World} {src o d hs hd' pa c2 c1 : Addr} {k1 k2 k3 k4 k5 k6 k7 k8 : Tok} {began : Value} {most : Int} {tm tm' j1 : Tok} {a b : Int} {ta tb : Tok} {n1 : Nat} {sz rw tp : Addr} {vs : List Value} {nz nr np : Nat} {te : Tok} {ta' : Tok} {size : Int} {ts j2 t1 t2 : Tok} {o1 o2 : Obj} {x1 x2 : Option Value}
    (hI : IntsAre vs (rangeKs 0 (most + 2 - 0).toNat)) (ho1 : o1.data = .cell x1) (ho2 : o2.data = .cell x2) (hm : 0 < most) (hm9 : most < 100) (ha : 0 ≤ a) (hb : 0 ≤ b) (hb' : b < 2147483647)
    (q1 : ∀ y ∈ [sz, src, pa, d, hs, hd', o, c2, c1], @Ne Nat rw y) (q2 : ∀ y ∈ [src, pa, d, hs, hd', o, c2, c1], @Ne Nat sz y) (q3 : ∀ y ∈ [sz, src, pa, d, rw, hs, hd', o, c2, c1], @Ne Nat tp y) :
    MainJ w src o d hs hd' pa c2 c1 k1 k2 k3 k4 k5 k6 k7 k8 began most tm tm' j1 0 (.ref sz)
      [(sz, listOf vs.toArray nz), (src, listOf #[.int a ta, .int b tb] n1), (pa, listOf #[] np), (d, dgDict w k1 k2 k3 k4 k5 k6 k7 k8 began most tm hs pa .none 0 ta' .none size ts), (rw, listOf #[.ref tp] nr), (hs, instObj 123 hd'), (hd', hoDict w j1 j2 most tm' rw), (o, instObj 177 d), (c2, o2), (c1, o1), (tp, tup 0 most t1 t2)] := by
  simp only [List.forall_mem_cons, List.not_mem_nil, false_implies, implies_true, and_true] at q1 q2 q3
  obtain ⟨a1, a2, a3, a4, a5, a6, a7, a8, a9⟩ := q1
  obtain ⟨b1, b2, b3, b4, b5, b6, b7, b8⟩ := q2
  refine ⟨a, b, ta, tb, n1, sz, rw, vs, [.ref tp], [], _, nz, nr, np, none, 0, 0, ta', .none, size, ts, j2, [(0, most)], [(tp, tup 0 most t1 t2)], o1, o2, rfl, rfl, ⟨ha, hb, hb'⟩, ⟨hI, by simp only [rangeKs, List.length_map, List.length_range]; omega⟩, law_start hm (range_mem (Int.le_of_lt hm)), .cons (.head _) .nil, ?_, .inl rfl, by simp, by simp, ⟨_, ho1⟩, ⟨_, ho2⟩, ?_, ⟨⟨a1⟩, ⟨a2⟩, ⟨a3⟩, ⟨a4⟩, ⟨a5⟩, ⟨a6⟩, ⟨a7⟩, ⟨a8⟩, ⟨a9⟩⟩, ⟨⟨b1⟩, ⟨b2⟩, ⟨b3⟩, ⟨b4⟩, ⟨b5⟩, ⟨b6⟩, ⟨b7⟩, ⟨b8⟩⟩⟩
  · intro p hp
    rw [List.mem_singleton.mp hp]
  · intro p hp x hx
    rw [List.mem_singleton.mp hp]
    simp only [List.mem_cons, List.not_mem_nil, or_false] at hx
    obtain ⟨c1, c2, c3, c4, c5, c6, c7, c8, c9, c10⟩ := q3
    rcases hx with rfl | rfl | rfl | rfl | rfl | rfl | rfl | rfl | rfl | rfl <;> assumption
theorem off_one {tl : List (Addr × Obj)} {I : Addr} {l : List Addr} (h : OwnOff tl l) (h1 : ∀ p ∈ tl, p.1 ≠ I) : OwnOff tl (I :: l) := by
  intro p hp x hx
  rcases List.mem_cons.mp hx with rfl | hx
  · exact h1 p hp
  · exact h p hp x hx
theorem News.turn {g h : Heap} {L : Addr} {hr dh src dd I sz pa d rl hs hd' o c2 c1 : Addr × Obj} {tl : List (Addr × Obj)} (N : News g L h (hr :: dh :: src :: dd :: I :: sz :: pa :: d :: rl :: hs :: hd' :: o :: c2 :: c1 :: tl)) : News g L h (o :: d :: hs :: hd' :: pa :: hr :: dh :: src :: I :: sz :: rl :: c2 :: c1 :: tl) := fun q hq => N q (by
  simp only [List.mem_cons] at hq ⊢
  rcases hq with h | h | h | h | h | h | h | h | h | h | h | h | h | h <;> simp only [h, true_or, or_true])
theorem News.denied {g h : Heap} {L : Addr} {hr dh src I sz pa d rl hs hd' o c2 c1 : Addr × Obj} {tl : List (Addr × Obj)} (N : News g L h (o :: d :: hs :: hd' :: pa :: hr :: dh :: src :: I :: sz :: rl :: c2 :: c1 :: tl)) : News g L h (I :: sz :: src :: pa :: d :: rl :: hs :: hd' :: o :: c2 :: c1 :: tl) := fun q hq => N q (by
  simp only [List.mem_cons] at hq ⊢
  rcases hq with h | h | h | h | h | h | h | h | h | h | h | h <;> simp only [h, true_or, or_true])
theorem News.taken {g h : Heap} {L : Addr} {pa d rl2 hs hd' o hr dh src I sz rl c2 c1 : Addr × Obj} {tl tl2 : List (Addr × Obj)} (N : News g L h (pa :: d :: rl2 :: hs :: hd' :: o :: hr :: dh :: (tl2 ++ (src :: I :: sz :: rl :: c2 :: c1 :: tl)))) : News g L h (I :: sz :: src :: pa :: d :: rl2 :: hs :: hd' :: o :: c2 :: c1 :: tl2) := fun q hq => N q (by
  simp only [List.mem_cons, List.mem_append] at hq ⊢
  rcases hq with h | h | h | h | h | h | h | h | h | h | h | h <;> simp only [h, true_or, or_true])
theorem off_taken {tl : List (Addr × Obj)} {rl hs hd' o d pa hr dh src I sz c2 c1 : Addr} (q : OwnOff tl [rl, hs, hd', o, d, pa, hr, dh]) (h : ∀ p ∈ tl, p.1 ≠ src ∧ p.1 ≠ I ∧ p.1 ≠ sz ∧ p.1 ≠ c2 ∧ p.1 ≠ c1) : OwnOff tl [I, sz, src, pa, d, rl, hs, hd', o, c2, c1] := by
  intro p hp c hc
  simp only [List.mem_cons, List.not_mem_nil, or_false] at hc
  obtain ⟨r2, r3, r4, r5, r6⟩ := h p hp
  rcases hc with rfl | rfl | rfl | rfl | rfl | rfl | rfl | rfl | rfl | rfl | rfl
  · exact r3
  · exact r4
  · exact r2
  · exact q p hp _ (by simp)
  · exact q p hp _ (by simp)
  · exact q p hp _ (by simp)
  · exact q p hp _ (by simp)
  · exact q p hp _ (by simp)
  · exact q p hp _ (by simp)
  · exact r5
  · exact r6
theorem eq_false_of_ne_true {b : Bool} (h : ¬ b = true) : b = false := by cases b <;> simp_all
theorem main_end {g h : Heap} {L I : Addr} {ob : Obj} {s₁ : Shared} {tk : Tok} {m₀ m' : Str → Option Value} {w : World} {src o d hs hd' pa c2 c1 : Addr} {k1 k2 k3 k4 k5 k6 k7 k8 : Tok} {began : Value} {most : Int} {tm tm' j1 : Tok} {i : Nat} {a b : Int} {ta tb : Tok} {n1 : Nat} {sz rl : Addr} {vs rvs pvs : List Value} {zs : List Int} {nz nr np : Nat} {eo : Option Int} {te : Tok} {ahead : Int} {ta' : Tok} {fv : Value} {size : Int} {ts j2 : Tok} {rs : List (Int × Int)} {tl : List (Addr × Obj)} {o1 o2 : Obj} {stored : List Str}
    (F : Fr g L h m') (N : News g L h ((I, ob) :: (sz, listOf vs.toArray nz) :: (src, listOf #[.int a ta, .int b tb] n1) :: (pa, listOf pvs.toArray np) :: (d, dgDict w k1 k2 k3 k4 k5 k6 k7 k8 began most tm hs pa (endV eo te) ahead ta' fv size ts) :: (rl, listOf rvs.toArray nr) :: (hs, instObj 123 hd') :: (hd', hoDict w j1 j2 most tm' rl) :: (o, instObj 177 d) :: (c2, o2) :: (c1, o1) :: tl))
    (hm : m' (Str.ofString "sizes") = some (.ref sz)) (hst : ∀ z, z ≠ Str.ofString "sizes" → stored.contains z = false → m' z = m₀ z)
    (hab : 0 ≤ a ∧ 0 ≤ b ∧ b < 2147483647) (hI : IntsAre vs zs ∧ zs.length ≤ 200) (hlaw : LawInv most eo ahead rs zs) (htin : TIn tl rvs rs) (hcls : ∀ p ∈ tl, p.2.cls = .type "tuple") (hfv : fv = .none ∨ ∃ a, fv = .ref a) (hrs : rs.length ≤ 4 ^ (i + 1)) (hpv : pvs.length ≤ 1000 * (i + 1)) (ho1 : ∃ v, o1.data = .cell v) (ho2 : ∃ v, o2.data = .cell v)
    (hoff : OwnOff tl [sz, src, pa, d, rl, hs, hd', o, c2, c1]) (hrl : Ap rl sz ∧ Ap rl src ∧ Ap rl pa ∧ Ap rl d ∧ Ap rl hs ∧ Ap rl hd' ∧ Ap rl o ∧ Ap rl c2 ∧ Ap rl c1) (hsz : Ap sz src ∧ Ap sz pa ∧ Ap sz d ∧ Ap sz hs ∧ Ap sz hd' ∧ Ap sz o ∧ Ap sz c2 ∧ Ap sz c1)
    (hI1 : Ap sz I ∧ Ap src I ∧ Ap pa I ∧ Ap d I ∧ Ap rl I ∧ Ap hs I ∧ Ap hd' I ∧ Ap o I ∧ Ap c2 I ∧ Ap c1 I) (hIt : ∀ p ∈ tl, p.1 ≠ I) :
    TurnEnd g L (.type "range_iterator") I ob (SJY (Str.ofString "sizes") stored m₀ (MainJ w src o d hs hd' pa c2 c1 k1 k2 k3 k4 k5 k6 k7 k8 began most tm tm' j1 (i + 1))) s₁ { s₁ with heap := h, toks := tk } := by
  obtain ⟨i1, i2, i3, i4, i5, i6, i7, i8, i9, i10⟩ := hI1
  refine ⟨h, tk, m', _, rfl, F, fun q hq => N q (.tail _ hq), (N _ (.head _)).1, ?_, ⟨_, hm, ⟨a, b, ta, tb, n1, sz, rl, vs, rvs, pvs, zs, nz, nr, np, eo, te, ahead, ta', fv, size, ts, j2, rs, tl, o1, o2, rfl, rfl, hab, hI, hlaw, htin, hcls, hfv, hrs, hpv, ho1, ho2, hoff, hrl, hsz⟩, hst⟩⟩
  intro p hp
  simp only [List.mem_cons] at hp
  rcases hp with rfl | rfl | rfl | rfl | rfl | rfl | rfl | rfl | rfl | rfl | hp
  · exact .inr i1.ne
  · exact .inr i2.ne
  · exact .inr i3.ne
  · exact .inr i4.ne
  · exact .inr i5.ne
  · exact .inr i6.ne
  · exact .inr i7.ne
  · exact .inr i8.ne
  · exact .inr i9.ne
  · exact .inr i10.ne
  · exact .inr (hIt p hp)
theorem allLt_mem {d : Nat} : ∀ {l : List (Addr × Obj)}, AllLt d l → ∀ p ∈ l, @Ne Nat p.1 d
  | [], _, _, h => nomatch h
  | _ :: _, h, p, hp => by
    rcases List.mem_cons.mp hp with rfl | hp
    · exact Nat.ne_of_lt h.1
    · exact allLt_mem h.2 p hp
theorem News.last {g h : Heap} {L : Addr} {D I sz : Addr × Obj} {tl : List (Addr × Obj)} (N : News g L h (D :: I :: sz :: tl)) : News g L h (I :: D :: tl) := fun q hq => N q (by
  simp only [List.mem_cons] at hq ⊢
  rcases hq with h | h | h <;> simp only [h, true_or, or_true])
theorem off_last {tl : List (Addr × Obj)} {I sz D : Addr} {l : List Addr} (h : OwnOff tl (I :: sz :: l)) (h1 : ∀ p ∈ tl, @Ne Nat p.1 D) : OwnOff tl (D :: l) := by
  intro p hp x hx
  rcases List.mem_cons.mp hx with rfl | hx
  · exact h1 p hp
  · exact h p hp x (.tail _ (.tail _ hx))
theorem rows_four {n k i : Nat} (h : n ≤ 4 * k) (hk : k ≤ 4 ^ i) : n ≤ 4 ^ (i + 1) := by
  rw [Nat.pow_succ]; omega
theorem News.comp {g h : Heap} {L D : Addr} {o : Obj} {tl : List (Addr × Obj)} (N : News g L h tl) (e : h.get? D = some o) (hL : D ≠ L) (hg : g.get? D = none) : News g L h ((D, o) :: tl) := by
  intro q hq
  rcases List.mem_cons.mp hq with rfl | hq
  · exact ⟨e, hL, hg⟩
  · exact N q hq
theorem pv_more {p q r i : Nat} (h : q ≤ p + r) (hp : p ≤ 1000 * i) (hr : r ≤ 64) : q ≤ 1000 * (i + 1) := by omega
theorem pv_keep {p i : Nat} (hp : p ≤ 1000 * i) : p ≤ 1000 * (i + 1) := by omega
theorem be_pos {b : Int} (h : 0 ≤ b) : 0 ≤ 8 * b := by omega
theorem be_lt {b c : Int} (h : 0 ≤ c) : 8 * b < 8 * b + (8 + 8 * c) := by omega
theorem told_a : against (putEnd none 8 true) (putAhead 0 8 true) (reachv (putRows none 0 8 24 true [(0, 24)]) 24) 24 8 false = true := by decide
theorem News.told {g h : Heap} {L : Addr} {a b c d e f x y t1 t2 c1 c2 : Addr × Obj} {tl : List (Addr × Obj)} (N : News g L h (a :: b :: c :: d :: e :: f :: x :: y :: (tl ++ [t1, t2, c1, c2]))) : News g L h [b, d, e, f, c1, c2] := fun q hq => N q (by
  simp only [List.mem_cons, List.mem_append, List.not_mem_nil, or_false] at hq ⊢
  rcases hq with h | h | h | h | h | h <;> simp only [h, true_or, or_true])
theorem News.cells {g h : Heap} {L : Addr} {a b c d c1 c2 : Addr × Obj} (N : News g L h [a, b, c, d, c1, c2]) : News g L h [c1, c2] := fun q hq => N q (by
  simp only [List.mem_cons, List.not_mem_nil, or_false] at hq ⊢
  rcases hq with h | h <;> simp only [h, true_or, or_true])
theorem told_e {k : Int} : (0 : Int) + ((Array.replicate (Int.toNat 8) (0 : UInt8)).size : Int) = 8 := by rw [Array.size_replicate]; rfl
theorem law_T : PySem.Challenge.rw_xw0332_01.Holds := by
  refine hd rfl rfl rfl ?_
  w_top off
  k_go0
  (all_goals try k_fold)
  k_steps
  refine stop_on ?_
  k_dflt refine' ct_picks (put_ct (rs := [(0, 24)]) (eo := none) (te := 0) (fv := .none) (pvs := []) (hlen := ?a1) (hb0 := ?a2) (hb1 := ?a3) (hsz := ?a4) (hpv := ?a5) (hfv := ?a6) (l1 := ?a7) (l2 := ?a8) (l3 := ?a9) (l4 := ?a10) (g1 := ?g1) (g2 := ?g2) (g3 := ?g3) (g4 := ?g4) (g5 := ?g5) (g6 := ?g6) (g7 := ?g7) (g8 := ?g8) (g9 := ?g9) (g10 := ?g10) (g11 := ?g11) (y1 := ?b1) (y2 := ?b2) (y3 := ?b3) (y4 := ?b4) (y5 := ?b5) (y6 := ?b6) (y7 := ?b7) ..) ?B ?F ?X ?N ?T ?hf ?hke ?hd ?hu ?hs ?hne ?hp ?_
  case B => k_dflt k_asm
  case F => k_dflt k_asm
  case X => k_dflt k_asm
  case N => k_dflt k_asm
  case T => k_dflt k_asm
  case hf => exact rfl
  case hke => exact rfl
  case hs =>
    k_dflt (refine' Picks.cons ?p1 (Picks.cons ?p2 (Picks.cons ?p3 (Picks.cons ?p4 (Picks.cons ?p5 (Picks.cons ?p6 (Picks.cons ?p7 Picks.nil)))))); (case p1 => repeat' (first | exact Pick.head | refine' Pick.tail ?_)); (case p2 => repeat' (first | exact Pick.head | refine' Pick.tail ?_)); (case p3 => repeat' (first | exact Pick.head | refine' Pick.tail ?_)); (case p4 => repeat' (first | exact Pick.head | refine' Pick.tail ?_)); (case p5 => repeat' (first | exact Pick.head | refine' Pick.tail ?_)); (case p6 => repeat' (first | exact Pick.head | refine' Pick.tail ?_)); (case p7 => repeat' (first | exact Pick.head | refine' Pick.tail ?_)))
  case hne =>
    (refine' List.forall_mem_cons.mpr ⟨?_, List.forall_mem_cons.mpr ⟨?_, List.forall_mem_cons.mpr ⟨?_, List.forall_mem_cons.mpr ⟨?_, List.forall_mem_cons.mpr ⟨?_, List.forall_mem_cons.mpr ⟨?_, List.forall_mem_cons.mpr ⟨?_, fun _ h => nomatch h⟩⟩⟩⟩⟩⟩⟩) <;> k_all
  case hp => exact ⟨[.ref _], ⟨_, (News.get' (q := (_, _)) (by k_asm) (by k_mem)).1, rfl, 0, rfl⟩, .cons ⟨_, (News.get' (q := (_, _)) (by k_asm) (by k_mem)).1, rfl, 0, rfl⟩ .nil⟩
  case a1 => decide
  case a2 => decide
  case a3 => decide
  case a4 => rw [Array.size_replicate]; decide
  case a5 => decide
  case a6 => exact .inl rfl
  case a7 => omega
  case a8 => omega
  case a9 => omega
  case a10 => omega
  case g1 => exact Ap.mk (by k_ne)
  case g2 => exact Ap.mk (by k_ne)
  case g3 => exact Ap.mk (by k_ne)
  case g4 => exact Ap.mk (by k_ne)
  case g5 => exact Ap.mk (by k_ne)
  case g6 => exact Ap.mk (by k_ne)
  case g7 => exact Ap.mk (by k_ne)
  case g8 => exact Ap.mk (by k_ne)
  case g9 => exact Ap.mk (by k_ne)
  case g10 => exact Ap.mk (by k_ne)
  case g11 => exact Ap.mk (by k_ne)
  case b1 => exact Ap.mk (by k_ne)
  case b2 => exact Ap.mk (by k_ne)
  case b3 => exact Ap.mk (by k_ne)
  case b4 => exact Ap.mk (by k_ne)
  case b5 => exact Ap.mk (by k_ne)
  case b6 => exact Ap.mk (by k_ne)
  case b7 => exact Ap.mk (by k_ne)
  case hd => ktr_room
  case hu => ktr_units
  intro r9 n9 h9 tk9 F9 N9 D9 P9
  rw [told_e (k := 0)] at P9
  rw [if_neg (by decide)] at P9
  obtain ⟨e9, rl, j3, nr, np, rvs, pvs, tl, ev, fv, ta, size, ts, en9, ⟨te, eev⟩, _, q2, q3, q4, q5, q6, q7, q8, q9, q10, q11, q12⟩ := P9
  subst e9 en9 eev
  simp only [List.cons_append] at N9
  have hR := q2.at N9 (.tail _ (.tail _ (.head _))) (fun p hp => by simp only [List.mem_cons, List.mem_append, hp, true_or, or_true])
  have N10 := News.told N9
  clear D9 N9
  k_steps
  refine stop_on ?_
  k_dflt refine' ct_ro (against_ct (eo := putEnd none 8 true) (te := te) (hlen := ?hlen) ..) ?B ?F ?X ?N ?T ?hf ?hke ?hd ?hu ?hs ?hp ?_
  case B => k_dflt k_asm
  case F => k_dflt k_asm
  case X => k_dflt k_asm
  case N => k_dflt k_asm
  case T => k_dflt k_asm
  case hf => exact rfl
  case hke => exact rfl
  case hs => k_dflt k_allIn
  case hp => exact hR
  case hlen => decide
  case hd => ktr_room
  case hu => ktr_units
  clear hR N10
  intro r9 h9 tk9 F9 N9 P9
  rw [told_a] at P9
  subst P9
  have N10 := News.cells N9
  clear N9
  k_steps
  refine stop_on ?_
  k_dflt refine' ct_picks (pool_ct (hI := ?hI) (hlay := ?hlay) ..) ?B ?F ?X ?N ?T ?hf ?hke ?hd ?hu Picks.nil (fun _ h => nomatch h) ?hp ?_
  case B => k_dflt k_asm
  case F => k_dflt k_asm
  case X => k_dflt k_asm
  case N => k_dflt k_asm
  case T => k_dflt k_asm
  case hf => exact rfl
  case hke => exact rfl
  case hI => assumption
  case hp =>
    show Heap.IsList _ _ _
    is_list
  case hlay => exact len_ints_list (by lay_of)
  case hd => ktr_room
  case hu => ktr_units
  intro r9 n9 h9 tk9 F9 N9 D9 P9
  obtain ⟨src, a9, b9, ta9, tb9, m9, e9, z3, z4, z5, en9⟩ := P9
  subst e9 en9
  simp only [List.cons_append, List.nil_append] at N9
  have hs1 := neN (D9 _ (.head _) _ (.head _))
  have hs2 := neN (D9 _ (.head _) _ (.tail _ (.head _)))
  clear D9
  dsimp only at hs1 hs2
  k_steps
  rename_i x57 x58 x59 x60 x61 x62 x63 x64 x65 x66 x67 x68 x69 x70 x71 x72 x73 x74 x75 x76 x77 x78 x79 x80 x81 x82 x83 x84 x85 x86 x87 x88 x89 x90 x91 x92 x93 x94 x95 x96 x97 x98 x99 x100 x101 x102 x103 x104 x105 x106 x107 x108 x109 x110 x111 x112 x113 x114 x115 x116 x117 x118 x119 x120 x121 x122 x123 x124 x125 x126 x127 x128 x129 x130 x131 x132 x133 x134 x135 x136 x137 x138 x139 x140 x141 x142 x143 x144 x145 x146 x147 x148 x149 x150 x151 x152 x153 x154 x155 x156 x157 x158 x159 x160 x161 x162 x163 x164 x165 x166 x167 x168 x169 x170 x171 x172 x173 x174 x175 x176 x177 x178 x179 x180 x181 x182 x183 x184 x197 x209 x210 x224 x225 x226 x227 lz x229 x230 most tmost x233 x234 x235 x236 x237 z1 y3 y4 y5 x242 x243 o d x246 la lb x249 x250 x251 x252 x253 x254 x255 x256 x257 x258 x259 x260 x261 x262 x263 x264 x265 hs hd' x268 lc ld x271 x272 x273 x274 x275 x276 x277 x278 x279 x280 x281 x285 x286 tp x288 le rw x291 lf x293 x294 x295 x296 x297 x298 x299 x300 pa x302 lg x304 x305 x306 x307 x308 x309 x310 x311 x312 x313 x314 x315 x316 x317 x318 x319 x320 sz vs x323 x324 x325 hI lh tt x329 li x331 x332 x333 F1 N1
  clear ek qk lifted x58 x59 x60 x61 x62 x63 x64 x65 x66 x67 x68 x69 x70 x71 x72 x73 x74 x75 x76 x77 x78 x79 x80 x81 x82 x83 x84 x85 x86 x87 x88 x89 x90 x91 x92 x93 x94 x95 x96 x97 x98 x99 x100 x101 x102 x103 x104 x105 x106 x107 x108 x109 x110 x111 x112 x113 x114 x115 x116 x117 x118 x119 x120 x121 x122 x123 x124 x125 x126 x127 x128 x129 x130 x131 x132 x133 x134 x135 x136 x137 x138 x139 x140 x141 x142 x143 x144 x145 x146 x147 x148 x149 x150 x151 x152 x153 x154 x155 x156 x157 x158 x159 x160 x161 x162 x163 x164 x165 x166 x167 x168 x169 x170 x171 x172 x173 x174 x175 x176 x177 x178 x179 x180 x181 x182 x183 x184 rl j3 nr np rvs pvs tl fv ta size ts te x197 q2 q3 q4 q5 q6 q7 q8 q9 q10 q11 q12 x209 x210 h9 tk9 ta9 tb9 m9 x224 x225 x227 x229 x230 x242 x246 x249 x250 x252 x253 x254 x255 x256 x257 x258 x259 x260 x261 x262 x265 x268 x271 x272 x274 x275 x276 x277 x278 x279 x280 x281 x286 x294 x295 x297 x298 x309 x310 x311 x312 x313 x314 x315 x316 x317 x318 x319 x320 x324 x325 x329 x331 x332
  refine stop_on ?_
  (with_unfolding_all refine' For_invVF F1 ?k1 ?k2 ?_)
  case k1 => exact rfl
  case k2 => exact rfl
  k_steps
  refine stop_on ?_
  rename_i xh9 xtk9 xF nd xt9 a0 b0 ta0 tb0 m0 zz1 zz2 zz3 zz4 zz5 xN xh xtk xt xu xv g3 g2 g1 g0
  rename News _ _ _ _ => N2
  rename Fr _ _ _ _ => F2
  rename IsRange _ _ _ _ _ _ _ _ => rgX
  have N3 := News.start N2
  have hm0 : 0 < most := by omega
  with_unfolding_all refine' rangeY (Str.ofString "sizes") [Str.ofString "turn", Str.ofString "more", Str.ofString "is_denied"] (MainJ _ src o d hs hd' pa _ _ _ _ _ _ _ _ _ _ _ most _ _ _) (by rfl) rgX (by exact small_one (by omega) (by omega) (by omega) (by omega)) (by exact rangeSize_nat _ _) F2 N3 (by rfl) (main_start (te := 0) hI ?ho1 ?ho2 hm0 (by omega) zz3 zz4 zz5 ?q1 ?q2 ?q3) ?turn ?done
  case ho1 => assumption
  case ho2 => assumption
  case q1 => simp only [List.forall_mem_cons, List.not_mem_nil, false_implies, implies_true, and_true]; refine ⟨?_, ?_, ?_, ?_, ?_, ?_, ?_, ?_, ?_⟩ <;> omega
  case q2 => simp only [List.forall_mem_cons, List.not_mem_nil, false_implies, implies_true, and_true]; refine ⟨?_, ?_, ?_, ?_, ?_, ?_, ?_, ?_⟩ <;> omega
  case q3 => simp only [List.forall_mem_cons, List.not_mem_nil, false_implies, implies_true, and_true]; refine ⟨?_, ?_, ?_, ?_, ?_, ?_, ?_, ?_, ?_, ?_⟩ <;> omega
  case done =>
    clear N3 N2 F2 rgX
    intro u v nx h tk hJ F N
    obtain ⟨a, b, ta, tb, n1, sz2, rl, vs2, rvs, pvs, zs, nz, nr, np, eo, te, ahead, ta', fv, size, ts, j2, rs, tl, o1, o2, rfl, rfl, ⟨ha, hb, hb'⟩, ⟨hIz, hzl⟩, hlaw, htin, hcls, hfv, hrl, hpl, ⟨v1, ho1⟩, ⟨v2, ho2⟩, hoffT, ⟨r1, r2, r3, r4, r5, r6, r7, r8, r9⟩, ⟨s1, s2, s3, s4, s5, s6, s7, s8⟩⟩ := hJ
    have hm1 : 0 ≤ most := by omega
    have hm2 : most < 100 := by omega
    have hne : 0 < zs.length := law_ne hlaw hm1
    have hi4 : (2 + nd - 0).toNat ≤ 4 := by omega
    have hrs : rs.length ≤ 256 := Nat.le_trans hrl (Nat.le_trans (Nat.pow_le_pow_right (by decide) hi4) (by decide))
    clear F1 N1 xF xN hI hm0 y3 y4 y5
    k_steps
    refine stop_on ?_
    k_dflt refine' ct_ro (asked_ct (hlen := ?hlen) (hI := hIz) (hne := hne) (hm0 := hm1) (hm1 := hm2) (hlaw := law_ask hlaw hm1) ..) ?B ?F ?X ?N ?T ?hf ?hke ?hd ?hu ?hs ?hp ?_
    case B => k_dflt k_asm
    case F => k_dflt k_asm
    case X => k_dflt k_asm
    case N => k_dflt k_asm
    case T => k_dflt k_asm
    case hf => exact rfl
    case hke => exact rfl
    case hs => k_dflt k_allIn
    case hp => exact ⟨TIn.at htin (by k_asm) (by k_mem) (by intro p hp; simp only [List.mem_cons, hp, or_true]), ⟨_, (News.get' (q := (_, _)) (by k_asm) (by k_mem)).1, rfl, nz, rfl⟩⟩
    case hlen => omega
    case hd => ktr_room
    case hu => ktr_units
    clear F N
    intro rr h9 tk9 F9 N9 P9
    subst P9
    k_steps
  case turn =>
    clear N3 N2 F2 rgX
    intro i t u v nx h tk I ob QQ hi hJ hc hoff F N hQQ
    obtain ⟨a, b, ta, tb, n1, sz2, rl, vs2, rvs, pvs, zs, nz, nr, np, eo, te, ahead, ta', fv, size, ts, j2, rs, tl, o1, o2, rfl, rfl, ⟨ha, hb, hb'⟩, ⟨hIz, hzl⟩, hlaw, htin, hcls, hfv, hrl, hpl, ⟨v1, ho1⟩, ⟨v2, ho2⟩, hoffT, ⟨r1, r2, r3, r4, r5, r6, r7, r8, r9⟩, ⟨s1, s2, s3, s4, s5, s6, s7, s8⟩⟩ := hJ
    simp only [List.forall_mem_cons] at hoff
    obtain ⟨i1, i2, i3, i4, i5, i6, i7, i8, i9, i10, i11⟩ := hoff
    replace i1 := Ap.mk i1
    replace i2 := Ap.mk i2
    replace i3 := Ap.mk i3
    replace i4 := Ap.mk i4
    replace i5 := Ap.mk i5
    replace i6 := Ap.mk i6
    replace i7 := Ap.mk i7
    replace i8 := Ap.mk i8
    replace i9 := Ap.mk i9
    replace i10 := Ap.mk i10
    have hoffT := off_one hoffT i11
    have hm1 : 0 ≤ most := by omega
    have hm2 : most < 100 := by omega
    have hi3 : i ≤ 3 := by omega
    have hrs : rs.length ≤ 64 := Nat.le_trans hrl (Nat.le_trans (Nat.pow_le_pow_right (by decide) hi3) (by decide))
    have hpv : pvs.length ≤ 3000 := by omega
    have hne : 0 < zs.length := law_ne hlaw hm1
    clear i11 F1 N1 xF xN hI hi hm0 y3 y4 y5 zz1 zz2 zz3 zz4 zz5
    k_steps
    refine stop_on ?_
    k_dflt refine' ct_ro (asked_ct (hlen := ?hlen) (hI := hIz) (hne := hne) (hm0 := hm1) (hm1 := hm2) (hlaw := law_ask hlaw hm1) ..) ?B ?F ?X ?N ?T ?hf ?hke ?hd ?hu ?hs ?hp ?_
    case B => k_dflt k_asm
    case F => k_dflt k_asm
    case X => k_dflt k_asm
    case N => k_dflt k_asm
    case T => k_dflt k_asm
    case hf => exact rfl
    case hke => exact rfl
    case hs => k_dflt k_allIn
    case hp => exact ⟨TIn.at htin (by k_asm) (by k_mem) (by intro p hp; simp only [List.mem_cons, hp, or_true]), ⟨_, (News.get' (q := (_, _)) (by k_asm) (by k_mem)).1, rfl, nz, rfl⟩⟩
    case hlen => omega
    case hd => ktr_room
    case hu => ktr_units
    clear F N
    intro rr h9 tk9 F9 N9 P9
    subst P9
    k_steps
    all_goals (
      rename_i x216 x217 bd tbd x220 x221 x222 x223 x224 bz1 bz2 x227 x228 x229 x230 x231 md x233 x234 x235 x236 x237 x238 mz1 mz2 x241 x242 x243 DD x245 DL x247 FX NX x250 oc1 hoc1 x253 x254 hmo x256 x257 cd tcd sa sb sta stb sm cz1 cz2 sz3 sz4 sz5 x270 oc2 hoc2 x273 x274 x275 x276 FF NN
      have hfd : most.fdiv 8 ≤ 4 := by rcases z1 with h | h | h <;> rw [h] <;> decide
      clear FX NX DL x227 x228 x229 x241 x242 x243
      refine stop_on ?_
      k_dflt refine' ct_picks (head_ct ..) ?B ?F ?X ?N ?T ?hf ?hke ?hd ?hu Picks.nil (fun _ h => nomatch h) trivial ?_
      case B => k_dflt k_asm
      case F => k_dflt k_asm
      case X => k_dflt k_asm
      case N => k_dflt k_asm
      case T => k_dflt k_asm
      case hf => exact rfl
      case hke => exact rfl
      case hd => ktr_room
      case hu => ktr_units
      clear FF NN
      intro rr n9 hh9 tkh9 F9 N9 D9 P9
      obtain ⟨hr, dh, c1, c2, c3, c4, c5, c6, c7, c8, c9, c10, v1, v2, v3, v4, v5, v6, v7, to, e9, ap9, en9⟩ := P9
      subst e9 en9
      simp only [List.cons_append, List.nil_append] at N9
      simp only [List.forall_mem_cons, List.not_mem_nil, false_implies, implies_true, and_true] at D9
      obtain ⟨⟨g1, g2, g3, g4, g5, g6, g7, g8, g9, g10, g11, g12, g13⟩, ⟨f1, f2, f3, f4, f5, f6, f7, f8, f9, f10, f11, f12, f13⟩⟩ := D9
      replace g1 := Ap.mk g1
      replace g2 := Ap.mk g2
      replace g3 := Ap.mk g3
      replace g4 := Ap.mk g4
      replace g5 := Ap.mk g5
      replace g6 := Ap.mk g6
      replace g7 := Ap.mk g7
      replace g8 := Ap.mk g8
      replace g9 := Ap.mk g9
      replace g10 := Ap.mk g10
      replace g11 := Ap.mk g11
      replace g12 := Ap.mk g12
      replace f1 := Ap.mk f1
      replace f2 := Ap.mk f2
      replace f3 := Ap.mk f3
      replace f4 := Ap.mk f4
      replace f5 := Ap.mk f5
      replace f6 := Ap.mk f6
      replace f7 := Ap.mk f7
      replace f8 := Ap.mk f8
      replace f9 := Ap.mk f9
      replace f10 := Ap.mk f10
      replace f11 := Ap.mk f11
      replace f12 := Ap.mk f12
      have hoffT := off_one (off_one hoffT (fun p hp => Ne.symm (g13 p hp))) (fun p hp => Ne.symm (f13 p hp))
      have N10 := News.turn N9
      clear N9 g13 f13
      k_steps)
    · refine stop_on ?_
      k_dflt refine' ct_picks (put_ct (rs := rs) (eo := eo) (te := te) (fv := fv) (pvs := pvs) (hlen := ?a1) (hb0 := ?a2) (hb1 := ?a3) (hsz := ?a4) (hpv := ?a5) (hfv := hfv) (l1 := ?a7) (l2 := ?a8) (l3 := ?a9) (l4 := ?a10) (g1 := g10) (g2 := g6) (g3 := g8) (g4 := g9) (g5 := g5) (g6 := f10) (g7 := f6) (g8 := f8) (g9 := f9) (g10 := f5) (g11 := ap9) (y1 := r7) (y2 := r4) (y3 := r5) (y4 := r6) (y5 := r3) (y6 := ⟨Ne.symm g7.ne⟩) (y7 := ⟨Ne.symm f7.ne⟩) ..) ?B ?F ?X ?N ?T ?hf ?hke ?hd ?hu ?hs ?hne ?hp ?_
      case B => k_dflt k_asm
      case F => k_dflt k_asm
      case X => k_dflt k_asm
      case N => k_dflt k_asm
      case T => k_dflt k_asm
      case hf => exact rfl
      case hke => exact rfl
      case hs => exact Picks.cons .head (Picks.cons .head (Picks.cons .head (Picks.cons .head (Picks.cons .head (Picks.cons .head (Picks.cons .head Picks.nil))))))
      case hne =>
        (refine' List.forall_mem_cons.mpr ⟨?_, List.forall_mem_cons.mpr ⟨?_, List.forall_mem_cons.mpr ⟨?_, List.forall_mem_cons.mpr ⟨?_, List.forall_mem_cons.mpr ⟨?_, List.forall_mem_cons.mpr ⟨?_, List.forall_mem_cons.mpr ⟨?_, fun _ h => nomatch h⟩⟩⟩⟩⟩⟩⟩) <;> k_all
      case hp => exact TIn.at htin (by k_asm) (by k_mem) (by intro p hp; simp only [List.mem_cons, hp, or_true])
      case a1 => omega
      case a2 => omega
      case a3 => omega
      case a4 => rw [Array.size_replicate]; omega
      case a5 => omega
      case a7 => omega
      case a8 => omega
      case a9 => omega
      case a10 => omega
      case hd => ktr_room
      case hu => ktr_units
      intro rr n9 hh9 tkh9 F9 N9 D9 P9
      rw [Array.size_replicate, Int.toNat_of_nonneg (by omega), law_ask hlaw hm1 _ _ (by omega)] at P9
      by_cases hdn : denied zs most (8 * bd + (8 + 8 * cd)) (decide (0 < md)) = true
      · rw [if_pos hdn] at P9
        obtain ⟨e9, en9⟩ := P9
        subst e9 en9
        simp only [List.cons_append, List.nil_append] at N9
        clear D9
        simp only [hdn] at F9
        have N11 := News.denied N9
        clear N9
        k_steps
        refine hQQ _ ?_
        rename Fr _ _ _ _ => F12
        rename News _ _ _ _ => N12
        refine main_end F12 N12 rfl ?hst ⟨sz3, sz4, sz5⟩ ⟨hIz, hzl⟩ hlaw htin hcls hfv (Nat.le_trans hrl (Nat.pow_le_pow_right (by decide) (Nat.le_succ _))) (pv_keep hpl) ⟨_, by assumption⟩ ⟨_, by assumption⟩ ?hoff ⟨r1, r2, r3, r4, r5, r6, r7, r8, r9⟩ ⟨s1, s2, s3, s4, s5, s6, s7, s8⟩ ⟨i1, i2, i3, i4, i5, i6, i7, i8, i9, i10⟩ ?hIt
        case hst =>
          intro z h1 h2
          have e1 : z ≠ Str.ofString "is_denied" := by
            intro e
            rw [e] at h2
            exact absurd h2 (by decide)
          have e2 : z ≠ Str.ofString "more" := by
            intro e
            rw [e] at h2
            exact absurd h2 (by decide)
          have e3 : z ≠ Str.ofString "turn" := by
            intro e
            rw [e] at h2
            exact absurd h2 (by decide)
          simp only [if_neg e1, if_neg e2, if_neg e3, if_neg h1, h2, Bool.false_eq_true, if_false]
        case hoff => exact fun p hp x hx => hoffT p hp x (.tail _ (.tail _ (.tail _ hx)))
        case hIt => exact fun p hp => hoffT p hp _ (.tail _ (.tail _ (.head _)))
      · rw [if_neg hdn] at P9
        replace hdn := eq_false_of_ne_true hdn
        obtain ⟨e9, rl2, j3, nr2, np2, rvs2, pvs2, tl2, ev2, fv2, ta2, size2, ts2, en9, ⟨te2, eev⟩, hfv2, q2, q3, q4, q5, q6, q7, q8, q9, q10, q11, q12⟩ := P9
        subst e9 en9 eev
        simp only [List.cons_append, List.nil_append] at N9
        simp only [hdn] at F9
        have N11 := News.taken N9
        clear N9
        simp only [List.forall_mem_cons, List.not_mem_nil, false_implies, implies_true, and_true] at D9
        obtain ⟨_, _, ⟨w1, w2, w3, _, w5, w6, _⟩, _, _, _, _, _, D9⟩ := D9
        replace w1 := Ap.mk w1
        replace w2 := Ap.mk w2
        replace w3 := Ap.mk w3
        replace w5 := Ap.mk w5
        replace w6 := Ap.mk w6
        have hoff2 : OwnOff tl2 [I, sz2, src, pa, d, rl2, hs, hd', o, _, _] := off_taken q5 (fun p hp => by
          obtain ⟨x1, x2, x3, _, x5, x6, _⟩ := D9 p hp
          exact ⟨x1, x2, x3, x5, x6⟩)
        clear D9
        k_steps
        rotate_left 3
        refine stop_on ?_
        intro D5 ys5 h5 tk5 F5 N5 e5 l5 p5 c5
        have hDL := NewPlain.ne_locals p5 F5
        obtain ⟨⟨nD, eD⟩, pn⟩ := p5
        simp only [List.forall_mem_cons] at pn
        obtain ⟨pI, psz, psrc, ppa, pd, prl, phs, phd, po, pc2, pc1, ptl⟩ := pn
        replace pI := Ap.mk (Ne.symm pI)
        replace psrc := Ap.mk (Ne.symm psrc)
        replace ppa := Ap.mk (Ne.symm ppa)
        replace pd := Ap.mk (Ne.symm pd)
        replace prl := Ap.mk prl
        replace phs := Ap.mk (Ne.symm phs)
        replace phd := Ap.mk (Ne.symm phd)
        replace po := Ap.mk (Ne.symm po)
        replace pc2 := Ap.mk (Ne.symm pc2)
        replace pc1 := Ap.mk (Ne.symm pc1)
        have N6 := News.comp N5 eD hDL e5
        clear N5 l5 eD psz hDL e5
        k_steps
        with_reducible rename Fr _ _ _ _ => F12
        with_reducible rename News _ _ _ _ => N12
        refine hQQ _ ?_
        refine main_end (zs := zs.filter fun x => decide (x > 8 * bd + (8 + 8 * cd))) F12 (News.last N12) rfl ?hst ⟨sz3, sz4, sz5⟩ ?hI ?hl q2 q3 hfv2 (rows_four (putRows_length ..) hrl) ?hpv ⟨_, hoc1⟩ ⟨_, hoc2⟩ (off_last hoff2 ?hD) ⟨prl, w1, q10, q9, q6, q7, q8, w5, w6⟩ ⟨psrc, ppa, pd, phs, phd, po, pc2, pc1⟩ ⟨pI, i2, i3, i4, w2, i6, i7, i8, i9, i10⟩ (fun p hp => hoff2 p hp _ (.head _))
        case hst =>
          intro z h1 h2
          have e1 : z ≠ Str.ofString "is_denied" := by
            intro e
            rw [e] at h2
            exact absurd h2 (by decide)
          have e2 : z ≠ Str.ofString "more" := by
            intro e
            rw [e] at h2
            exact absurd h2 (by decide)
          have e3 : z ≠ Str.ofString "turn" := by
            intro e
            rw [e] at h2
            exact absurd h2 (by decide)
          simp only [if_neg e1, if_neg e2, if_neg e3, if_neg h1, h2, Bool.false_eq_true, if_false]
        case hI =>
          have h5 := CarriedAll.intsOf c5
          rw [List.map_id'] at h5
          exact ⟨h5, Nat.le_trans (List.length_filter_le _ _) hzl⟩
        case hl =>
          have hmf : decide (0 < md) = true := decide_eq_true hmo
          rw [hmf] at hdn ⊢
          exact law_more hlaw (be_pos bz1) (be_lt cz1) hdn
        case hD => exact ptl
        case hpv => exact pv_more q4 hpl hrs
        all_goals first | exact Value.none | exact Str.ofString "x" | exact (show Nat from 0)
    · refine stop_on ?_
      k_dflt refine' ct_picks (put_ct (rs := rs) (eo := eo) (te := te) (fv := fv) (pvs := pvs) (hlen := ?a1) (hb0 := ?a2) (hb1 := ?a3) (hsz := ?a4) (hpv := ?a5) (hfv := hfv) (l1 := ?a7) (l2 := ?a8) (l3 := ?a9) (l4 := ?a10) (g1 := g10) (g2 := g6) (g3 := g8) (g4 := g9) (g5 := g5) (g6 := f10) (g7 := f6) (g8 := f8) (g9 := f9) (g10 := f5) (g11 := ap9) (y1 := r7) (y2 := r4) (y3 := r5) (y4 := r6) (y5 := r3) (y6 := ⟨Ne.symm g7.ne⟩) (y7 := ⟨Ne.symm f7.ne⟩) ..) ?B ?F ?X ?N ?T ?hf ?hke ?hd ?hu ?hs ?hne ?hp ?_
      case B => k_dflt k_asm
      case F => k_dflt k_asm
      case X => k_dflt k_asm
      case N => k_dflt k_asm
      case T => k_dflt k_asm
      case hf => exact rfl
      case hke => exact rfl
      case hs => exact Picks.cons .head (Picks.cons .head (Picks.cons .head (Picks.cons .head (Picks.cons .head (Picks.cons .head (Picks.cons .head Picks.nil))))))
      case hne =>
        (refine' List.forall_mem_cons.mpr ⟨?_, List.forall_mem_cons.mpr ⟨?_, List.forall_mem_cons.mpr ⟨?_, List.forall_mem_cons.mpr ⟨?_, List.forall_mem_cons.mpr ⟨?_, List.forall_mem_cons.mpr ⟨?_, List.forall_mem_cons.mpr ⟨?_, fun _ h => nomatch h⟩⟩⟩⟩⟩⟩⟩) <;> k_all
      case hp => exact TIn.at htin (by k_asm) (by k_mem) (by intro p hp; simp only [List.mem_cons, hp, or_true])
      case a1 => omega
      case a2 => omega
      case a3 => omega
      case a4 => rw [Array.size_replicate]; omega
      case a5 => omega
      case a7 => omega
      case a8 => omega
      case a9 => omega
      case a10 => omega
      case hd => ktr_room
      case hu => ktr_units
      intro rr n9 hh9 tkh9 F9 N9 D9 P9
      rw [Array.size_replicate, Int.toNat_of_nonneg (by omega), law_ask hlaw hm1 _ _ (by omega)] at P9
      by_cases hdn : denied zs most (8 * bd + cd) (decide (0 < md)) = true
      · rw [if_pos hdn] at P9
        obtain ⟨e9, en9⟩ := P9
        subst e9 en9
        simp only [List.cons_append, List.nil_append] at N9
        clear D9
        simp only [hdn] at F9
        have N11 := News.denied N9
        clear N9
        k_steps
        refine hQQ _ ?_
        rename Fr _ _ _ _ => F12
        rename News _ _ _ _ => N12
        refine main_end F12 N12 rfl ?hst ⟨sz3, sz4, sz5⟩ ⟨hIz, hzl⟩ hlaw htin hcls hfv (Nat.le_trans hrl (Nat.pow_le_pow_right (by decide) (Nat.le_succ _))) (pv_keep hpl) ⟨_, by assumption⟩ ⟨_, by assumption⟩ ?hoff ⟨r1, r2, r3, r4, r5, r6, r7, r8, r9⟩ ⟨s1, s2, s3, s4, s5, s6, s7, s8⟩ ⟨i1, i2, i3, i4, i5, i6, i7, i8, i9, i10⟩ ?hIt
        case hst =>
          intro z h1 h2
          have e1 : z ≠ Str.ofString "is_denied" := by
            intro e
            rw [e] at h2
            exact absurd h2 (by decide)
          have e2 : z ≠ Str.ofString "more" := by
            intro e
            rw [e] at h2
            exact absurd h2 (by decide)
          have e3 : z ≠ Str.ofString "turn" := by
            intro e
            rw [e] at h2
            exact absurd h2 (by decide)
          simp only [if_neg e1, if_neg e2, if_neg e3, if_neg h1, h2, Bool.false_eq_true, if_false]
        case hoff => exact fun p hp x hx => hoffT p hp x (.tail _ (.tail _ (.tail _ hx)))
        case hIt => exact fun p hp => hoffT p hp _ (.tail _ (.tail _ (.head _)))
      · rw [if_neg hdn] at P9
        replace hdn := eq_false_of_ne_true hdn
        obtain ⟨e9, rl2, j3, nr2, np2, rvs2, pvs2, tl2, ev2, fv2, ta2, size2, ts2, en9, ⟨te2, eev⟩, hfv2, q2, q3, q4, q5, q6, q7, q8, q9, q10, q11, q12⟩ := P9
        subst e9 en9 eev
        simp only [List.cons_append, List.nil_append] at N9
        simp only [hdn] at F9
        have N11 := News.taken N9
        clear N9
        simp only [List.forall_mem_cons, List.not_mem_nil, false_implies, implies_true, and_true] at D9
        obtain ⟨_, _, ⟨w1, w2, w3, _, w5, w6, _⟩, _, _, _, _, _, D9⟩ := D9
        replace w1 := Ap.mk w1
        replace w2 := Ap.mk w2
        replace w3 := Ap.mk w3
        replace w5 := Ap.mk w5
        replace w6 := Ap.mk w6
        have hoff2 : OwnOff tl2 [I, sz2, src, pa, d, rl2, hs, hd', o, _, _] := off_taken q5 (fun p hp => by
          obtain ⟨x1, x2, x3, _, x5, x6, _⟩ := D9 p hp
          exact ⟨x1, x2, x3, x5, x6⟩)
        clear D9
        k_steps
        with_reducible rename (_ ∧ _ ∧ _ ∧ _ ∧ _ ∧ _ ∧ _ ∧ _ ∧ _ ∧ _ ∧ _ ∧ AllLt _ _) => lt1
        obtain ⟨lI, lsz, lsrc, lpa, ld, lrl, lhs, lhd, lo, lc2, lc1, ltl⟩ := lt1
        with_reducible rename Fr _ _ _ _ => F12
        with_reducible rename News _ _ _ _ => N12
        refine hQQ _ ?_
        refine main_end (zs := [8 * bd + cd]) F12 (News.last N12) rfl ?hst ⟨sz3, sz4, sz5⟩ ?hI ?hl q2 q3 hfv2 (rows_four (putRows_length ..) hrl) ?hpv ⟨_, hoc1⟩ ⟨_, hoc2⟩ (off_last hoff2 ?hD) ⟨⟨Nat.ne_of_lt lrl⟩, w1, q10, q9, q6, q7, q8, w5, w6⟩ ⟨⟨Nat.ne_of_gt lsrc⟩, ⟨Nat.ne_of_gt lpa⟩, ⟨Nat.ne_of_gt ld⟩, ⟨Nat.ne_of_gt lhs⟩, ⟨Nat.ne_of_gt lhd⟩, ⟨Nat.ne_of_gt lo⟩, ⟨Nat.ne_of_gt lc2⟩, ⟨Nat.ne_of_gt lc1⟩⟩ ⟨⟨Nat.ne_of_gt lI⟩, i2, i3, i4, w2, i6, i7, i8, i9, i10⟩ (fun p hp => hoff2 p hp _ (.head _))
        case hst =>
          intro z h1 h2
          have e1 : z ≠ Str.ofString "is_denied" := by
            intro e
            rw [e] at h2
            exact absurd h2 (by decide)
          have e2 : z ≠ Str.ofString "more" := by
            intro e
            rw [e] at h2
            exact absurd h2 (by decide)
          have e3 : z ≠ Str.ofString "turn" := by
            intro e
            rw [e] at h2
            exact absurd h2 (by decide)
          simp only [if_neg e1, if_neg e2, if_neg e3, if_neg h1, h2, Bool.false_eq_true, if_false]
        case hI => exact ⟨.cons _ _ .nil, by simp⟩
        case hl =>
          have hmf : decide (0 < md) = false := decide_eq_false hmo
          rw [hmf] at hdn ⊢
          exact law_last hlaw hdn
        case hD => exact allLt_mem ltl
        case hpv => exact pv_more q4 hpl hrs
end
local macro_rules | `(tactic| walk_at "pad") => `(tactic| fail)
local macro_rules | `(tactic| walk_at "pad") => `(tactic| fail)
local macro_rules | `(tactic| walk_at "pad") => `(tactic| fail)
local macro_rules | `(tactic| walk_at "pad") => `(tactic| fail)
local macro_rules | `(tactic| walk_at "pad") => `(tactic| fail)
local macro_rules | `(tactic| walk_at "pad") => `(tactic| fail)
local macro_rules | `(tactic| walk_at "pad") => `(tactic| fail)
local macro_rules | `(tactic| walk_at "pad") => `(tactic| fail)
local macro_rules | `(tactic| walk_at "pad") => `(tactic| fail)
end Xw
theorem PySem.Challenge.cw_xw0332_01_holds : PySem.Challenge.rw_xw0332_01.Holds := by
  exact Xw.law_T
