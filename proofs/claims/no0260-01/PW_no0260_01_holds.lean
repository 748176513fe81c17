import PyProof.Rows.All
import Wide.All
import OpenK.AllK
import Wide.FinOn
import Lean
import PySem.Challenge.RW_no0260_01
set_option Elab.async false
set_option linter.all false
set_option maxRecDepth 100000
set_option maxHeartbeats 8000000
set_option compiler.extract_closed false
set_option genSizeOfSpec false
set_option hygiene false
namespace Mine
section
open PySem PySem.W PyProof.Rows
section
local macro_rules | `(tactic| o_head $_) => `(tactic| assumption)
set_option maxRecDepth 100000 in
set_option maxHeartbeats 8000000 in
theorem kk (hh : PySem.Challenge.rw_no0260_01.row.Holds) : PySem.Challenge.rw_no0260_01.row.Holds := by k_head
end
end
section
open PySem PySem.W PySem.Calls PyProof.Rows
noncomputable def isNm (s : Stmt) : Bool := match s with
  | .Assign [.Name x _] _ _ => x == PySem.Str.ofString "__name__"
  | _ => false
noncomputable def view : Program := { PySem.Challenge.rw_no0260_01.row.toRowW.prog with main := { PySem.Challenge.rw_no0260_01.row.toRowW.prog.main with body := PySem.Challenge.rw_no0260_01.row.toRowW.prog.main.body.filter fun s => !isNm s } }
noncomputable def kAs : List Addr := [2, 3, 15, 22, 24, 25, 27, 28, 29, 30, 31, 32, 35, 42, 43, 44, 47, 54, 56, 57, 59, 60, 61, 62, 63, 66, 73, 75, 76, 78, 79, 80, 81, 82, 85, 86, 88, 89, 91, 92, 93, 95, 96, 98, 99, 100, 102, 103, 105, 106, 107, 109, 110, 112, 113, 114, 116, 117, 119, 120, 121, 123, 124, 126, 127, 128, 130, 131, 133, 134, 135, 137, 138, 140, 141, 142, 144, 145, 147, 148, 149, 151, 152, 154, 155, 156, 158, 159, 161, 162, 163, 165, 166, 168, 169, 170, 172, 173, 175, 176, 177, 179, 180, 182, 183, 184, 186, 187, 189, 190, 191, 192, 200, 202, 203, 205, 206, 207, 208, 209, 210, 211, 214, 216, 217, 219, 220, 221, 223, 224, 226, 227, 228, 230, 231, 233, 234, 235, 237, 238, 240, 241, 242, 244, 245, 247, 248, 249, 251, 252, 254, 255, 256, 258, 259, 261, 262, 263, 265, 266, 268, 269, 270, 272, 273, 275, 276, 277, 279, 280, 282, 283, 284, 286, 287, 289, 290, 291, 293, 294, 296, 297, 298, 300, 301, 303, 304, 305, 307, 308, 310, 311, 312, 314, 315, 317, 318, 326, 328, 329, 331, 332, 333, 335, 336, 338, 339, 340, 341, 342, 343, 344, 354, 355, 357, 358, 360, 361, 362, 363, 364, 365, 366, 369, 371, 372, 374, 375, 376, 378, 379, 381, 382, 383, 385, 386, 388, 389, 390, 392, 393, 395, 396, 397, 400, 401, 402, 404, 405, 407, 408, 409, 411, 412, 414, 415, 416, 418, 419, 421, 422, 423, 425, 426, 428, 429]
theorem kE : ∀ P, kAs = (Mine.kk.heap_1 P).map (·.1) := fun _ => by kernel_rfl
end
section
open PySem PySem.W PySem.Calls PyProof.Rows
noncomputable def Led (g h : Heap) (news : List (Addr × Obj)) : Prop := ∀ p ∈ news, h.get? p.1 = some p.2 ∧ g.get? p.1 = none
noncomputable abbrev aT (dp un : Nat) (gd : Option (List Code)) (outer : List Env) : Around := { handled := none, depth := dp, frames := some outer, guards := gd, units := un }
structure Cx (w : World) (mean : ExcName → Option Value) (mg mb : Str → Option Value) (A : Around) (base : Heap) (outer : List Env) (g h : Heap) : Prop where
  B : Below A base outer g
  st : g.StaysIn h
  sz : g.objs.size ≤ h.objs.size
  X : (Mine.kk.heap_1 w.params).In g
  T : Top Mine.view (looseW Mine.view []) mean mg mb g
theorem call_M {prog : Program} {w : World} {A : Around} {s : Shared} {base g : Heap} {outer : List Env} {news : List (Addr × Obj)}
    {mean : ExcName → Option Value} {mg mb : Str → Option Value}
    {R : Result → Shared → Prop} {name qual : Str} {params : Arguments} {body : List Stmt} {scope : Scope} {dV kV doc pm cdv ct oc : Value} {an od : Option Addr} {osl : Array (Option Value)} {f : Addr} {args : Args} {binds : List (Str × Value)}
    (C : Cx w mean mg mb A base outer g s.heap) (N : Led g s.heap news)
    (ho : (Mine.kk.heap_1 w.params).lookup f = some ⟨oc, od, .func (fnOf name qual params body scope dV kV doc pm an cdv ct), osl⟩)
    (hcd : codeIn (Mine.kk.heap_1 w.params) cdv qual = true) (hroom : A.depth < recursionLimit)
    (hbind : BindsTo s (fnOf name qual params body scope dV kV doc pm an cdv ct) args binds) (hloc : ∀ y ∈ binds, scope.names.lookup y.1 = some .local)
    (h : ∀ L' h₁, Fr g L' h₁ (fun y => binds.reverse.lookup y) → News g L' h₁ news → (∀ p ∈ news, p.1 < L') → Below A base outer g → (Mine.kk.heap_1 w.params).In g → Top Mine.view (looseW Mine.view []) mean mg mb g →
      wpAny (model prog w) (A.deeper (envOf qual scope L' f cdv)) (execs body (envOf qual scope L' f cdv))
        (fun fl s' => R (.ok (.ret (match fl with | .ret v => v | _ => .none))) s')
        (fun e s' => wpAny (model prog w) (A.deeper (envOf qual scope L' f cdv)) (leaving (envOf qual scope L' f cdv) e) (fun _ s'' => R (.error e) s'') (fun e' s'' => R (.error e') s'') s')
        { s with heap := h₁, toks := s.toks + binds.length })
    (hco : scope.isCoroutine = false := by rfl) (hgen : scope.isGenerator = false := by rfl) (hk : scope.kind = .function := by rfl)
    (hcell : ∀ x ∈ scope.names, x.2 ≠ .cell := by decide) : codeAny (model prog w) A (.call (.ref f) args) R s := by
  refine codeAny_call_def (fd := fnOf name qual params body scope dV kV doc pm an cdv ct) (body := body) (binds := binds) hroom (C.st _ _ (C.X _ _ ho)) rfl (C.T.nolimit.keeps C.st) (codeRec_of (C.X.keeps C.st) hcd) rfl hbind hcell hloc (fun h₁ hns hk₁ => ?_) hco hgen hk
  exact h s.heap.objs.size h₁ ⟨hns, fun b o e => hk₁ b o (C.st b o e), C.sz⟩
    (fun p hp => ⟨hk₁ _ _ (N p hp).1, Nat.ne_of_lt (Heap.lt_size (N p hp).1), (N p hp).2⟩) (fun p hp => Heap.lt_size (N p hp).1) C.B C.X C.T
theorem ground_E {w : World} {mean : ExcName → Option Value} {mg mb : Str → Option Value} {A : Around} {base g h : Heap} {outer : List Env} {L : Addr} {m : Str → Option Value} {env : Env} {news : List (Addr × Obj)}
    (muts : List (Addr × Obj)) (B : Below A base outer g) (F : Fr g L h m) (N : News g L h news) (X : (Mine.kk.heap_1 w.params).In g)
    (T : Top Mine.view (looseW Mine.view []) mean mg mb g) (hs : ∀ p ∈ muts, p ∈ news) (hf : env.frame = some L) (hck : env.scope.kind = .function) :
    ∃ g2, Cx w mean mg mb (A.deeper env) base (env :: outer) g2 h ∧ Led g2 h muts ∧ g.StaysIn g2 ∧
      (∀ p ∈ news, p.1 ∉ muts.map Prod.fst → g2.get? p.1 = some p.2) ∧ Fr g L g2 m ∧
      (∀ h', g2.StaysIn h' → Fr g L h' m) ∧
      (∀ h' muts' rest, g2.StaysIn h' → Led g2 h' muts' → (∀ p ∈ rest, p ∈ news ∧ p.1 ∉ muts.map Prod.fst) → News g L h' (muts' ++ rest)) := by
  have nm : ∀ b o, g.get? b = some o → b ∉ muts.map Prod.fst := fun b o e q => by
    obtain ⟨p, hp, rfl⟩ := List.mem_map.mp q
    rw [(N p (hs p hp)).2.2] at e; exact nomatch e
  have st : g.StaysIn (hideAll h (muts.map Prod.fst)) := fun b o e => hideAll_get _ (F.keep b o e) (nm b o e)
  obtain ⟨oL, es, ep, hL, hLd, hLk, hLf⟩ := F.ns
  have nL : L ∉ muts.map Prod.fst := fun q => by
    obtain ⟨p, hp, e⟩ := List.mem_map.mp q
    exact (N p (hs p hp)).2.1 e
  have hLg := hideAll_get (muts.map Prod.fst) hL nL
  have B₁ := pushX B F hf hck
  refine ⟨hideAll h (muts.map Prod.fst), ⟨⟨B₁.stack, fun b o e => st b o (B.stays b o e), funFrames_hideAll B₁.frames fun env' he b hb hf' => ?_⟩, fun b o e => of_hideAll _ e, Nat.le_of_eq (hideAll_size _ _), X.keeps st, T.keeps st⟩,
    fun p hp => ⟨(N p (hs p hp)).1, hideAll_none _ (List.mem_map_of_mem hp)⟩, st, fun p hp hn => hideAll_get _ (N p hp).1 hn, ⟨⟨oL, es, ep, hLg, hLd, hLk, hLf⟩, st, F.above⟩,
    fun h' k => ⟨⟨oL, es, ep, k _ _ hLg, hLd, hLk, hLf⟩, fun b o e => k _ _ (st b o e), F.above⟩, fun h' muts' rest k l r p hp => ?_⟩
  · cases he with
    | head => exact nL ((Option.some.inj (hf.symm.trans hf') : L = b) ▸ hb)
    | tail _ he =>
      obtain ⟨L₁, o₁, hf₁, ho₁⟩ := funFrames_in B.frames env' he
      rw [hf₁] at hf'
      exact nm L₁ o₁ ho₁ ((Option.some.inj hf' : L₁ = b) ▸ hb)
  · rcases List.mem_append.mp hp with q | q
    · refine ⟨(l p q).1, fun e => ?_, ?_⟩
      · have := (l p q).2; rw [e, hLg] at this; exact nomatch this
      · induction hq : g.get? p.1 with
        | none => rfl
        | some o => have := (l p q).2; rw [st _ _ hq] at this; exact nomatch this
    · obtain ⟨h1, h2⟩ := r p q
      exact ⟨k _ _ (hideAll_get _ (N p h1).1 h2), (N p h1).2⟩
theorem ground_M {w : World} {mean : ExcName → Option Value} {mg mb : Str → Option Value} {A : Around} {base g h : Heap} {outer : List Env} {L a : Addr} {m : Str → Option Value} {cn : Str} {cs : Scope} {ccd : Value} {news : List (Addr × Obj)}
    (muts : List (Addr × Obj)) (B : Below A base outer g) (F : Fr g L h m) (N : News g L h news) (X : (Mine.kk.heap_1 w.params).In g)
    (T : Top Mine.view (looseW Mine.view []) mean mg mb g) (hs : ∀ p ∈ muts, p ∈ news) (hck : cs.kind = .function) :
    ∃ g2, Cx w mean mg mb (A.deeper (envOf cn cs L a ccd)) base (envOf cn cs L a ccd :: outer) g2 h ∧ Led g2 h muts ∧ g.StaysIn g2 ∧
      (∀ p ∈ news, p.1 ∉ muts.map Prod.fst → g2.get? p.1 = some p.2) ∧ Fr g L g2 m ∧
      (∀ h', g2.StaysIn h' → Fr g L h' m) ∧
      (∀ h' muts' rest, g2.StaysIn h' → Led g2 h' muts' → (∀ p ∈ rest, p ∈ news ∧ p.1 ∉ muts.map Prod.fst) → News g L h' (muts' ++ rest)) :=
  ground_E (env := envOf cn cs L a ccd) muts B F N X T hs rfl hck
theorem call_Mc {prog : Program} {w : World} {A : Around} {s : Shared} {base g : Heap} {outer : List Env} {news : List (Addr × Obj)}
    {mean : ExcName → Option Value} {mg mb : Str → Option Value}
    {R : Result → Shared → Prop} {name qual : Str} {params : Arguments} {body : List Stmt} {scope : Scope} {dV kV doc pm cdv ct oc : Value} {an od : Option Addr} {osl : Array (Option Value)} {f : Addr} {args : Args} {binds : List (Str × Value)}
    (C : Cx w mean mg mb A base outer g s.heap) (N : Led g s.heap news)
    (ho : (Mine.kk.heap_1 w.params).lookup f = some ⟨oc, od, .func (fnOf name qual params body scope dV kV doc pm an cdv ct), osl⟩)
    (hcd : codeIn (Mine.kk.heap_1 w.params) cdv qual = true) (hroom : A.depth < recursionLimit)
    (hbind : BindsTo s (fnOf name qual params body scope dV kV doc pm an cdv ct) args binds)
    (hkind : ∀ n, ∀ x ∈ binds, scope.names.lookup x.1 = some .local ∨ (scope.names.lookup x.1 = some .cell ∧ ((cellsFrom n scope.names []).lookup x.1).isSome = true))
    (hnd : ((cellsFrom 0 scope.names []).map (·.1)).Nodup)
    (h : ∀ L' h₁ tk cells, Fr g L' h₁ (bindL (envOfC qual scope L' f cdv).kindOf binds fun _ => none) → News g L' h₁ (cells ++ news) →
      CellsAre (bindC (envOfC qual scope L' f cdv).kindOf binds fun _ => none) (cellsFrom (L' + 1) scope.names []) cells → (∀ p ∈ news, p.1 < L') → Below A base outer g → (Mine.kk.heap_1 w.params).In g → Top Mine.view (looseW Mine.view []) mean mg mb g →
      wpAny (model prog w) (A.deeper (envOfC qual scope L' f cdv)) (execs body (envOfC qual scope L' f cdv))
        (fun fl s' => R (.ok (.ret (match fl with | .ret v => v | _ => .none))) s')
        (fun e s' => wpAny (model prog w) (A.deeper (envOfC qual scope L' f cdv)) (leaving (envOfC qual scope L' f cdv) e) (fun _ s'' => R (.error e) s'') (fun e' s'' => R (.error e') s'') s')
        { s with heap := h₁, toks := tk })
    (hco : scope.isCoroutine = false := by rfl) (hgen : scope.isGenerator = false := by rfl) (hk : scope.kind = .function := by rfl) : codeAny (model prog w) A (.call (.ref f) args) R s := by
  have hlim := C.T.nolimit.keeps C.st
  refine codeAny_call_function hroom (C.st _ _ (C.X _ _ ho)) rfl hco hgen rfl (codeRec_of (C.X.keeps C.st) hcd) (hbind _ _ _ _ ?_)
  refine wpAny_newFunctionEnv_cells hk (hkind _) fun env' he s' x => ?_
  subst he
  refine ⟨hlim.keeps x.toInCall.keep, codeAny_func ?_⟩
  obtain ⟨h₁, tk, rfl, _⟩ := x.done
  have hk₁ := x.toInCall.keep
  obtain ⟨cells, NC, Y⟩ := Cl.news (h₀ := s.heap) (Nat.le_refl _) fun n c hm => ⟨x.cell n c (lookup_of_mem_nodup (cellsFrom_names scope.names 0 (s.heap.objs.size + 1) [] [] rfl ▸ hnd) hm), x.above n c hm⟩
  refine h s.heap.objs.size h₁ tk cells ⟨x.toInCall.ns, fun b o e => hk₁ b o (C.st b o e), C.sz⟩ (fun p hp => ?_) Y (fun p hp => Heap.lt_size (N p hp).1) C.B C.X C.T
  rcases List.mem_append.mp hp with hp | hp
  · refine ⟨(NC p hp).1, (NC p hp).2.1, ?_⟩
    induction q : g.get? p.1 with
    | none => rfl
    | some o => have := C.st _ _ q; rw [(NC p hp).2.2] at this; exact nomatch this
  · exact ⟨hk₁ _ _ (N p hp).1, Nat.ne_of_lt (Heap.lt_size (N p hp).1), (N p hp).2⟩
end
section
open PySem PySem.W PySem.Calls PyProof.Rows
theorem lt_now {G : Prop} {h₀ : Heap} {L : Addr} {h : Heap} {news : List (Addr × Obj)} (N : News h₀ L h news) (k : (∀ p ∈ news, p.1 < h.objs.size) → G) : G := k (fun p hp => Heap.lt_size (N p hp).1)
theorem led_of {g h : Heap} {L : Addr} {news muts : List (Addr × Obj)} (N : News g L h news) (hs : ∀ p ∈ muts, p ∈ news) : Led g h muts := fun p hp => ⟨(N p (hs p hp)).1, (N p (hs p hp)).2.2⟩
theorem stays_of {g h : Heap} {L : Addr} {m : Str → Option Value} (F : Fr g L h m) : g.StaysIn h := F.keep
noncomputable def Con (prog : Program) (w : World) (f : Addr) (args : List Value) (dq uq : Nat) (muts : List (Addr × Obj)) (Rd : Heap → Prop) (Post : Value → List (Addr × Obj) → Heap → Prop) : Prop :=
  ∀ (mean : ExcName → Option Value) (mg mb : Str → Option Value) (dp un : Nat) (gd : Option (List Code)) (base g : Heap) (outer : List Env) (s : Shared) (R : Result → Shared → Prop),
    Cx w mean mg mb (aT dp un gd outer) base outer g s.heap → Led g s.heap muts → Rd g → dp + dq < recursionLimit → un + uq < cLine →
    (∀ v h' tk' muts', g.StaysIn h' → Led g h' muts' → Post v muts' h' → R (.ok (.ret v)) { s with heap := h', toks := tk' }) →
    codeAny (model prog w) (aT dp un gd outer) (.call (.ref f) ⟨args, []⟩) R s
inductive Rst (as : List Addr) : List (Addr × Obj) → List (Addr × Obj) → Prop
  | nil : Rst as [] []
  | skip {p l r} : p.1 ∈ as → Rst as l r → Rst as (p :: l) r
  | drop {p l r} : Rst as l r → Rst as (p :: l) r
  | keep {p l r} : p.1 ∉ as → Rst as l r → Rst as (p :: l) (p :: r)
theorem Rst.out {as : List Addr} : ∀ {l r : List (Addr × Obj)}, Rst as l r → ∀ p ∈ r, p ∈ l ∧ p.1 ∉ as
  | _, _, .nil, _, h => nomatch h
  | _, _, .skip _ x, p, h => ⟨.tail _ (x.out p h).1, (x.out p h).2⟩
  | _, _, .drop x, p, h => ⟨.tail _ (x.out p h).1, (x.out p h).2⟩
  | _, _, .keep n x, p, h => by
    rcases List.mem_cons.mp h with rfl | h
    · exact ⟨.head _, n⟩
    · exact ⟨.tail _ (x.out p h).1, (x.out p h).2⟩
noncomputable def OffL (a : Nat) : List (Addr × Obj) → Prop
  | [] => True
  | p :: r => @Ne Nat a p.1 ∧ OffL a r
theorem OffL.out {a : Addr} : ∀ {l : List (Addr × Obj)}, OffL a l → a ∉ l.map Prod.fst
  | [], _, h => nomatch h
  | _ :: r, ⟨x, y⟩, h => by
    rcases List.mem_cons.mp h with e | e
    · exact x e
    · exact y.out e
theorem Rst.keep' {muts : List (Addr × Obj)} {p l r} (h : OffL p.1 muts) (x : Rst (muts.map Prod.fst) l r) : Rst (muts.map Prod.fst) (p :: l) (p :: r) := .keep h.out x
theorem con_call {prog : Program} {w : World} {f : Addr} {args : List Value} {dq uq : Nat} {muts : List (Addr × Obj)} {Rd : Heap → Prop} {Post : Value → List (Addr × Obj) → Heap → Prop}
    {mean : ExcName → Option Value} {mg mb : Str → Option Value} {dp un : Nat} {gd : Option (List Code)} {base g : Heap} {outer : List Env} {L : Addr} {m : Str → Option Value} {env : Env} {news rest : List (Addr × Obj)} {s : Shared} {Q E : Value → Shared → Prop}
    (C : Con prog w f args dq uq muts Rd Post) (B : Below (aT dp un gd outer) base outer g) (F : Fr g L s.heap m) (N : News g L s.heap news) (X : (Mine.kk.heap_1 w.params).In g)
    (T : Top Mine.view (looseW Mine.view []) mean mg mb g) (hs : ∀ p ∈ muts, p ∈ news) (hr : Rst (muts.map Prod.fst) news rest)
    (hrd : ∀ g2, g.StaysIn g2 → g2.StaysIn s.heap → (∀ p ∈ rest, g2.get? p.1 = some p.2) → Rd g2) (hd : dp + 1 + dq < recursionLimit) (hu : un + 3 + uq < cLine)
    (k : ∀ v h' tk' muts', Post v muts' h' → Fr g L h' m → News g L h' (muts' ++ rest) → Q v { s with heap := h', toks := tk' })
    (hfr : env.frame = some L := by rfl) (hck : env.scope.kind = .function := by rfl) :
    wpAny (model prog w) ((aT dp un gd outer).deeper env) (call (.ref f) args) Q E s := by
  obtain ⟨g2, C2, N2, st, hg, _, hF, hN⟩ := ground_E (w := w) (env := env) muts B F N X T hs hfr hck
  refine wpAny_call (C mean mg mb (dp + 1) (un + 3) gd base g2 (env :: outer) s _ C2 N2 (hrd g2 st C2.st fun p hp => hg p (hr.out p hp).1 (hr.out p hp).2) hd hu fun v h' tk' muts' k1 k2 k3 => ?_)
  exact k v h' tk' muts' k3 (hF h' k1) (hN h' muts' rest k1 k2 hr.out)
theorem call_M0 {prog : Program} {w : World} {A : Around} {s : Shared} {base g : Heap} {outer : List Env} {news : List (Addr × Obj)}
    {mean : ExcName → Option Value} {mg mb : Str → Option Value}
    {R : Result → Shared → Prop} {name qual : Str} {params : Arguments} {body : List Stmt} {scope : Scope} {dV kV doc pm cdv ct oc : Value} {an od : Option Addr} {osl : Array (Option Value)} {f : Addr} {args : Args} {binds : List (Str × Value)}
    (C : Cx w mean mg mb A base outer g s.heap) (N : Led g s.heap news)
    (ho : (Mine.kk.heap_1 w.params).lookup f = some ⟨oc, od, .func (fnOf name qual params body scope dV kV doc pm an cdv ct), osl⟩)
    (hcd : codeIn (Mine.kk.heap_1 w.params) cdv qual = true) (hroom : A.depth < recursionLimit)
    (hbind : BindsTo s (fnOf name qual params body scope dV kV doc pm an cdv ct) args binds) (hloc : ∀ y ∈ binds, scope.names.lookup y.1 = some .local)
    (h : ∀ L' h₁, Fr g L' h₁ (fun y => binds.reverse.lookup y) → News g L' h₁ news → (∀ p ∈ news, p.1 < L') → Below A base outer g → (Mine.kk.heap_1 w.params).In g → Top Mine.view (looseW Mine.view []) mean mg mb g →
      wpAny (model prog w) (A.deeper (envOf qual scope L' f cdv)) (execs body (envOf qual scope L' f cdv))
        (fun fl s' => R (.ok (.ret (match fl with | .ret v => v | _ => .none))) s') (fun _ _ => False)
        { s with heap := h₁, toks := s.toks + binds.length })
    (hco : scope.isCoroutine = false := by rfl) (hgen : scope.isGenerator = false := by rfl) (hk : scope.kind = .function := by rfl)
    (hcell : ∀ x ∈ scope.names, x.2 ≠ .cell := by decide) : codeAny (model prog w) A (.call (.ref f) args) R s :=
  call_M C N ho hcd hroom hbind hloc (fun L' h₁ F N l B X T => wpAny_mono (h L' h₁ F N l B X T) (fun _ _ x => x) fun _ _ x => x.elim) hco hgen hk hcell
noncomputable def Hold (P : Prop) : Prop := P
theorem hold_i {P : Prop} (h : Hold P) : P := h
noncomputable def PenObj (o : Obj) : Prop := ∃ n c t1 t2 ep, 0 ≤ n ∧ 0 ≤ c ∧ o = listOf #[.int n t1, .int c t2] ep
end
section
open PySem PySem.W PySem.Calls PyProof.Rows
open PySem PySem.W PySem.Calls PyProof.Rows PySem.Builtin.Str
noncomputable def tx (l : List Nat) : PySem.Str := ⟨l.toArray⟩
theorem tx_cps (l : List Nat) : (tx l).cps.toList = l := rfl
theorem tx_len (l : List Nat) : (tx l).length = l.length := rfl
theorem tx_of (x : PySem.Str) : x = tx x.cps.toList := by cases x; rfl
theorem tx_add (l m : List Nat) : tx l ++ tx m = tx (l ++ m) := Str.ext' (by show l.toArray ++ m.toArray = (l ++ m).toArray; simp)
theorem tx_inj {l m : List Nat} (h : tx l = tx m) : l = m := by
  have := congrArg (fun x => x.cps.toList) h
  simpa only [tx_cps] using this
theorem tx_beq (l m : List Nat) : (tx l == tx m) = (l == m) := by
  rw [Bool.eq_iff_iff, beq_iff_eq, beq_iff_eq]
  exact ⟨tx_inj, fun h => h ▸ rfl⟩
theorem tx_bne (l m : List Nat) : (tx l != tx m) = (l != m) := by
  show (!(tx l == tx m)) = !(l == m)
  rw [tx_beq]
theorem tx_slice_to (l : List Nat) (j : Nat) : Txt.slice (tx l) none (some (j : Int)) = tx (l.take j) := by
  show StrLaws.sliceText (tx l) none (some (j : Int)) = _
  by_cases h : j ≤ l.length
  · rw [StrLaws.sliceText_to ⟨by (first | lia | omega), by rw [tx_cps]; (first | lia | omega)⟩, tx_cps]
    simp [tx]
  · have e : StrLaws.sliceText (tx l) none (some (j : Int)) = StrLaws.sliceText (tx l) none (some (l.length : Int)) := by
      unfold StrLaws.sliceText
      have : strSliceIndices none (some (j : Int)) 1 (tx l).length = strSliceIndices none (some (l.length : Int)) 1 (tx l).length := by
        have a : ¬ ((j : Int) < 0) := by (first | lia | omega)
        have b : ¬ ((l.length : Int) < 0) := by (first | lia | omega)
        have c : min (j : Int) (l.length : Int) = l.length := by (first | lia | omega)
        simp [strSliceIndices, a, b, tx_len, c]
      rw [this]
    rw [e, StrLaws.sliceText_to ⟨by (first | lia | omega), by rw [tx_cps]; (first | lia | omega)⟩, tx_cps]
    simp [tx, List.take_of_length_le (Nat.le_of_lt (Nat.lt_of_not_le h))]
theorem tx_slice_from (l : List Nat) (i : Nat) : Txt.slice (tx l) (some (i : Int)) none = tx (l.drop i) := by
  show StrLaws.sliceText (tx l) (some (i : Int)) none = _
  by_cases h : i ≤ l.length
  · rw [StrLaws.sliceText_from ⟨by (first | lia | omega), by rw [tx_cps]; (first | lia | omega)⟩, tx_cps]
    show (⟨_⟩ : PySem.Str) = ⟨_⟩
    congr 2
    simp only [Int.toNat_natCast]
    exact List.take_of_length_le (by rw [List.length_drop]; (first | lia | omega))
  · have e : StrLaws.sliceText (tx l) (some (i : Int)) none = StrLaws.sliceText (tx l) (some (l.length : Int)) none := by
      unfold StrLaws.sliceText
      have : strSliceIndices (some (i : Int)) none 1 (tx l).length = strSliceIndices (some (l.length : Int)) none 1 (tx l).length := by
        have a : ¬ ((i : Int) < 0) := by (first | lia | omega)
        have b : ¬ ((l.length : Int) < 0) := by (first | lia | omega)
        have c : min (i : Int) (l.length : Int) = l.length := by (first | lia | omega)
        simp [strSliceIndices, a, b, tx_len, c]
      rw [this]
    rw [e, StrLaws.sliceText_from ⟨by (first | lia | omega), by rw [tx_cps]; (first | lia | omega)⟩, tx_cps]
    show (⟨_⟩ : PySem.Str) = ⟨_⟩
    congr 2
    simp [List.drop_of_length_le (Nat.le_of_lt (Nat.lt_of_not_le h))]
theorem tx_slice_ab (l : List Nat) (i j : Nat) (hij : i ≤ j) : Txt.slice (tx l) (some (i : Int)) (some (j : Int)) = tx ((l.drop i).take (j - i)) := by
  show StrLaws.sliceText (tx l) (some (i : Int)) (some (j : Int)) = _
  have e : StrLaws.sliceText (tx l) (some (i : Int)) (some (j : Int)) = StrLaws.sliceText (tx l) (some ((min i l.length : Nat) : Int)) (some ((min j l.length : Nat) : Int)) := by
    unfold StrLaws.sliceText
    have : strSliceIndices (some (i : Int)) (some (j : Int)) 1 (tx l).length = strSliceIndices (some ((min i l.length : Nat) : Int)) (some ((min j l.length : Nat) : Int)) 1 (tx l).length := by
      have a : ¬ ((i : Int) < 0) := by (first | lia | omega)
      have a' : ¬ ((j : Int) < 0) := by (first | lia | omega)
      have b : ¬ (((min i l.length : Nat) : Int) < 0) := by (first | lia | omega)
      have b' : ¬ (((min j l.length : Nat) : Int) < 0) := by (first | lia | omega)
      simp only [strSliceIndices, a, a', b, b', tx_len, if_false]
      have c : max (0 : Int) (min (i : Int) (l.length : Int)) = max (0 : Int) (min ((min i l.length : Nat) : Int) (l.length : Int)) := by (first | lia | omega)
      have c' : max (0 : Int) (min (j : Int) (l.length : Int)) = max (0 : Int) (min ((min j l.length : Nat) : Int) (l.length : Int)) := by (first | lia | omega)
      simp only [Int.zero_lt_one, gt_iff_lt, if_true, c, c']
    rw [this]
  rw [e, StrLaws.sliceText_plain ⟨by (first | lia | omega), by (first | lia | omega), by rw [tx_cps]; (first | lia | omega)⟩, tx_cps]
  show (⟨_⟩ : PySem.Str) = ⟨_⟩
  congr 2
  have e1 : (((min i l.length : Nat) : Int)).toNat = min i l.length := by (first | lia | omega)
  have e2 : (((min j l.length : Nat) : Int) - ((min i l.length : Nat) : Int)).toNat = min j l.length - min i l.length := by (first | lia | omega)
  rw [e1, e2]
  by_cases h : i ≤ l.length
  · rw [Nat.min_eq_left h]
    by_cases h' : j ≤ l.length
    · rw [Nat.min_eq_left h']
    · rw [Nat.min_eq_right (by (first | lia | omega)), List.take_of_length_le (by rw [List.length_drop]; (first | lia | omega)), List.take_of_length_le (by rw [List.length_drop]; (first | lia | omega))]
  · rw [List.drop_of_length_le (i := i) (by (first | lia | omega)), List.drop_of_length_le (i := min i l.length) (by (first | lia | omega))]
    simp
section
variable {prog : Program} {w : World} {A : Around} {E : Value → Shared → Prop} {s : Shared} {value slice : PySem.Expr} {l m : List Nat} {t u : Tok} {i j : Int} {h₀ : Heap} {L : Addr} {mm : PySem.Str → Option Value} {news : List (Addr × Obj)} {Q : Value → Shared → Prop}
theorem rl_item (h0 : 0 ≤ i) (h1 : i < (l.length : Int)) (hn : l.length ≤ 4000000) (h : ∀ t' k, Q (.str (tx [l.getD i.toNat 0]) t') { s with toks := k })
    (hs : subscripted slice false (.str (tx l) t) (.int i u) = operate [.str (tx l) t, .int i u] (getItem (.str (tx l) t) (.int i u)) := by with_unfolding_all rfl)
    (ht : ∀ r, letTemporaryGo value (.str (tx l) t) r = pure () := by intro _; with_unfolding_all rfl) :
    wpAny (model prog w) A (subscriptTail value slice (.str (tx l) t) (.int i u)) Q E s := by
  refine item_str (fitsSsize_of (N := 9223372036854775808) (by (first | lia | omega)) (by (first | lia | omega)) (Int.le_refl _)) (by rw [tx_len]; (first | lia | omega)) (by rw [tx_len]; (first | lia | omega)) (fun _ => ?_) hs ht
  have e : Txt.item (tx l) i = tx [l.getD i.toNat 0] := by
    obtain ⟨n, hn⟩ := StrLaws.some_at (x := tx l) h0 (by rw [tx_len]; exact h1)
    show (⟨#[(Txt.charAt (tx l) i).getD 0]⟩ : PySem.Str) = ⟨#[_]⟩
    have q : Txt.charAt (tx l) i = some n := StrLaws.at_nonneg h0 hn
    rw [q]
    have hn' : l[i.toNat]? = some n := by simpa [tx] using hn
    rw [List.getD_eq_getElem?_getD, hn']
  rw [e]
  exact h _ _
theorem rl_len (hn : l.length ≤ 4000000) (h : ∀ t' k, Q (.int l.length t') { s with toks := k }) : wpAny (model prog w) A (call (.builtin "len") [.str (tx l) t]) Q E s :=
  PyProof.Rows.len_str (by rw [tx_len]; (first | lia | omega)) (h _ _)
theorem rl_to (hF : Fr h₀ L s.heap mm) (hN : News h₀ L s.heap news) (h0 : 0 ≤ j) (hn : l.length ≤ 4000000) (h : ∀ h' t' k, Fr h₀ L h' mm → News h₀ L h' news → Q (.str (tx (l.take j.toNat)) t') { s with heap := h', toks := k })
    (hs : subscripted slice false (.str (tx l) t) (.ref s.heap.objs.size) = operate [.ref s.heap.objs.size, .str (tx l) t] (getItem (.str (tx l) t) (.ref s.heap.objs.size)) := by with_unfolding_all rfl)
    (ht : ∀ r, letTemporaryGo value (.str (tx l) t) r = pure () := by intro _; with_unfolding_all rfl) :
    wpAny (model prog w) A (subscriptTail value slice (.str (tx l) t) (.ref s.heap.objs.size)) Q E { s with heap := s.heap.push { cls := .type "slice", data := .fields #[.none, .int j u, .none] } } := by
  refine slice_strN_ns hF hN (fun h' t' k a b => ?_) hs ht (by rw [tx_len, sizeLine_eq]; (first | lia | omega))
  obtain ⟨n, rfl⟩ := Int.eq_ofNat_of_zero_le h0
  rw [tx_slice_to]
  exact h h' t' k a b
theorem rl_from (hF : Fr h₀ L s.heap mm) (hN : News h₀ L s.heap news) (h0 : 0 ≤ i) (hn : l.length ≤ 4000000) (h : ∀ h' t' k, Fr h₀ L h' mm → News h₀ L h' news → Q (.str (tx (l.drop i.toNat)) t') { s with heap := h', toks := k })
    (hs : subscripted slice false (.str (tx l) t) (.ref s.heap.objs.size) = operate [.ref s.heap.objs.size, .str (tx l) t] (getItem (.str (tx l) t) (.ref s.heap.objs.size)) := by with_unfolding_all rfl)
    (ht : ∀ r, letTemporaryGo value (.str (tx l) t) r = pure () := by intro _; with_unfolding_all rfl) :
    wpAny (model prog w) A (subscriptTail value slice (.str (tx l) t) (.ref s.heap.objs.size)) Q E { s with heap := s.heap.push { cls := .type "slice", data := .fields #[.int i u, .none, .none] } } := by
  refine slice_strN_sn hF hN (fun h' t' k a b => ?_) hs ht (by rw [tx_len, sizeLine_eq]; (first | lia | omega))
  obtain ⟨n, rfl⟩ := Int.eq_ofNat_of_zero_le h0
  rw [tx_slice_from]
  exact h h' t' k a b
theorem rl_ab {v : Tok} (hF : Fr h₀ L s.heap mm) (hN : News h₀ L s.heap news) (h0 : 0 ≤ i) (hij : i ≤ j) (hn : l.length ≤ 4000000) (h : ∀ h' t' k, Fr h₀ L h' mm → News h₀ L h' news → Q (.str (tx ((l.drop i.toNat).take (j - i).toNat)) t') { s with heap := h', toks := k })
    (hs : subscripted slice false (.str (tx l) t) (.ref s.heap.objs.size) = operate [.ref s.heap.objs.size, .str (tx l) t] (getItem (.str (tx l) t) (.ref s.heap.objs.size)) := by with_unfolding_all rfl)
    (ht : ∀ r, letTemporaryGo value (.str (tx l) t) r = pure () := by intro _; with_unfolding_all rfl) :
    wpAny (model prog w) A (subscriptTail value slice (.str (tx l) t) (.ref s.heap.objs.size)) Q E { s with heap := s.heap.push { cls := .type "slice", data := .fields #[.int i u, .int j v, .none] } } := by
  refine slice_strN_ss hF hN (fun h' t' k a b => ?_) hs ht (by rw [tx_len, sizeLine_eq]; (first | lia | omega))
  obtain ⟨n, rfl⟩ := Int.eq_ofNat_of_zero_le h0
  obtain ⟨k', rfl⟩ := Int.eq_ofNat_of_zero_le (Int.le_trans h0 hij)
  rw [tx_slice_ab _ _ _ (by (first | lia | omega))]
  have e : (((k' : Nat) : Int) - ((n : Nat) : Int)).toNat = k' - n := by (first | lia | omega)
  have := h h' t' k a b
  rw [e] at this
  exact this
theorem rl_add (hn : l.length + m.length ≤ 8000000) (h : ∀ t' k, Q (.str (tx (l ++ m)) t') { s with toks := k }) : wpAny (model prog w) A (binaryOp .Add (.str (tx l) t) (.str (tx m) u)) Q E s :=
  PyProof.Rows.add_str (fun t' k => by rw [tx_add]; exact h t' k) (by rw [tx_len, tx_len, sizeLine_eq]; (first | lia | omega))
theorem rl_iadd (hn : l.length + m.length ≤ 8000000) (h : ∀ t' k, Q (.str (tx (l ++ m)) t') { s with toks := k }) : wpAny (model prog w) A (inplaceOp .Add (.str (tx l) t) (.str (tx m) u)) Q E s :=
  PyProof.Rows.iadd_str (fun t' k => by rw [tx_add]; exact h t' k) (by rw [tx_len, tx_len, sizeLine_eq]; (first | lia | omega))
theorem rl_ne' (h : Q (.bool (l != m)) s) : wpAny (model prog w) A (compareOp .NotEq (.str (tx l) t) (.str (tx m) u)) Q E s :=
  PyProof.Rows.ne_str (by rw [tx_bne]; exact h)
theorem rl_eq (h : Q (.bool (l == m)) s) : wpAny (model prog w) A (compareOp .Eq (.str (tx l) t) (.str (tx m) u)) Q E s :=
  PyProof.Rows.eq_str (by rw [tx_beq]; exact h)
theorem rl_find {x y : PySem.Str} {k : Int} (e : Txt.find x y = k) (h : ∀ t' k', Q (.int k t') { s with toks := k' }) : wpAny (model prog w) A (call (.builtin "str.find") [.str x t, .str y u]) Q E s := by
  subst e
  exact SC.find (h _ _)
theorem rl_ne_f (e : l = m) (h : Q (.bool false) s) : wpAny (model prog w) A (compareOp .NotEq (.str (tx l) t) (.str (tx m) u)) Q E s :=
  rl_ne' (by rw [e, bne_self_eq_false]; exact h)
theorem rl_ne_t (e : l ≠ m) (h : Q (.bool true) s) : wpAny (model prog w) A (compareOp .NotEq (.str (tx l) t) (.str (tx m) u)) Q E s :=
  rl_ne' (by rw [show (l != m) = true from by simpa using e]; exact h)
theorem rl_ne (h : Q (.bool (l != m)) s) : wpAny (model prog w) A (compareOp .NotEq (.str (tx l) t) (.str (tx m) u)) Q E s :=
  PyProof.Rows.ne_str (by rw [tx_bne]; exact h)
end
example : ∀ (w : World), (Mine.kk.heap_1 w.params).In default → PySem.Challenge.rw_no0260_01 = PySem.Challenge.rw_no0260_01 → True := by
  k_fill
  intros; trivial

noncomputable def sepB (l : List Nat) : Bool := l == [] || l == [32] || l == [44] || l == [47]
noncomputable def pendB (l : List Nat) : Bool := l == [] || l == [32] || l == [44] || l == [47] || l == [41]
noncomputable def endB (e : Addr) (l : List Nat) : Bool := if e = 191 then sepB l else pendB l
section
variable {prog : Program} {w : World} {A : Around} {E : Value → Shared → Prop} {s : Shared} {l : List Nat} {t u : Tok} {g : Heap} {L : Addr} {mm : PySem.Str → Option Value} {Q : Value → Shared → Prop}
theorem list_beq_comm (a b : List Nat) : (a == b) = (b == a) := by rw [Bool.eq_iff_iff, beq_iff_eq, beq_iff_eq]; exact eq_comm
theorem rl_sep (F : Fr g L s.heap mm) (X : (Mine.kk.heap_1 w.params).In g) (h : Q (.bool (!(sepB l))) s) : wpAny (model prog w) A (compareOp .NotIn (.str (tx l) t) (.ref 191)) Q E s := by
  refine notin_tuple_strs (ys := [tx [], tx [32], tx [44], tx [47]]) (kun_topT F X (by k_is)) (.cons _ _ (.cons _ _ (.cons _ _ (.cons _ _ .nil)))) ?_
  have e : ([tx [], tx [32], tx [44], tx [47]].any (· == tx l)) = sepB l := by
    simp only [List.any_cons, List.any_nil, tx_beq, Bool.or_false, sepB, list_beq_comm l, Bool.or_assoc]
  rw [e]; exact h
theorem rl_pend (F : Fr g L s.heap mm) (X : (Mine.kk.heap_1 w.params).In g) (h : Q (.bool (!(pendB l))) s) : wpAny (model prog w) A (compareOp .NotIn (.str (tx l) t) (.ref 192)) Q E s := by
  refine notin_tuple_strs (ys := [tx [], tx [32], tx [44], tx [47], tx [41]]) (kun_topT F X (by k_is)) (.cons _ _ (.cons _ _ (.cons _ _ (.cons _ _ (.cons _ _ .nil))))) ?_
  have e : ([tx [], tx [32], tx [44], tx [47], tx [41]].any (· == tx l)) = pendB l := by
    simp only [List.any_cons, List.any_nil, tx_beq, Bool.or_false, pendB, list_beq_comm l, Bool.or_assoc]
  rw [e]; exact h
theorem rl_end {e : Addr} (he : e = 191 ∨ e = 192) (F : Fr g L s.heap mm) (X : (Mine.kk.heap_1 w.params).In g) (h : Q (.bool (!(endB e l))) s) : wpAny (model prog w) A (compareOp .NotIn (.str (tx l) t) (.ref e)) Q E s := by
  rcases he with rfl | rfl
  · exact rl_sep F X h
  · exact rl_pend F X h
end
section
variable {prog : Program} {w : World} {A : Around} {E : Value → Shared → Prop} {s : Shared} {value slice : PySem.Expr} {l : Addr} {vs : List Value} {i : Int} {u : Tok} {v : Value} {g : Heap} {L : Addr} {news : List (Addr × Obj)} {n : Nat} {Q : Value → Shared → Prop}
theorem rl_listItem (N : News g L s.heap news) (hm : (l, listOf vs.toArray n) ∈ news) (h0 : 0 ≤ i) (e : vs[i.toNat]? = some v) (hfit : i < 2 ^ 63) (h : Q v s)
    (hs : subscripted slice false (.ref l) (.int i u) = operate [.ref l, .int i u] (getItem (.ref l) (.int i u)) := by with_unfolding_all rfl) :
    wpAny (model prog w) A (subscriptTail value slice (.ref l) (.int i u)) Q E s :=
  tail_any (News.isList N hm).typeIs slot_list_getitem.lookup (wpAny_getItem_list (News.isList N hm) h0 hfit (x := v) (by simpa using e) h) hs
theorem kun_lenL' {items : List Value} (hl : s.heap.IsList l items.toArray) (hn : items.length ≤ 4000000) (h : ∀ t' k, Q (.int items.length t') { s with toks := k }) :
    wpAny (model prog w) A (call (.builtin "len") [.ref l]) Q E s := by
  have := @len_list prog w A E s l items.toArray Q hl (by rw [List.size_toArray]; (first | lia | omega)) (by rw [List.size_toArray]; exact h _ _)
  exact this
theorem rl_listLen (N : News g L s.heap news) (hm : (l, listOf vs.toArray n) ∈ news) (hn : vs.length ≤ 4000000) (h : ∀ t' k, Q (.int vs.length t') { s with toks := k }) :
    wpAny (model prog w) A (call (.builtin "len") [.ref l]) Q E s :=
  kun_lenL' (News.isList N hm) hn h
end
end
section
open PySem PySem.W PySem.Calls PyProof.Rows
open PySem PySem.W PySem.Calls PyProof.Rows PySem.Builtin.Str
section
variable {prog : Program} {w : World} {A : Around} {E : Value → Shared → Prop} {s : Shared} {env : Env} {h₀ : Heap} {x : PySem.Str} {body : List Stmt} {Q : Flow → Shared → Prop}
noncomputable def PostM (h₀ : Heap) (L : Addr) (J : (PySem.Str → Option Value) → List (Addr × Obj) → Prop) (I : Addr) (oI : Obj) (s₁ : Shared) (Q : Flow → Shared → Prop) (f : Flow) (s₂ : Shared) : Prop :=
  match f with
  | .ret v => Q (.ret v) s₂
  | .brk => Q .next s₂
  | _ => ∃ h' tk m' nx, s₂ = { s₁ with heap := h', toks := tk } ∧ Fr h₀ L h' m' ∧ News h₀ L h' (nx ++ [(I, oI)]) ∧ (∀ p ∈ nx, p.1 ≠ I) ∧ J m' nx
theorem loop_M {I : Addr} {fp : List Addr} {n : Nat} {P : Nat → Value → Prop} {St : Nat → Heap → Prop} {m₀ : PySem.Str → Option Value} {news : List (Addr × Obj)} (J : Nat → (PySem.Str → Option Value) → List (Addr × Obj) → Prop)
    (W : Walks prog w A I fp [I] n P St) (hIf : I ∈ fp) (hSt : ∀ i h, St i h → ∃ o, h.get? I = some o) (hLf : env.locals ∉ fp) (hI : h₀.get? I = none) (hnI : ∀ p ∈ news, p.1 ≠ I)
    (hfp : ∀ b ∈ fp, b ≠ I → (∃ o, h₀.get? b = some o) ∨ (∃ o, ∀ i m nx, J i m nx → (b, o) ∈ nx))
    (hst : St 0 s.heap) (F : Fr h₀ env.locals s.heap m₀) (N : News h₀ env.locals s.heap news) (hj : J 0 m₀ news)
    (turn : ∀ i v m₁ news₁ h tk oI, i < n → P i v → (∀ p ∈ news₁, p.1 ≠ I) → J i m₁ news₁ → Fr h₀ env.locals h (fun y => if y = x then some v else m₁ y) → News h₀ env.locals h (news₁ ++ [(I, oI)]) →
      wpAny (model prog w) A (execs body env) (PostM h₀ env.locals (J (i + 1)) I oI { s with heap := h, toks := tk } Q) E { s with heap := h, toks := tk })
    (done : ∀ m₁ news₁ h tk, J n m₁ news₁ → Fr h₀ env.locals h m₁ → News h₀ env.locals h news₁ → Q .next { s with heap := h, toks := tk }) :
    LoopAtV prog w A h₀ env x body Q E (.ref I) s := by
  refine ⟨I, fp, [I], n, P, St, m₀, news, J, rfl, W, hLf, (fun b hb => by rw [List.mem_singleton.mp hb]; exact hI), (fun p hp hq => hnI p hp (List.mem_singleton.mp hq)), hst, F, N, hj, ?_, ?_⟩
  · rintro i v m₁ news₁ s₁ own ⟨hh', tk', rfl⟩ hin hP hJ hoff hown hheap hall hst' F₁ N₁
    obtain ⟨oI, hoI⟩ := hSt _ _ hst'
    have hIown : (I, oI) ∈ own := hall I hIf hI oI hoI
    have hoff' : ∀ p ∈ news₁, p.1 ≠ I := fun p hp e => hoff p hp (List.mem_singleton.mpr e)
    have N₂ : News h₀ env.locals hh' (news₁ ++ [(I, oI)]) := fun p hp => N₁ p ((List.mem_append.mp hp).elim (fun h => List.mem_append.mpr (.inr h)) fun h => List.mem_append.mpr (.inl (by rw [List.mem_singleton.mp h]; exact hIown)))
    refine wpAny_mono (turn i v m₁ news₁ hh' tk' oI hin hP hoff' hJ F₁ N₂) (fun f s₂ p => ?_) fun _ _ e => e
    have fin : (∃ h' tk m' nx, s₂ = { s with heap := h', toks := tk } ∧ Fr h₀ env.locals h' m' ∧ News h₀ env.locals h' (nx ++ [(I, oI)]) ∧ (∀ p ∈ nx, p.1 ≠ I) ∧ J (i + 1) m' nx) →
        LoopStepU h₀ env.locals [I] own (J (i + 1)) { s with heap := hh', toks := tk' } .next s₂ := by
      rintro ⟨h', tk, m', nx, e, F', N', ha, hm⟩
      refine ⟨rfl, h', tk, m', nx, e, F', fun p hp => ?_, fun p hp hq => ha p hp (List.mem_singleton.mp hq), hm⟩
      rcases List.mem_append.mp hp with h1 | h1
      · by_cases hpI : p.1 = I
        · have h2 := hheap p h1
          rw [hpI, hoI] at h2
          have h3 : p = (I, oI) := by
            induction p
            obtain rfl := hpI
            obtain ⟨⟩ := h2
            rfl
          exact N' p (List.mem_append.mpr (.inr (List.mem_singleton.mpr h3)))
        · rcases hfp p.1 (hown p h1) hpI with ⟨o, ho⟩ | ⟨o, ho⟩
          · have h2 := (N₁ p (List.mem_append.mpr (.inl h1))).2.2
            rw [ho] at h2
            obtain ⟨⟩ := h2
          · have h2 := (N₂ _ (List.mem_append.mpr (.inl (ho _ _ _ hJ)))).1
            have h3 := hheap p h1
            rw [h2] at h3
            have h4 : p = (p.1, o) := by
              induction p
              obtain ⟨⟩ := h3
              rfl
            rw [h4]
            exact N' _ (List.mem_append.mpr (.inl (ho _ _ _ hm)))
      · exact N' p (List.mem_append.mpr (.inl h1))
    induction f with
    | ret v => exact .ret p
    | brk => exact .brk p
    | next => exact .next (fin p)
    | cont => exact .cont (fin p)
  · rintro h' tk m' news' F' N' _ hJ
    exact done m' news' h' tk hJ F' N'
theorem for_str {l : List Nat} {t : Tok} {m₀ : PySem.Str → Option Value} {news : List (Addr × Obj)} (J : Nat → (PySem.Str → Option Value) → List (Addr × Obj) → Prop)
    (hh : A.handled = none) (F : Fr h₀ env.locals s.heap m₀) (N : News h₀ env.locals s.heap news) (hj : J 0 m₀ news)
    (turn : ∀ i c tt m₁ news₁ h tk I oI, l[i]? = some c → (∀ p ∈ news₁, p.1 ≠ I) → (∀ p ∈ news, p.1 < I) → J i m₁ news₁ → Fr h₀ env.locals h (fun y => if y = x then some (.str (tx [c]) tt) else m₁ y) → News h₀ env.locals h (news₁ ++ [(I, oI)]) →
      wpAny (model prog w) A (execs body env) (PostM h₀ env.locals (J (i + 1)) I oI { s with heap := h, toks := tk } Q) E { s with heap := h, toks := tk })
    (done : ∀ m₁ news₁ h tk, J l.length m₁ news₁ → Fr h₀ env.locals h m₁ → News h₀ env.locals h news₁ → Q .next { s with heap := h, toks := tk }) :
    wpAny (model prog w) A (pyIter (.str (tx l) t)) (fun it s₂ => LoopAtV prog w A h₀ env x body Q E it s₂) E s := by
  have hL : env.locals ≠ s.heap.objs.size := Nat.ne_of_lt F.ns.lt
  have hN : ∀ p ∈ news, p.1 < s.heap.objs.size := fun p hp => Heap.lt_size (N p hp).1
  have go : ∀ (St : Nat → Heap → Prop) (o : Obj), Walks prog w A s.heap.objs.size [s.heap.objs.size] [s.heap.objs.size] (tx l).cps.size (SignAt (tx l)) St → (∀ i h, St i h → ∃ o, h.get? s.heap.objs.size = some o) → St 0 (s.heap.push o) →
      LoopAtV prog w A h₀ env x body Q E (.ref s.heap.objs.size) { s with heap := s.heap.push o } := by
    intro St o W hSt hst
    refine loop_M J W (List.mem_singleton.mpr rfl) hSt (fun h => hL (List.mem_singleton.mp h)) (next_is_new F) (fun p hp => Nat.ne_of_lt (hN p hp)) (fun b hb hne => absurd (List.mem_singleton.mp hb) hne) hst (F.push _) (N.pushKeep _) hj ?_ ?_
    · rintro i v m₁ news₁ h tk oI hi ⟨c, u, hc, rfl⟩ hoff hJ F₁ N₁
      exact turn i c u m₁ news₁ h tk _ oI (by simpa [tx] using hc) hoff hN hJ F₁ N₁
    · intro m₁ news₁ h tk hJ
      exact done m₁ news₁ h tk hJ
  induction ha : (tx l).cps.all (· < 128)
  · exact wpAny_pyIter_wide ha (go _ _ (Walks.strWide hh _ (tx l) t) (fun i h st => let ⟨o, ho, _⟩ := st; ⟨o, ho⟩) ⟨_, Heap.get?_push_size _ rfl, rfl, rfl⟩)
  · exact wpAny_pyIter_ascii ha (go _ _ (Walks.strAscii hh _ (tx l) t) (fun i h st => let ⟨o, ho, _⟩ := st; ⟨o, ho⟩) ⟨_, Heap.get?_push_size _ rfl, rfl, rfl⟩)
theorem for_list {l : Addr} {vs : List Value} {ep : Nat} {m₀ : PySem.Str → Option Value} {news : List (Addr × Obj)} (J : Nat → (PySem.Str → Option Value) → List (Addr × Obj) → Prop)
    (hh : A.handled = none) (F : Fr h₀ env.locals s.heap m₀) (N : News h₀ env.locals s.heap news) (hj : J 0 m₀ news) (hl : ∀ i m nx, J i m nx → (l, listOf vs.toArray ep) ∈ nx)
    (turn : ∀ i v m₁ news₁ h tk I oI, vs[i]? = some v → (∀ p ∈ news₁, p.1 ≠ I) → (∀ p ∈ news, p.1 < I) → J i m₁ news₁ → Fr h₀ env.locals h (fun y => if y = x then some v else m₁ y) → News h₀ env.locals h (news₁ ++ [(I, oI)]) →
      wpAny (model prog w) A (execs body env) (PostM h₀ env.locals (J (i + 1)) I oI { s with heap := h, toks := tk } Q) E { s with heap := h, toks := tk })
    (done : ∀ m₁ news₁ h tk, J vs.length m₁ news₁ → Fr h₀ env.locals h m₁ → News h₀ env.locals h news₁ → Q .next { s with heap := h, toks := tk }) :
    wpAny (model prog w) A (pyIter (.ref l)) (fun it s₂ => LoopAtV prog w A h₀ env x body Q E it s₂) E s := by
  have hL : env.locals ≠ s.heap.objs.size := Nat.ne_of_lt F.ns.lt
  have hN : ∀ p ∈ news, p.1 < s.heap.objs.size := fun p hp => Heap.lt_size (N p hp).1
  have hm := hl _ _ _ hj
  have hls := News.isList N hm
  have hne : l ≠ s.heap.objs.size := Nat.ne_of_lt (hN _ hm)
  refine wpAny_pyIter_list hls ?_
  have W := Walks.list (prog := prog) (w := w) hh s.heap.objs.size l hne vs.toArray
  refine loop_M J W (.head _) (fun i h st => let ⟨⟨o, ho, _⟩, _⟩ := st; ⟨o, ho⟩) ?_ (next_is_new F) (fun p hp => Nat.ne_of_lt (hN p hp)) ?_ ⟨⟨_, Heap.get?_push_size _ rfl, rfl, rfl⟩, hls.at fun o e => Heap.get?_push_of_some _ e⟩ (F.push _) (N.pushKeep _) hj ?_ ?_
  · intro h
    rcases List.mem_cons.mp h with e | e
    · exact hL e
    · exact (N _ hm).2.1 (List.mem_singleton.mp e).symm
  · intro b hb hne'
    rcases List.mem_cons.mp hb with e | e
    · exact absurd e hne'
    · rw [List.mem_singleton.mp e]
      exact .inr ⟨_, hl⟩
  · rintro i v m₁ news₁ h tk oI hi hP hoff hJ F₁ N₁
    exact turn i v m₁ news₁ h tk _ oI (by simpa using hP) hoff hN hJ F₁ N₁
  · intro m₁ news₁ h tk hJ
    rw [List.size_toArray] at hJ
    exact done m₁ news₁ h tk hJ
theorem for_range {r : Addr} {a₀ b₀ : Int} {t₀ u₀ v₀ : Tok} {n : Nat} {m₀ : PySem.Str → Option Value} {news : List (Addr × Obj)} (J : Nat → (PySem.Str → Option Value) → List (Addr × Obj) → Prop)
    (hh : A.handled = none) (hr : IsRange s.heap r a₀ b₀ 1 t₀ u₀ v₀) (hsmall : Builtin.Range.small a₀ b₀ 1 = true) (hn : Builtin.Range.rangeSize a₀ b₀ 1 = (n : Int)) (F : Fr h₀ env.locals s.heap m₀) (N : News h₀ env.locals s.heap news) (hj : J 0 m₀ news)
    (turn : ∀ i tt m₁ news₁ h tk I oI, i < n → (∀ p ∈ news₁, p.1 ≠ I) → (∀ p ∈ news, p.1 < I) → J i m₁ news₁ → Fr h₀ env.locals h (fun y => if y = x then some (.int (a₀ + i) tt) else m₁ y) → News h₀ env.locals h (news₁ ++ [(I, oI)]) →
      wpAny (model prog w) A (execs body env) (PostM h₀ env.locals (J (i + 1)) I oI { s with heap := h, toks := tk } Q) E { s with heap := h, toks := tk })
    (done : ∀ m₁ news₁ h tk, J n m₁ news₁ → Fr h₀ env.locals h m₁ → News h₀ env.locals h news₁ → Q .next { s with heap := h, toks := tk }) :
    wpAny (model prog w) A (pyIter (.ref r)) (fun it s₂ => LoopAtV prog w A h₀ env x body Q E it s₂) E s := by
  have hL : env.locals ≠ s.heap.objs.size := Nat.ne_of_lt F.ns.lt
  have hN : ∀ p ∈ news, p.1 < s.heap.objs.size := fun p hp => Heap.lt_size (N p hp).1
  refine wpAny_pyIter_range hr hsmall ?_
  have W : Walks prog w A s.heap.objs.size [s.heap.objs.size] [s.heap.objs.size] n (fun i v => i < n ∧ ∃ t, v = .int (a₀ + i * 1) t)
      (fun i h => IsRangeIter h s.heap.objs.size (a₀ + (i : Nat) * 1) ((n : Int) - (i : Nat)) 1) := (Walks.range hh _ a₀ 1 n).bound
  refine loop_M J W (List.mem_singleton.mpr rfl) (fun i h st => ⟨_, st⟩) (fun h => hL (List.mem_singleton.mp h)) (next_is_new F) (fun p hp => Nat.ne_of_lt (hN p hp)) (fun b hb hne => absurd (List.mem_singleton.mp hb) hne) (by show IsRangeIter _ _ _ _ _; rw [hn]; simpa using Heap.get?_push_size _ rfl) (F.push _) (N.pushKeep _) hj ?_ ?_
  · rintro i v m₁ news₁ h tk oI hi ⟨hin, u, rfl⟩ hoff hJ F₁ N₁
    rw [Int.mul_one] at F₁
    exact turn i u m₁ news₁ h tk _ oI hin hoff hN hJ F₁ N₁
  · intro m₁ news₁ h tk hJ
    exact done m₁ news₁ h tk hJ
end
theorem rs_small {n : Nat} (h : n ≤ 1000000) : Builtin.Range.small 0 (n : Int) 1 = true := small_one (by decide) (by decide) (by (first | lia | omega)) (by (first | lia | omega))
theorem rs_size (n : Nat) : Builtin.Range.rangeSize 0 (n : Int) 1 = (n : Int) := by
  rw [rangeSize_one]
  split <;> (first | lia | omega)
theorem fr_cong {g h : Heap} {L : Addr} {m m' : PySem.Str → Option Value} (F : Fr g L h m) (e : ∀ y, m' y = m y) : Fr g L h m' := by
  have : m' = m := funext e
  rw [this]; exact F
theorem ins_at {m : PySem.Str → Option Value} {n : PySem.Str} {v : Option Value} (e : m n = v) (y : PySem.Str) : (if y = n then v else m y) = m y := by
  by_cases h : y = n
  · rw [if_pos h, h, e]
  · rw [if_neg h]
theorem fr_i1 {g h : Heap} {L : Addr} {m : PySem.Str → Option Value} {n1 : PySem.Str} {v1 : Option Value} (F : Fr g L h m) (e1 : m n1 = v1) : Fr g L h (fun y => if y = n1 then v1 else m y) :=
  fr_cong F fun y => ins_at e1 y
theorem fr_k1 {g h : Heap} {L : Addr} {m : PySem.Str → Option Value} {x n1 : PySem.Str} {a v1 : Option Value} (F : Fr g L h (fun y => if y = x then a else m y)) (e1 : m n1 = v1) :
    Fr g L h (fun y => if y = x then a else if y = n1 then v1 else m y) :=
  fr_cong F fun y => by rw [ins_at e1 y]
end
section
open PySem PySem.W PySem.Calls PyProof.Rows
structure RC where
  r : Nat
  dr : Nat
  sr : Nat
  dsr : Nat
  lst : Nat
  kt : Nat → Tok
  items : List Value
  lep : Nat
structure RS where
  record : List Nat
  trec : Tok
  col : Int
  tcol : Tok
  left : Int
  tleft : Tok
  held : Value
  beh : Bool
  don : Bool
  at_ : Int
  tat : Tok
noncomputable def RC.led (c : RC) (w : World) (σ : RS) : List (Addr × Obj) :=
  [(c.r, instObj 209 c.dr),
   (c.dr, dictOf [⟨PyData.keyHash w.params (Str.ofString "source"), .str (Str.ofString "source") (c.kt 0), .ref c.sr⟩,
                  ⟨PyData.keyHash w.params (Str.ofString "record"), .str (Str.ofString "record") (c.kt 1), .str (tx σ.record) σ.trec⟩,
                  ⟨PyData.keyHash w.params (Str.ofString "col"), .str (Str.ofString "col") (c.kt 2), .int σ.col σ.tcol⟩,
                  ⟨PyData.keyHash w.params (Str.ofString "left"), .str (Str.ofString "left") (c.kt 3), .int σ.left σ.tleft⟩,
                  ⟨PyData.keyHash w.params (Str.ofString "held"), .str (Str.ofString "held") (c.kt 4), σ.held⟩,
                  ⟨PyData.keyHash w.params (Str.ofString "is_behind"), .str (Str.ofString "is_behind") (c.kt 5), .bool σ.beh⟩,
                  ⟨PyData.keyHash w.params (Str.ofString "is_done"), .str (Str.ofString "is_done") (c.kt 6), .bool σ.don⟩] 7),
   (c.sr, instObj 342 c.dsr),
   (c.dsr, dictOf [⟨PyData.keyHash w.params (Str.ofString "records"), .str (Str.ofString "records") (c.kt 7), .ref c.lst⟩,
                   ⟨PyData.keyHash w.params (Str.ofString "at"), .str (Str.ofString "at") (c.kt 8), .int σ.at_ σ.tat⟩] 2),
   (c.lst, listOf c.items.toArray c.lep)]
noncomputable def RC.src (c : RC) (w : World) (at_ : Int) (tat : Tok) : List (Addr × Obj) :=
  [(c.sr, instObj 342 c.dsr),
   (c.dsr, dictOf [⟨PyData.keyHash w.params (Str.ofString "records"), .str (Str.ofString "records") (c.kt 7), .ref c.lst⟩,
                   ⟨PyData.keyHash w.params (Str.ofString "at"), .str (Str.ofString "at") (c.kt 8), .int at_ tat⟩] 2),
   (c.lst, listOf c.items.toArray c.lep)]
noncomputable def lineOf : Value → List Nat
  | .str x _ => x.cps.toList
  | _ => []
noncomputable def sg : List Nat → List Nat
  | [] => []
  | c :: _ => if c = 10 then [] else [c]
structure Rd (c : RC) (σ : RS) (rest : List Nat) : Prop where
  ord : c.lst < c.dsr ∧ c.dsr < c.sr ∧ c.sr < c.dr ∧ c.dr < c.r
  hst : ∀ v ∈ c.items, ∃ l t, v = .str (tx l) t ∧ 10 ∉ l ∧ l.length ≤ 100000
  fit : c.items.length ≤ 100000
  at0 : 0 ≤ σ.at_
  at1 : σ.at_ ≤ c.items.length
  col0 : 0 ≤ σ.col
  col1 : σ.col ≤ σ.record.length
  nl : 10 ∉ σ.record
  len : σ.record.length ≤ 100000
  tot : rest.length ≤ 1000000
  rest_eq : rest = σ.record.drop σ.col.toNat ++ ((c.items.drop σ.at_.toNat).map (fun v => 10 :: lineOf v)).flatten
structure Mv (σ σ' : RS) : Prop where
  left : σ'.left = σ.left
  tleft : σ'.tleft = σ.tleft
  held : σ'.held = σ.held
  beh : σ'.beh = σ.beh
  don : σ'.don = σ.don
theorem Mv.rfl' (σ : RS) : Mv σ σ := ⟨rfl, rfl, rfl, rfl, rfl⟩
theorem Mv.trans {a b c : RS} (h : Mv a b) (k : Mv b c) : Mv a c := ⟨k.left.trans h.left, k.tleft.trans h.tleft, k.held.trans h.held, k.beh.trans h.beh, k.don.trans h.don⟩
theorem Rd.inn {c : RC} {σ : RS} {rest : List Nat} (h : Rd c σ rest) (hlt : σ.col < σ.record.length) :
    ∃ x tl, rest = x :: tl ∧ x ≠ 10 ∧ σ.record.getD σ.col.toNat 0 = x ∧ ∀ t, Rd c { σ with col := σ.col + 1, tcol := t } tl := by
  have hl : σ.col.toNat < σ.record.length := by have := h.col0; (first | lia | omega)
  have e := List.drop_eq_getElem_cons hl
  refine ⟨σ.record[σ.col.toNat], _, by rw [h.rest_eq, e]; rfl, fun q => h.nl (q ▸ List.getElem_mem hl), by rw [List.getD_eq_getElem?_getD, List.getElem?_eq_getElem hl]; rfl, fun t => ⟨h.ord, h.hst, h.fit, h.at0, h.at1, by have := h.col0; show (0:Int) ≤ σ.col + 1; (first | lia | omega), by show σ.col + 1 ≤ (σ.record.length : Int); (first | lia | omega), h.nl, h.len, ?_, ?_⟩⟩
  · have e3 := h.tot
    rw [h.rest_eq, e] at e3
    exact Nat.le_trans (Nat.le_succ _) e3
  show _ = List.drop (σ.col + 1).toNat σ.record ++ _
  have e2 : (σ.col + 1).toNat = σ.col.toNat + 1 := by have := h.col0; (first | lia | omega)
  rw [e2]
  rfl
theorem Rd.out {c : RC} {σ : RS} {rest : List Nat} (h : Rd c σ rest) (hge : ¬ σ.col < σ.record.length) :
    (rest = [] ∧ ¬ σ.at_ < c.items.length) ∨ (∃ l t tl, rest = 10 :: tl ∧ σ.at_ < c.items.length ∧ c.items[σ.at_.toNat]? = some (.str (tx l) t) ∧
      ∀ tr tc ta, Rd c { σ with record := l, trec := tr, col := 0, tcol := tc, at_ := σ.at_ + 1, tat := ta } tl) := by
  have hd : σ.record.drop σ.col.toNat = [] := List.drop_of_length_le (by have := h.col0; (first | lia | omega))
  have hr := h.rest_eq
  rw [hd, List.nil_append] at hr
  by_cases ha : σ.at_ < c.items.length
  · right
    have hl : σ.at_.toNat < c.items.length := by have := h.at0; (first | lia | omega)
    obtain ⟨l, t, e, e1, e2⟩ := h.hst c.items[σ.at_.toNat] (List.getElem_mem hl)
    have q := List.drop_eq_getElem_cons hl
    refine ⟨l, t, _, by rw [hr, q, List.map_cons, List.flatten_cons, e]; rfl, ha, by rw [List.getElem?_eq_getElem hl, e], fun tr tc ta => ⟨h.ord, h.hst, h.fit, by show (0:Int) ≤ σ.at_ + 1; have := h.at0; (first | lia | omega), by show σ.at_ + 1 ≤ _; (first | lia | omega), Int.le_refl 0, by show (0 : Int) ≤ _; (first | lia | omega), e1, e2, ?_, ?_⟩⟩
    · have e3 := h.tot
      rw [hr, q, List.map_cons, List.flatten_cons, e] at e3
      exact Nat.le_trans (Nat.le_succ _) e3
    have e2 : (σ.at_ + 1).toNat = σ.at_.toNat + 1 := by have := h.at0; (first | lia | omega)
    show _ = List.drop (0 : Int).toNat l ++ (List.map _ (List.drop (σ.at_ + 1).toNat c.items)).flatten
    rw [e2]
    rfl
  · left
    refine ⟨?_, ha⟩
    rw [hr, List.drop_of_length_le (by have := h.at0; (first | lia | omega))]
    rfl
theorem Rd.sg_in {c : RC} {σ : RS} {rest : List Nat} (h : Rd c σ rest) (hlt : σ.col < σ.record.length) : [σ.record.getD σ.col.toNat 0] = sg rest := by
  obtain ⟨x, tl, rfl, hx, e, _⟩ := h.inn hlt
  rw [e]; simp [sg, hx]
theorem Rd.sg_out {c : RC} {σ : RS} {rest : List Nat} (h : Rd c σ rest) (hge : ¬ σ.col < σ.record.length) : [] = sg rest := by
  rcases h.out hge with ⟨rfl, _⟩ | ⟨_, _, tl, rfl, _⟩ <;> rfl
theorem sg_is {r : List Nat} {c : Nat} (h : (sg r == [c]) = true) : ∃ tl, r = c :: tl ∧ c ≠ 10 := by
  rw [beq_iff_eq] at h
  induction r with
  | nil => obtain ⟨⟩ := h
  | cons x tl =>
    by_cases hx : x = 10
    · simp [sg, hx] at h
    · simp [sg, hx] at h
      exact ⟨tl, by rw [h], h ▸ hx⟩
theorem dw_stop {r : List Nat} {c : Nat} (hc : c ≠ 10) (h : (sg r == [c]) = false) : r.dropWhile (· == c) = r := by
  cases r with
  | nil => rfl
  | cons x tl =>
    have : (x == c) = false := by
      induction q : x == c with
      | false => rfl
      | true =>
        rw [beq_iff_eq] at q
        subst q
        simp [sg, hc] at h
    rw [List.dropWhile_cons, this]
    rfl
noncomputable def gap (c : Nat) : Bool := c == 32 || c == 10
theorem gap_stop {r : List Nat} (h1 : (sg r == [32]) = false) (h2 : (sg r == []) = false) : r.dropWhile gap = r := by
  induction r with
  | nil => rfl
  | cons x tl =>
    by_cases hx : x = 10
    · simp [sg, hx] at h2
    · have : gap x = false := by
        simp [sg, hx] at h1
        simp [gap, hx, h1]
      rw [List.dropWhile_cons, this]
      rfl
theorem gap_go {r : List Nat} (hne : r ≠ []) (h : (sg r == [32]) = true ∨ (sg r == []) = true) : r.dropWhile gap = r.tail.dropWhile gap := by
  induction r with
  | nil => exact absurd rfl hne
  | cons x tl =>
    have : gap x = true := by
      by_cases hx : x = 10
      · simp [gap, hx]
      · simp [sg, hx] at h
        simp [gap, h]
    rw [List.dropWhile_cons, this]
    rfl
theorem tail_lt {r : List Nat} (hne : r ≠ []) : r.tail.length < r.length := by
  induction r with
  | nil => exact absurd rfl hne
  | cons x tl => exact Nat.lt_succ_self _
noncomputable def stopC (e : Addr) (c : Nat) : Bool := c == 10 || endB e [c]
theorem end_true {e : Addr} {r : List Nat} (h : endB e (sg r) = true) : r.takeWhile (fun c => !stopC e c) = [] ∧ r.dropWhile (fun c => !stopC e c) = r := by
  induction r with
  | nil => exact ⟨rfl, rfl⟩
  | cons x tl =>
    have : (!stopC e x) = false := by
      by_cases hx : x = 10
      · simp [stopC, hx]
      · simp [sg, hx] at h
        simp [stopC, h]
    exact ⟨by rw [List.takeWhile_cons, this]; rfl, by rw [List.dropWhile_cons, this]; rfl⟩
theorem end_false {e : Addr} (he : e = 191 ∨ e = 192) {r : List Nat} (h : endB e (sg r) = false) : ∃ x tl, r = x :: tl ∧ sg r = [x] ∧
    r.takeWhile (fun c => !stopC e c) = x :: tl.takeWhile (fun c => !stopC e c) ∧ r.dropWhile (fun c => !stopC e c) = tl.dropWhile (fun c => !stopC e c) := by
  cases r with
  | nil => rcases he with rfl | rfl <;> simp [sg, endB, sepB, pendB] at h
  | cons x tl =>
    by_cases hx : x = 10
    · rcases he with rfl | rfl <;> simp [sg, hx, endB, sepB, pendB] at h
    · have q : (!stopC e x) = true := by
        simp [sg, hx] at h
        simp [stopC, h, hx]
      exact ⟨x, tl, rfl, by simp [sg, hx], by rw [List.takeWhile_cons, q]; rfl, by rw [List.dropWhile_cons, q]; rfl⟩
theorem sg_len (r : List Nat) : (sg r).length ≤ 1 := by
  induction r with
  | nil => exact Nat.zero_le _
  | cons x tl =>
    by_cases hx : x = 10 <;> simp [sg, hx]
end
section
open PySem PySem.W PySem.Calls PyProof.Rows
theorem bne_f {l m : List Nat} (h : (l != m) = false) : (l == m) = true := by
  rw [bne, Bool.not_eq_false'] at h; exact h
theorem bne_t {l m : List Nat} (h : (l != m) = true) : (l == m) = false := by
  rw [bne, Bool.not_eq_true'] at h; exact h
noncomputable def tq : List Nat → Option (List Nat × List Nat)
  | [] => none
  | c :: r => if c = 39 then (match r with
      | [] => some ([], [])
      | d :: r' => if d = 39 then (tq r').map (fun p => (39 :: p.1, p.2)) else some ([], d :: r'))
    else if c = 10 then tq r else (tq r).map fun p => (c :: p.1, p.2)
theorem tq_cons {c : Nat} {r : List Nat} (h : c ≠ 39) : tq (c :: r) = if c = 10 then tq r else (tq r).map fun p => (c :: p.1, p.2) := by
  induction r <;> simp [tq, h]
theorem tq_end {r : List Nat} {p : List Nat × List Nat} (h : tq (39 :: r) = some p) (hr : (sg r == [39]) = false) : p = ([], r) := by
  induction r with
  | nil => simpa [tq] using h.symm
  | cons d r' =>
    have : d ≠ 39 := by rintro rfl; simp [sg] at hr
    simpa [tq, this] using h.symm
theorem tq_two {r : List Nat} {p : List Nat × List Nat} (h : tq (39 :: 39 :: r) = some p) : ∃ q, tq r = some q ∧ p = (39 :: q.1, q.2) := by
  simp only [tq, if_true, Option.map_eq_some_iff] at h
  obtain ⟨q, e, rfl⟩ := h
  exact ⟨q, e, rfl⟩
theorem tq_other {r : List Nat} {p : List Nat × List Nat} (h : tq r = some p) (hr : (sg r == [39]) = false) : r ≠ [] ∧ ∃ q, tq r.tail = some q ∧ p = (sg r ++ q.1, q.2) := by
  cases r with
  | nil => simp [tq] at h
  | cons c tl =>
    refine ⟨List.cons_ne_nil _ _, ?_⟩
    have hc : c ≠ 39 := by rintro rfl; simp [sg] at hr
    by_cases h10 : c = 10
    · subst h10
      exact ⟨p, by rw [tq_cons hc] at h; simpa using h, by simp [sg]⟩
    · rw [tq_cons hc, if_neg h10, Option.map_eq_some_iff] at h
      obtain ⟨q, e, rfl⟩ := h
      exact ⟨q, e, by simp [sg, h10]⟩
noncomputable def valD (l : List Nat) : Int := l.foldl (fun (n : Int) (c : Nat) => n * 10 + ((c : Int) - 48)) 0
theorem valD_snoc (l : List Nat) (c : Nat) : valD (l ++ [c]) = valD l * 10 + ((c : Int) - 48) := by simp [valD]
theorem find_digit {c : Nat} (h0 : 48 ≤ c) (h1 : c ≤ 57) : Txt.find (PySem.Str.ofString "0123456789") (tx [c]) = (c : Int) - 48 := by
  have : c = 48 ∨ c = 49 ∨ c = 50 ∨ c = 51 ∨ c = 52 ∨ c = 53 ∨ c = 54 ∨ c = 55 ∨ c = 56 ∨ c = 57 := by (first | lia | omega)
  rcases this with rfl | rfl | rfl | rfl | rfl | rfl | rfl | rfl | rfl | rfl <;> decide +kernel
end
section
open PySem PySem.W PySem.Calls PyProof.Rows
theorem fm10 (m : Int) : Int.fmod m 10 = m % 10 := Int.fmod_eq_emod_of_nonneg m (by decide)
theorem fd10 (m : Int) : Int.fdiv m 10 = m / 10 := Int.fdiv_eq_ediv_of_nonneg m (by decide)
noncomputable def szf : Nat → Int → Int → Int × Int
  | 0, m, e => (m, e)
  | n + 1, m, e => if m = 0 then (0, 0) else if Int.fmod m 10 = 0 then szf n (Int.fdiv m 10) (e + 1) else (m, e)
noncomputable def sz (m e : Int) : Int × Int := szf (m.natAbs + 1) m e
theorem sz_dv {m : Int} (h0 : m ≠ 0) (h : Int.fmod m 10 = 0) : (Int.fdiv m 10).natAbs < m.natAbs := by
  rw [fm10] at h; rw [fd10]; (first | lia | omega)
theorem szf_eq : ∀ (n k : Nat) (m e : Int), m.natAbs < n → m.natAbs < k → szf n m e = szf k m e
  | 0, _, _, _, h, _ => absurd h (Nat.not_lt_zero _)
  | _, 0, _, _, _, h => absurd h (Nat.not_lt_zero _)
  | n + 1, k + 1, m, e, hn, hk => by
    unfold szf
    by_cases h0 : m = 0
    · rw [if_pos h0, if_pos h0]
    · rw [if_neg h0, if_neg h0]
      by_cases h : Int.fmod m 10 = 0
      · rw [if_pos h, if_pos h]
        exact szf_eq n k _ _ (Nat.lt_of_lt_of_le (sz_dv h0 h) (Nat.le_of_lt_succ hn)) (Nat.lt_of_lt_of_le (sz_dv h0 h) (Nat.le_of_lt_succ hk))
      · rw [if_neg h, if_neg h]
theorem sz_zero (e : Int) : sz 0 e = (0, 0) := rfl
theorem sz_go {m e : Int} (h0 : m ≠ 0) (h : Int.fmod m 10 = 0) : sz m e = sz (Int.fdiv m 10) (e + 1) := by
  unfold sz
  rw [szf, if_neg h0, if_pos h]
  exact szf_eq _ _ _ _ (sz_dv h0 h) (Nat.lt_succ_self _)
theorem sz_stop {m e : Int} (h : Int.fmod m 10 ≠ 0) : sz m e = (m, e) := by
  have h0 : m ≠ 0 := by rintro rfl; exact h rfl
  unfold sz
  rw [szf, if_neg h0, if_neg h]
theorem sz_step {B k : Int} (hB : B ≤ 99) (hk : k ≤ 30) (ih : ∀ m e : Int, -B ≤ m → m ≤ B → -20 ≤ e → e ≤ k + 1 → (-999 ≤ (sz m e).1 ∧ (sz m e).1 ≤ 999) ∧ -20 ≤ (sz m e).2 ∧ (sz m e).2 ≤ 30) (m e : Int) (h1 : -(10 * B + 9) ≤ m) (h2 : m ≤ 10 * B + 9) (h3 : -20 ≤ e) (h4 : e ≤ k) : (-999 ≤ (sz m e).1 ∧ (sz m e).1 ≤ 999) ∧ -20 ≤ (sz m e).2 ∧ (sz m e).2 ≤ 30 := by
  by_cases h0 : m = 0
  · subst h0; rw [sz_zero]; decide
  · by_cases h : Int.fmod m 10 = 0
    · rw [sz_go h0 h]
      exact ih _ _ (by rw [fm10] at h; rw [fd10]; (first | lia | omega)) (by rw [fd10]; (first | lia | omega)) (Int.le_trans h3 (Int.le_of_lt (Int.lt_succ e))) (Int.add_le_add_right h4 1)
    · rw [sz_stop h]; exact ⟨⟨by show -999 ≤ m; (first | lia | omega), by show m ≤ 999; (first | lia | omega)⟩, h3, by show e ≤ 30; (first | lia | omega)⟩
theorem sz_all {m e : Int} (h : -999 ≤ m ∧ m ≤ 999) (he : -20 ≤ e ∧ e ≤ 20) : (-999 ≤ (sz m e).1 ∧ (sz m e).1 ≤ 999) ∧ -20 ≤ (sz m e).2 ∧ (sz m e).2 ≤ 30 :=
  sz_step (B := 99) (k := 20) (by decide) (by decide) (sz_step (B := 9) (k := 21) (by decide) (by decide) (sz_step (B := 0) (k := 22) (by decide) (by decide) fun m e h1 h2 _ _ => by
    obtain rfl : m = 0 := Int.le_antisymm h2 h1
    rw [sz_zero]; decide)) _ _ h.1 h.2 he.1 he.2
noncomputable def Two (v : Value) (m e : Int) (nx : List (Addr × Obj)) : Prop :=
  (m = 0 ∧ e = 0 ∧ v = .ref 85 ∧ nx = []) ∨ (m ≠ 0 ∧ ∃ a t1 t2 ep, v = .ref a ∧ nx = [(a, { cls := .type "tuple", data := .seq #[.int m t1, .int e t2] ep })])
noncomputable def csg : List Nat → Int × List Nat
  | 45 :: r => (-1, r)
  | 43 :: r => (1, r)
  | r => (1, r)
theorem csg_neg {l : List Nat} (h : (l.take 1 == [45]) = true) : csg l = (-1, l.drop 1) := by
  rw [beq_iff_eq] at h
  induction l with
  | nil => obtain ⟨⟩ := h
  | cons x r => simp at h; subst h; rfl
theorem csg_pos {l : List Nat} (h : (l.take 1 == [43]) = true) : csg l = (1, l.drop 1) := by
  rw [beq_iff_eq] at h
  induction l with
  | nil => obtain ⟨⟩ := h
  | cons x r => simp at h; subst h; rfl
theorem csg_none {l : List Nat} (h : (l.take 1 == [45]) = false) (h2 : (l.take 1 == [43]) = false) : csg l = (1, l) := by
  induction l with
  | nil => rfl
  | cons x r =>
    have h3 : x ≠ 45 := by rintro rfl; simp at h
    have h4 : x ≠ 43 := by rintro rfl; simp at h2
    simp [csg, h3, h4]
noncomputable def Dig (l : List Nat) : Prop := ∀ c ∈ l, 48 ≤ c ∧ c ≤ 57
theorem valD_foldl_nonneg : ∀ (l : List Nat) (n : Int), Dig l → 0 ≤ n → 0 ≤ l.foldl (fun (n : Int) (c : Nat) => n * 10 + ((c : Int) - 48)) n
  | [], n, _, h => h
  | c :: r, n, hd, h => valD_foldl_nonneg r _ (fun x hx => hd x (.tail _ hx)) (by have := hd c (.head _); show (0 : Int) ≤ n * 10 + ((c : Int) - 48); (first | lia | omega))
theorem valD_nonneg {l : List Nat} (h : Dig l) : 0 ≤ valD l := valD_foldl_nonneg l 0 h (Int.le_refl 0)
theorem find_none {l : List Nat} {c : Nat} (h : c ∉ l) : Txt.find (tx l) (tx [c]) = -1 := by
  rcases find_whole (tx l) (tx [c]) with ⟨e, _⟩ | ⟨i, _, hi, _⟩
  · exact e
  · exact absurd (List.mem_of_getElem? ((StrLaws.subAt_one (tx l) c i).mp hi)) h
theorem find_at {A B : List Nat} {c : Nat} (h : c ∉ A) : Txt.find (tx (A ++ c :: B)) (tx [c]) = (A.length : Int) := by
  have hl : (tx (A ++ c :: B)).cps.toList[A.length]? = some c := by rw [tx_cps]; simp
  have ha : StrLaws.At (tx (A ++ c :: B)) (tx [c]) (tx (A ++ c :: B)).length A.length := (StrLaws.subAt_one (tx (A ++ c :: B)) c A.length).mpr hl
  rcases find_whole (tx (A ++ c :: B)) (tx [c]) with ⟨_, hn⟩ | ⟨i, e, hi, hn⟩
  · exact absurd ha (hn _)
  · have hi' : (A ++ c :: B)[i]? = some c := (StrLaws.subAt_one (tx (A ++ c :: B)) c i).mp hi
    rcases Nat.lt_trichotomy i A.length with q | q | q
    · rw [List.getElem?_append_left q] at hi'
      exact absurd (List.mem_of_getElem? hi') h
    · rw [e, q]
    · exact absurd ha (hn _ q)
noncomputable def RealT (l : List Nat) (m e : Int) : Prop := ∃ A c B ds, (csg l).2 = A ++ c :: B ∧ (c = 69 ∨ c = 68) ∧ (A = ds ∨ A = ds ++ [46]) ∧ ds ≠ [] ∧ Dig ds ∧ (csg B).2 ≠ [] ∧ Dig (csg B).2 ∧
  32 ∉ l ∧ l.length ≤ 1000 ∧ m = (csg l).1 * valD ds ∧ e = (csg B).1 * valD (csg B).2 ∧ (-999 ≤ m ∧ m ≤ 999) ∧ (-20 ≤ e ∧ e ≤ 20)
noncomputable def IntT (l : List Nat) (n : Int) : Prop := l ≠ [] ∧ (csg l).2 ≠ [] ∧ Dig (csg l).2 ∧ 32 ∉ l ∧ l.length ≤ 1000 ∧ n = (csg l).1 * valD (csg l).2 ∧ (-1000 ≤ n ∧ n ≤ 1000)
noncomputable def LogT (l : List Nat) (b : Bool) : Prop := (l = [84] ∧ b = true) ∨ (l = [46, 70, 65, 76, 83, 69, 46] ∧ b = false) ∨ (l = [46, 84, 82, 85, 69, 46] ∧ b = true) ∨ (l = [70, 120] ∧ b = false)
theorem csg_len (l : List Nat) : (csg l).2.length ≤ l.length := by
  induction l with
  | nil => exact Nat.le_refl _
  | cons x r =>
    by_cases h1 : x = 45
    · subst h1; exact Nat.le_succ _
    · by_cases h2 : x = 43
      · subst h2; exact Nat.le_succ _
      · simp [csg, h1, h2]
noncomputable def fit (l : List Nat) (n : Nat) : List Nat := l.take n ++ List.replicate (n - l.length) 32
theorem csg_one (l : List Nat) : -1 ≤ (csg l).1 ∧ (csg l).1 ≤ 1 := by
  induction l with
  | nil => decide
  | cons x r =>
    by_cases h1 : x = 45
    · subst h1; simp [csg]
    · by_cases h2 : x = 43
      · subst h2; simp [csg]
      · simp [csg, h1, h2]
theorem tx_mul_foldl (x : Nat) : ∀ (n : Nat) (a : Array Nat), ((List.replicate n #[x]).foldl (· ++ ·) a) = a ++ (List.replicate n x).toArray
  | 0, a => by simp
  | n + 1, a => by
    rw [List.replicate_succ, List.foldl_cons, tx_mul_foldl x n, List.replicate_succ]
    apply Array.toList_inj.mp
    simp
theorem tx_mul (c : Nat) (k : Int) : Txt.mul (tx [c]) k = tx (List.replicate k.toNat c) := by
  unfold Txt.mul
  by_cases h : k < 1
  · rw [if_pos h, show k.toNat = 0 by (first | lia | omega)]; rfl
  · rw [if_neg h]
    by_cases h1 : k = 1
    · subst h1; rfl
    · have : (k == 1 || (tx [c]).length == 0) = false := by
        have e : (k == 1) = false := by simpa using h1
        rw [e]; rfl
      rw [this]
      simp only [Bool.false_eq_true, if_false]
      show (⟨_⟩ : PySem.Str) = ⟨_⟩
      congr 1
      show (List.replicate k.toNat #[c]).foldl (· ++ ·) #[] = _
      rw [tx_mul_foldl]; simp
theorem rl_mul {prog : Program} {w : World} {A : Around} {E : Value → Shared → Prop} {s : Shared} {c : Nat} {t u : Tok} {k : Int} {Q : Value → Shared → Prop} (h0 : -1000 ≤ k) (h1 : k ≤ 1000) (h : ∀ t' k', Q (.str (tx (List.replicate k.toNat c)) t') { s with toks := k' }) :
    wpAny (model prog w) A (binaryOp .Mult (.str (tx [c]) t) (.int k u)) Q E s := by
  refine SB.mul (mulOk_of 16 1048576 (by rw [tx_len, List.length_singleton]; decide) (by (first | lia | omega)) (by (first | lia | omega)) (by decide) (by decide)) fun t' k' => ?_
  rw [tx_mul]
  exact h t' k'
theorem csg_sgn (l : List Nat) : (csg l).1 = 1 ∨ (csg l).1 = -1 := by
  induction l with
  | nil => exact .inl rfl
  | cons x r =>
    by_cases h1 : x = 45
    · subst h1; exact .inr rfl
    · by_cases h2 : x = 43
      · subst h2; exact .inl rfl
      · left; simp [csg, h1, h2]
theorem val_le {l : List Nat} {v k : Int} (h : -k ≤ (csg l).1 * v ∧ (csg l).1 * v ≤ k) : v ≤ k := by
  rcases csg_sgn l with q | q <;> rw [q] at h <;> (first | lia | omega)
theorem noexp {A ds : List Nat} (h : A = ds ∨ A = ds ++ [46]) (hd : Dig ds) : ∀ x ∈ A, x ≠ 69 ∧ x ≠ 68 ∧ x ≠ 43 ∧ x ≠ 45 := by
  intro x hx
  have : (48 ≤ x ∧ x ≤ 57) ∨ x = 46 := by
    rcases h with rfl | rfl
    · exact .inl (hd x hx)
    · rcases List.mem_append.mp hx with q | q
      · exact .inl (hd x q)
      · exact .inr (List.mem_singleton.mp q)
  (first | lia | omega)
end
section
open PySem PySem.W PySem.Calls PyProof.Rows
structure LM where
  a : Nat
  d : Nat
  kt : Nat → Tok
  vt : Nat → Tok
noncomputable def LM.led (c : LM) (w : World) : List (Addr × Obj) :=
  [(c.a, instObj 364 c.d),
   (c.d, dictOf [⟨PyData.keyHash w.params (Str.ofString "width"), .str (Str.ofString "width") (c.kt 0), .int 16 (c.vt 0)⟩,
                 ⟨PyData.keyHash w.params (Str.ofString "real_digits"), .str (Str.ofString "real_digits") (c.kt 1), .int 9 (c.vt 1)⟩,
                 ⟨PyData.keyHash w.params (Str.ofString "double_digits"), .str (Str.ofString "double_digits") (c.kt 2), .int 12 (c.vt 2)⟩,
                 ⟨PyData.keyHash w.params (Str.ofString "top_exponent"), .str (Str.ofString "top_exponent") (c.kt 3), .int 99 (c.vt 3)⟩,
                 ⟨PyData.keyHash w.params (Str.ofString "steps"), .str (Str.ofString "steps") (c.kt 4), .int 1000000 (c.vt 4)⟩,
                 ⟨PyData.keyHash w.params (Str.ofString "continuations"), .str (Str.ofString "continuations") (c.kt 5), .int 19 (c.vt 5)⟩,
                 ⟨PyData.keyHash w.params (Str.ofString "columns"), .str (Str.ofString "columns") (c.kt 6), .int 72 (c.vt 6)⟩,
                 ⟨PyData.keyHash w.params (Str.ofString "depth"), .str (Str.ofString "depth") (c.kt 7), .int 40 (c.vt 7)⟩] 8)]
inductive K where
  | txt (V : List Nat)
  | pair (a b : List Nat)
  | run (a : List Nat)
noncomputable def K.IsO : K → Obj → Prop
  | .txt V, o => ∃ t0 t1 ep, o = { cls := .type "tuple", data := .seq #[.str (tx [116, 101, 120, 116]) t0, .str (tx V) t1] ep }
  | .pair a b, o => ∃ t0 t1 t2 ep, o = { cls := .type "tuple", data := .seq #[.str (tx [112, 97, 105, 114]) t0, .str (tx a) t1, .str (tx b) t2] ep }
  | .run a, o => ∃ t0 t1 ep, o = { cls := .type "tuple", data := .seq #[.str (tx [114, 117, 110]) t0, .str (tx a) t1] ep }
theorem K.cls {k : K} {o : Obj} (h : k.IsO o) : o.cls = .type "tuple" := by
  induction k
  · obtain ⟨_, _, _, rfl⟩ := h; rfl
  · obtain ⟨_, _, _, _, rfl⟩ := h; rfl
  · obtain ⟨_, _, _, rfl⟩ := h; rfl
theorem news_ne {g h : Heap} {L : Addr} {l : List (Addr × Obj)} (N : News g L h l) {a b : Nat} {o o' : Obj} {c c' : Value} (h1 : (a, o) ∈ l) (h2 : (b, o') ∈ l) (e1 : o.cls = c) (e2 : o'.cls = c') (hne : c ≠ c') : @Ne Nat a b := by
  intro q
  subst q
  have x := (N _ h1).1
  have y := (N _ h2).1
  dsimp only at x y
  rw [x] at y
  injection y with y
  rw [y] at e1
  exact hne (e1.symm.trans e2)
inductive Wt where
  | non
  | txt (l : List Nat)
  | int (n : Int)
  | bool (b : Bool)
  | real (m e : Int)
  | cplx (m1 e1 m2 e2 : Int)
noncomputable def Val (kind len : Int) : K → Wt → Prop
  | .txt V, .txt l => kind = 5 ∧ (0 ≤ len ∧ len ≤ 10) ∧ V.length ≤ 100 ∧ l = fit V len.toNat
  | .pair a b, .cplx m1 e1 m2 e2 => kind = 3 ∧ ∃ m e m' e', RealT a m e ∧ RealT b m' e' ∧ m1 = (sz m e).1 ∧ e1 = (sz m e).2 ∧ m2 = (sz m' e').1 ∧ e2 = (sz m' e').2
  | .run a, .int n => kind = 0 ∧ IntT a n
  | .run a, .bool b => kind = 4 ∧ LogT a b
  | .run a, .real m1 e1 => (kind = 1 ∨ kind = 2) ∧ ∃ m e, RealT a m e ∧ m1 = (sz m e).1 ∧ e1 = (sz m e).2
  | _, _ => False
noncomputable def IsW : Wt → Value → List (Addr × Obj) → Prop
  | .non, v, nx => v = .none ∧ nx = []
  | .txt l, v, nx => (∃ t, v = .str (tx l) t) ∧ nx = []
  | .int n, v, nx => (∃ t, v = .int n t) ∧ nx = []
  | .bool b, v, nx => v = .bool b ∧ nx = []
  | .real m e, v, nx => Two v m e nx
  | .cplx m1 e1 m2 e2, v, nx => ∃ a ep v1 v2 n1 n2, v = .ref a ∧ Two v1 m1 e1 n1 ∧ Two v2 m2 e2 n2 ∧ nx = (a, { cls := .type "tuple", data := .seq #[v1, v2] ep }) :: (n2 ++ n1)
theorem realT_ne {l : List Nat} {m e : Int} (h : RealT l m e) : l ≠ [] := by
  obtain ⟨A, c, B, ds, hsp, _⟩ := h
  rintro rfl
  induction A <;> obtain ⟨⟩ := hsp
noncomputable def dig (c : Nat) : Bool := decide (48 ≤ c ∧ c ≤ 57)
theorem fig_list : (PySem.Str.ofString "0123456789").cps.toList = [48, 49, 50, 51, 52, 53, 54, 55, 56, 57] := by decide +kernel
theorem rl_infig {prog : Program} {w : World} {A : Around} {E : Value → Shared → Prop} {s : Shared} {c : Nat} {t u : Tok} {Q : Value → Shared → Prop} (h : Q (.bool (dig c)) s) :
    wpAny (model prog w) A (compareOp .In (.str (tx [c]) t) (.str (PySem.Str.ofString "0123456789") u)) Q E s := by
  refine PyProof.Rows.in_str ?_
  have e : (!(PySem.Builtin.Str.occurrences (PySem.Str.ofString "0123456789") (tx [c]) 0 (PySem.Str.ofString "0123456789").length 1).isEmpty) = dig c := by
    rw [show tx [c] = ⟨#[c]⟩ from rfl, StrLaws.found_one, fig_list]
    unfold dig
    rw [decide_eq_decide]
    simp
    (first | lia | omega)
  rw [e]; exact h
noncomputable def rp (rest : List Nat) : Int × List Nat :=
  if rest.takeWhile dig ≠ [] ∧ (rest.dropWhile dig).take 1 = [42] then (valD (rest.takeWhile dig), (rest.dropWhile dig).drop 1) else (1, rest)
theorem tw_split {D : List Nat} {k : Nat} (h : D.takeWhile dig = D.take k ++ (D.drop k).takeWhile dig) (hk : k ≤ D.length) (hs : (D.drop k).takeWhile dig = []) :
    D.takeWhile dig = D.take k ∧ D.dropWhile dig = D.drop k := by
  rw [hs, List.append_nil] at h
  refine ⟨h, ?_⟩
  have a := List.takeWhile_append_dropWhile (p := dig) (l := D)
  rw [h] at a
  exact List.append_cancel_left (a.trans (List.take_append_drop k D).symm)
theorem tw_app {D tl : List Nat} (h : tl = [] ∨ ∃ r, tl = 10 :: r) : (D ++ tl).takeWhile dig = D.takeWhile dig ∧ (D ++ tl).dropWhile dig = D.dropWhile dig ++ tl := by
  induction D with
  | nil =>
    rcases h with rfl | ⟨r, rfl⟩
    · exact ⟨rfl, rfl⟩
    · exact ⟨rfl, rfl⟩
  | cons c D ih =>
    rw [List.cons_append, List.takeWhile_cons, List.takeWhile_cons, List.dropWhile_cons, List.dropWhile_cons]
    split
    · rw [ih.1]; exact ⟨rfl, ih.2⟩
    · exact ⟨rfl, rfl⟩
theorem tw_dig (D : List Nat) : Dig (D.takeWhile dig) := by
  induction D with
  | nil => intro c hc; obtain ⟨⟩ := hc
  | cons x D ih =>
    intro c hc
    rw [List.takeWhile_cons] at hc
    split at hc
    · rename_i hx
      rcases List.mem_cons.mp hc with rfl | q
      · exact of_decide_eq_true hx
      · exact ih c q
    · exact nomatch hc
theorem rp_no {rest : List Nat} (h : rest.takeWhile dig = [] ∨ (rest.dropWhile dig).take 1 ≠ [42]) : rp rest = (1, rest) := by
  unfold rp
  rw [if_neg]
  rintro ⟨a, b⟩
  rcases h with h | h
  · exact a h
  · exact h b
theorem rp_yes {rest : List Nat} (h : rest.takeWhile dig ≠ []) (h2 : (rest.dropWhile dig).take 1 = [42]) : rp rest = (valD (rest.takeWhile dig), (rest.dropWhile dig).drop 1) := by
  unfold rp
  rw [if_pos ⟨h, h2⟩]
theorem Rd.parts {c : RC} {σ : RS} {rest : List Nat} (h : Rd c σ rest) : ∃ tl, rest = σ.record.drop σ.col.toNat ++ tl ∧ (tl = [] ∨ ∃ r, tl = 10 :: r) ∧
    ∀ (p : Int) (t : Tok), 0 ≤ p → p ≤ σ.record.length → (σ.record.drop p.toNat ++ tl).length ≤ 1000000 → Rd c { σ with col := p, tcol := t } (σ.record.drop p.toNat ++ tl) := by
  refine ⟨_, h.rest_eq, ?_, fun p t h0 h1 h2 => ⟨h.ord, h.hst, h.fit, h.at0, h.at1, h0, h1, h.nl, h.len, h2, rfl⟩⟩
  induction hq : c.items.drop σ.at_.toNat with
  | nil => exact .inl rfl
  | cons v r => exact .inr ⟨_, rfl⟩
theorem rep_at {rec D : List Nat} {col p : Int} {k : Nat} (hD : rec.drop col.toNat = D) (hp : p = col + (k : Int)) (hc : 0 ≤ col) (h1 : p < rec.length) :
    ∃ hk : k < D.length, D[k] = rec.getD p.toNat 0 := by
  subst hD
  have hk : k < (rec.drop col.toNat).length := by rw [List.length_drop]; (first | lia | omega)
  refine ⟨hk, ?_⟩
  have e : p.toNat = col.toNat + k := by (first | lia | omega)
  have hl : p.toNat < rec.length := by (first | lia | omega)
  rw [List.getD_eq_getElem?_getD, List.getElem?_eq_getElem hl, List.getElem_drop]
  simp only [Option.getD_some, e]
theorem rep_go {rec D : List Nat} {col p : Int} {k : Nat} (hD : rec.drop col.toNat = D) (hp : p = col + (k : Int)) (hc : 0 ≤ col) (htw : D.takeWhile dig = D.take k ++ (D.drop k).takeWhile dig)
    (h1 : p < rec.length) (h2 : dig (rec.getD p.toNat 0) = true) : k + 1 ≤ D.length ∧ D.takeWhile dig = D.take (k + 1) ++ (D.drop (k + 1)).takeWhile dig := by
  obtain ⟨hk, hx⟩ := rep_at hD hp hc h1
  refine ⟨hk, ?_⟩
  rw [htw, List.drop_eq_getElem_cons hk, List.takeWhile_cons, hx, h2, if_pos rfl, ← hx, List.take_succ_eq_append_getElem hk, List.append_assoc]
  rfl
theorem rep_end {rec D : List Nat} {col p : Int} {k : Nat} (hD : rec.drop col.toNat = D) (hp : p = col + (k : Int)) (hc : 0 ≤ col) (h : ¬ p < rec.length ∨ dig (rec.getD p.toNat 0) = false) :
    (D.drop k).takeWhile dig = [] := by
  by_cases h1 : p < rec.length
  · obtain ⟨hk, hx⟩ := rep_at hD hp hc h1
    have h2 := h.resolve_left (fun q => q h1)
    rw [List.drop_eq_getElem_cons hk, List.takeWhile_cons, hx, h2]
    rfl
  · have : D.drop k = [] := List.drop_of_length_le (by rw [← hD, List.length_drop]; (first | lia | omega))
    rw [this]; rfl
theorem rep_ns {D tl : List Nat} (h : D.take 1 ≠ [42]) (htl : tl = [] ∨ ∃ r, tl = 10 :: r) : (D ++ tl).take 1 ≠ [42] := by
  induction D with
  | nil =>
    rcases htl with rfl | ⟨r, rfl⟩
    · exact fun h => nomatch h
    · intro q
      have := (List.cons.inj q).1
      (first | lia | omega)
  | cons x r => exact h
inductive Kon : List Nat → K → List Nat → Prop
  | txt {r0 V r : List Nat} (h : tq r0 = some (V, r)) (hs : sepB (sg r) = true) : Kon (39 :: r0) (.txt V) r
  | pair {r0 r3 r6 : List Nat} (h1 : ((r0.dropWhile (· == 32)).dropWhile fun c => !stopC 192 c).dropWhile gap = 44 :: r3)
    (h2 : r3.dropWhile gap ≠ []) (h3 : ((r3.dropWhile gap).dropWhile fun c => !stopC 192 c).dropWhile (· == 32) = 41 :: r6) (hs : sepB (sg r6) = true) :
    Kon (40 :: r0) (.pair ((r0.dropWhile (· == 32)).takeWhile fun c => !stopC 192 c) ((r3.dropWhile gap).takeWhile fun c => !stopC 192 c)) r6
  | run {y : List Nat} (h1 : sg y ≠ [39]) (h2 : sg y ≠ [40]) : Kon y (.run (y.takeWhile fun c => !stopC 191 c)) (y.dropWhile fun c => !stopC 191 c)
theorem sep_after : ∀ y : List Nat, sepB (sg (y.dropWhile fun c => !stopC 191 c)) = true
  | [] => rfl
  | x :: r => by
    rw [List.dropWhile_cons]
    by_cases h : (!stopC 191 x) = true
    · rw [if_pos h]; exact sep_after r
    · rw [if_neg h]
      simp only [Bool.not_eq_true, Bool.not_eq_false'] at h
      by_cases hx : x = 10
      · simp [sg, hx, sepB]
      · simp [stopC, hx, endB] at h
        simp [sg, hx, h]
structure PS where
  rest : List Nat
  beh : Bool
  don : Bool
  left : Int
  held : Option K
noncomputable def dropC (y : List Nat) : List Nat := if sg y = [44] then y.tail else y
noncomputable def Nf : Bool → List Nat → List Nat → Prop
  | false, rest, r1 => rest.dropWhile gap = r1 ∧ r1 ≠ []
  | true, rest, r1 => rest.dropWhile gap ≠ [] ∧ (dropC (rest.dropWhile gap)).dropWhile gap = r1 ∧ r1 ≠ []
inductive Nx : PS → Option K → PS → Prop
  | more {rest : List Nat} {beh don : Bool} {left : Int} {held : Option K} (h : 0 < left) : Nx ⟨rest, beh, don, left, held⟩ held ⟨rest, beh, don, left - 1, held⟩
  | don {rest : List Nat} {beh : Bool} {left : Int} {held : Option K} (h : left ≤ 0) : Nx ⟨rest, beh, true, left, held⟩ none ⟨rest, beh, true, left, held⟩
  | slash {rest r : List Nat} {beh : Bool} {left : Int} {held : Option K} (h : left ≤ 0) (hf : Nf beh rest (47 :: r)) : Nx ⟨rest, beh, false, left, held⟩ none ⟨47 :: r, false, true, left, held⟩
  | comma {rest r : List Nat} {beh : Bool} {left : Int} {held : Option K} (h : left ≤ 0) (hf : Nf beh rest (44 :: r)) : Nx ⟨rest, beh, false, left, held⟩ none ⟨r, false, false, left, held⟩
  | null {rest r1 y : List Nat} {beh : Bool} {left n : Int} {held : Option K} (h : left ≤ 0) (hf : Nf beh rest r1) (h1 : sg r1 ≠ [47]) (h2 : sg r1 ≠ [44]) (hn : rp r1 = (n, y)) (h0 : 1 ≤ n) (hs : sepB (sg y) = true) :
      Nx ⟨rest, beh, false, left, held⟩ none ⟨y, true, false, n - 1, none⟩
  | konst {rest r1 y r : List Nat} {beh : Bool} {left n : Int} {held : Option K} {k : K} (h : left ≤ 0) (hf : Nf beh rest r1) (h1 : sg r1 ≠ [47]) (h2 : sg r1 ≠ [44]) (hn : rp r1 = (n, y)) (h0 : 1 ≤ n) (hs : sepB (sg y) = false) (hk : Kon y k r) :
      Nx ⟨rest, beh, false, left, held⟩ (some k) ⟨r, true, false, n - 1, some k⟩
noncomputable def Hd : Option K → Value → List (Addr × Obj) → Prop
  | none, v, hs => v = .none ∧ hs = []
  | some k, v, hs => ∃ a o, v = .ref a ∧ k.IsO o ∧ hs = [(a, o)]
structure RdP (c : RC) (σ : RS) (P : PS) (hs : List (Addr × Obj)) : Prop where
  rd : Rd c σ P.rest
  beh : σ.beh = P.beh
  don : σ.don = P.don
  left : σ.left = P.left
  held : Hd P.held σ.held hs
inductive Out (left : Int) (held : Option K) : List Nat → Option K → PS → Prop
  | slash {r : List Nat} : Out left held (47 :: r) none ⟨47 :: r, false, true, left, held⟩
  | comma {r : List Nat} : Out left held (44 :: r) none ⟨r, false, false, left, held⟩
  | null {r1 y : List Nat} {n : Int} (h1 : sg r1 ≠ [47]) (h2 : sg r1 ≠ [44]) (hn : rp r1 = (n, y)) (h0 : 1 ≤ n) (hs : sepB (sg y) = true) : Out left held r1 none ⟨y, true, false, n - 1, none⟩
  | konst {r1 y r : List Nat} {n : Int} {k : K} (h1 : sg r1 ≠ [47]) (h2 : sg r1 ≠ [44]) (hn : rp r1 = (n, y)) (h0 : 1 ≤ n) (hs : sepB (sg y) = false) (hk : Kon y k r) : Out left held r1 (some k) ⟨r, true, false, n - 1, some k⟩
theorem nx_out {rest : List Nat} {beh : Bool} {left : Int} {held o : Option K} {P' : PS} (h : ¬ 0 < left) (hn : Nx ⟨rest, beh, false, left, held⟩ o P') : ∃ r1, Nf beh rest r1 ∧ Out left held r1 o P' := by
  obtain ⟨⟩ := hn
  case more => (first | lia | omega)
  case slash => exact ⟨_, by assumption, .slash⟩
  case comma => exact ⟨_, by assumption, .comma⟩
  case null => exact ⟨_, by assumption, .null (by assumption) (by assumption) (by assumption) (by assumption) (by assumption)⟩
  case konst => exact ⟨_, by assumption, .konst (by assumption) (by assumption) (by assumption) (by assumption) (by assumption) (by assumption)⟩
theorem nf_parts {beh : Bool} {rest r1 : List Nat} (h : Nf beh rest r1) : (beh = true → rest.dropWhile gap ≠ []) ∧ (if beh then dropC (rest.dropWhile gap) else rest).dropWhile gap = r1 ∧ r1 ≠ [] := by
  induction beh
  · exact ⟨(fun h => nomatch h), by simpa [Nf] using h⟩
  · exact ⟨fun _ => h.1, by simpa [Nf] using h.2⟩
theorem Rd.left {c : RC} {rec : List Nat} {trec : Tok} {col : Int} {tcol : Tok} {left : Int} {tleft : Tok} {held : Value} {beh don : Bool} {at_ : Int} {tat : Tok} {rest : List Nat}
    (h : Rd c ⟨rec, trec, col, tcol, left, tleft, held, beh, don, at_, tat⟩ rest) (l : Int) (t : Tok) : Rd c ⟨rec, trec, col, tcol, l, t, held, beh, don, at_, tat⟩ rest :=
  ⟨h.ord, h.hst, h.fit, h.at0, h.at1, h.col0, h.col1, h.nl, h.len, h.tot, h.rest_eq⟩
theorem Rd.set {c : RC} {σ : RS} {rest : List Nat} (h : Rd c σ rest) (l : Int) (t : Tok) (v : Value) (b d : Bool) : Rd c { σ with left := l, tleft := t, held := v, beh := b, don := d } rest :=
  ⟨h.ord, h.hst, h.fit, h.at0, h.at1, h.col0, h.col1, h.nl, h.len, h.tot, h.rest_eq⟩
theorem item_step {c : RC} {σ σ' : RS} {P P' : PS} {o : Option K} {v : Value} {hs hs' : List (Addr × Obj)} (hh : Hd P.held σ.held hs) (hR : Rd c σ' P'.rest) (hb : σ'.beh = P'.beh) (hd : σ'.don = P'.don) (hl : σ'.left = P'.left)
    (hh' : (hs' = [] ∧ σ'.held = σ.held ∧ P'.held = P.held) ∨ Hd P'.held σ'.held hs') (hv : (o = none ∧ v = .none) ∨ (o = P'.held ∧ v = σ'.held)) :
    ∃ hs2, RdP c σ' P' hs2 ∧ (o = none → v = .none) ∧ (∀ k, o = some k → ∃ a ob, v = .ref a ∧ k.IsO ob ∧ hs2 = [(a, ob)]) ∧ (∀ p ∈ hs2, p ∈ hs' ∨ p ∈ hs) ∧ (hs2 = [] ∨ ∃ a ob, hs2 = [(a, ob)]) := by
  have key : ∃ hs2, Hd P'.held σ'.held hs2 ∧ (∀ p ∈ hs2, p ∈ hs' ∨ p ∈ hs) := by
    rcases hh' with ⟨_, e1, e2⟩ | h
    · exact ⟨hs, by rw [e1, e2]; exact hh, fun p hp => .inr hp⟩
    · exact ⟨hs', h, fun p hp => .inl hp⟩
  obtain ⟨hs2, h2, hm⟩ := key
  refine ⟨hs2, ⟨hR, hb, hd, hl, h2⟩, ?_, ?_, hm, ?_⟩
  · rintro rfl
    rcases hv with ⟨_, e⟩ | ⟨e, e2⟩
    · exact e
    · rw [← e] at h2
      rw [e2]; exact h2.1
  · rintro k rfl
    rcases hv with ⟨e, _⟩ | ⟨e, e2⟩
    · obtain ⟨⟩ := e
    · rw [← e] at h2
      obtain ⟨a, ob, q1, q2, q3⟩ := h2
      exact ⟨a, ob, e2.trans q1, q2, q3⟩
  · induction hk : P'.held with
    | none => rw [hk] at h2; exact .inl h2.2
    | some k => rw [hk] at h2; obtain ⟨a, ob, _, _, e⟩ := h2; exact .inr ⟨a, ob, e⟩
end
section
open PySem PySem.W PySem.Calls PyProof.Rows
open PySem.Sem (wp)
noncomputable def HasD (h : Heap) (e d : Addr) : Prop := ∃ o, h.get? e = some o ∧ o.dict = some d
noncomputable def Kp {α : Type} (e d : Addr) (t : Sem α) : Prop :=
  ∀ (M : Model) (Γ : Ctx) (Q : α → Pos → Shared → Prop) (E : Value → Pos → Shared → Prop) (p : Pos) (s : Shared), HasD s.heap e d → wp M Γ t Q E p s →
    wp M Γ t (fun a p' s' => Q a p' s' ∧ HasD s'.heap e d) (fun x p' s' => E x p' s' ∧ HasD s'.heap e d) p s
section
variable {α β : Type} {e d : Addr}
theorem kp_pure (a : α) : Kp e d (pure a) := fun M Γ Q E p s h w => by
  rw [Sem.wp_pure'] at w ⊢
  exact ⟨w, h⟩
theorem kp_bind {m : Sem α} {f : α → Sem β} (hm : Kp e d m) (hf : ∀ a, Kp e d (f a)) : Kp e d (m >>= f) := fun M Γ Q E p s h w => by
  rw [Sem.wp_bind'] at w ⊢
  exact Sem.wp_mono M Γ m (fun a p' s' q => hf a M Γ Q E p' s' q.2 q.1) (fun x p' s' q => q) p s (hm M Γ _ _ p s h w)
theorem kp_uns (w : String) : Kp e d (unsupported w : Sem α) := fun M Γ Q E p s h w => by
  unfold unsupported at w
  rw [Sem.wp_unsupported] at w
  exact w.elim
theorem kp_load (a : Addr) : Kp e d (load a) := fun M Γ Q E p s h w => by
  unfold load at w ⊢
  rw [Sem.wp_load] at w ⊢
  obtain ⟨o, ho, w⟩ := w
  rw [Sem.wp_pure] at w
  exact ⟨o, ho, by rw [Sem.wp_pure]; exact ⟨w, h⟩⟩
theorem kp_stack : Kp e d stack := fun M Γ Q E p s h w => by
  unfold stack at w ⊢
  rw [Sem.wp_stack, Sem.wp_pure] at w ⊢
  exact ⟨w, h⟩
theorem kp_alloc (o : Obj) : Kp e d (alloc o) := fun M Γ Q E p s h w => by
  unfold alloc at w ⊢
  rw [Sem.wp_alloc, Sem.wp_pure] at w ⊢
  obtain ⟨oe, h1, h2⟩ := h
  exact ⟨w, oe, Heap.get?_push_of_some _ h1, h2⟩
theorem kp_update (a : Addr) (f : Obj → Obj) (hf : ∀ o, (f o).dict = o.dict ∧ (o.isFreed = false → (f o).isFreed = false)) : Kp e d (PySem.update a f) := fun M Γ Q E p s h w => by
  unfold PySem.update at w ⊢
  rw [Sem.wp_update, Sem.wp_pure] at w ⊢
  obtain ⟨oe, h1, h2⟩ := h
  refine ⟨w.1, w.2, ?_⟩
  by_cases hae : a = e
  · subst hae
    exact ⟨f oe, Heap.get?_update_self f h1 ((hf oe).2 (Heap.get?_some_iff.mp h1).2), (hf oe).1.trans h2⟩
  · exact ⟨oe, (Heap.get?_update_other _ _ hae).trans h1, h2⟩
theorem map_dict (g : Array Value → Array Value) (o : Obj) : (Obj.mapFields g o).dict = o.dict ∧ (o.isFreed = false → (Obj.mapFields g o).isFreed = false) := by
  obtain ⟨c, dd, data, sl⟩ := o
  induction data <;> exact ⟨rfl, fun h => h⟩
theorem kp_wp {A : Around} {M : Model} {t : Sem α} {Q : α → Shared → Prop} {E : Value → Shared → Prop} {s : Shared} (k : Kp e d t) (h : HasD s.heap e d) (w : wpAny M A t Q E s) :
    wpAny M A t (fun a s' => Q a s' ∧ HasD s'.heap e d) (fun x s' => E x s' ∧ HasD s'.heap e d) s :=
  fun Γ p hΓ => k M Γ _ _ p s h (w Γ p hΓ)
end
section
variable {e d : Addr}
theorem kp_fieldsOf (v : Value) : Kp e d (fieldsOf v) := by
  unfold fieldsOf
  split
  · refine kp_bind (kp_load _) fun o => ?_
    split
    · exact kp_pure _
    · exact kp_uns _
  · exact kp_uns _
theorem kp_field (v : Value) (i : Nat) : Kp e d (field v i) := by
  unfold field
  refine kp_bind (kp_fieldsOf v) fun o => ?_
  split
  · exact kp_pure _
  · exact kp_uns _
theorem kp_setField (v : Value) (i : Nat) (x : Value) : Kp e d (setField v i x) := by
  unfold setField updateField
  split
  · refine kp_bind (kp_load _) fun o => ?_
    split
    · split
      · exact kp_update _ _ (map_dict _)
      · exact kp_uns _
    · exact kp_uns _
  · exact kp_uns _
theorem kp_setFlight (v : Value) (f : Option Addr) : Kp e d (setFlight v f) := by
  unfold setFlight
  refine kp_bind (kp_field _ _) fun tb => ?_
  split
  · exact kp_setField _ _ _
  · exact kp_pure _
theorem kp_imp (env : Env) (outer : List Env) : Kp e d (behindIsImport env outer) := by
  unfold behindIsImport
  split
  · exact kp_pure _
  · split
    · exact kp_pure _
    · exact kp_bind (kp_field _ _) fun _ => kp_pure _
theorem kp_back (env : Env) (b : Bool) (outer : List Env) : Kp e d (keptBack env b outer) := by
  unfold keptBack underTheClaimsCaller
  split
  · split
    · exact kp_pure _
    · exact kp_bind (kp_bind kp_stack fun _ => kp_pure _) fun _ => kp_pure _
  · exact kp_pure _
theorem kp_ready : ∀ l : List Env, Kp e d (readyFrames l)
  | [] => kp_pure _
  | env :: outer => by
    unfold readyFrames
    split
    · refine kp_bind (kp_load _) fun o => ?_
      split
      · exact kp_pure _
      · refine kp_bind (kp_imp _ _) fun _ => kp_bind (kp_back _ _ _) fun _ => kp_bind (kp_update _ _ fun o => ⟨rfl, by obtain ⟨_, _, dt, _⟩ := o; induction dt <;> exact fun h => h⟩) fun _ => kp_ready outer
    · exact kp_uns _
theorem kp_frameOf (env : Env) : Kp e d (PySem.frameOf env) := by
  unfold PySem.frameOf frameEnvs frameObject
  refine kp_bind (kp_bind kp_stack fun _ => kp_pure _) fun _ => kp_bind ?_ fun r => ?_
  · split
    · exact kp_pure _
    · exact kp_bind (kp_ready _) fun _ => kp_pure _
  · split
    · exact kp_pure _
    · exact kp_uns _
theorem kp_entryPlace (f : Addr) (b : Bool) : Kp e d (entryPlaceOf f b) := by
  unfold entryPlaceOf
  refine kp_bind kp_stack fun _ => ?_
  split <;> exact kp_pure _
theorem kp_newEntry (a b c x y : Value) (l : List Value) : Kp e d (EntryCells.newEntry a b c x y l) := by
  unfold EntryCells.newEntry newFields newObj newObjAsIs
  repeat' (first | exact kp_pure _ | exact kp_uns _ | exact kp_alloc _ | refine kp_bind ?_ (fun _ => ?_) | contradiction | split)
theorem kp_note (v : Value) (env : Env) : Kp e d (noteFrame v env) := by
  unfold noteFrame
  split
  · refine kp_bind (kp_field _ _) fun head => ?_
    have fin : Kp e d (do setField v 1 (← EntryCells.newEntry head (← PySem.frameOf env) .none (rawInt (‹Addr›)) .none (← entryPlaceOf (‹Addr›) (head != .none)))) :=
      kp_bind (kp_frameOf _) fun _ => kp_bind (kp_entryPlace _ _) fun _ => kp_bind (kp_newEntry _ _ _ _ _ _) fun _ => kp_setField _ _ _
    split
    · refine kp_bind (kp_field _ _) fun _ => ?_
      split
      · exact kp_pure _
      · exact kp_bind (kp_setField _ _ _) fun _ => fin
    · exact fin
  · exact kp_uns _
theorem kp_leaving (env : Env) (v : Value) : Kp e d (leaving env v) := by
  unfold leaving
  exact kp_bind (kp_note _ _) fun _ => kp_setFlight _ _
end
noncomputable def DM (d : Addr) (od : Obj) (mA : Str → Option Value) : Prop := ∀ h : Heap, h.get? d = some od → h.Ns1 d mA
noncomputable def ExD (d : Addr) (od : Obj) : Prop := ∃ mA, DM d od mA ∧ ∃ tk, mA (Str.ofString "code") = some (.int (-1) tk)
noncomputable def FlyD (base : Heap) (l : List Env) (e d : Addr) (h : Heap) : Prop :=
  ∃ B t od, base.StaysIn B ∧ B.get? d = some od ∧ base.get? d = none ∧ ExD d od ∧ Heap.FlyingW B l e (.ref 82) (.ref t) h ∧ HasD h e d
section
variable {M : Model} {A : Around} {E : Value → Shared → Prop} {s' : Shared} {base g h : Heap} {outer : List Env} {L a e d : Addr} {m : Str → Option Value} {name : Str} {scope : Scope} {cd : Value} {Q : Unit → Shared → Prop} {w : World}
theorem leave_D (K : A.frames = some outer) (R : FlyD base (envOf name scope L a cd :: outer) e d s'.heap) (hsm : g.UpToSlots s'.heap)
    (hQ : ∀ h', FlyD base outer e d h' → g.UpToSlots h' → Q () { s' with heap := h' }) :
    wpAny M (A.deeper (envOf name scope L a cd)) (leaving (envOf name scope L a cd) (.ref e)) Q E s' := by
  obtain ⟨B, t, od, h1, h2, h3, h4, h5, h6⟩ := R
  have q := wpAny_leaves_onW (M := M) (E := fun _ _ => False) (Q := fun _ s'' => ∃ h', s'' = { s' with heap := h' } ∧ Heap.FlyingW B outer e (.ref 82) (.ref t) h' ∧ s'.heap.UpToSlots h')
    (Around.frames_deeper (env := envOf name scope L a cd) K) rfl h5 fun h' x1 x2 => ⟨h', rfl, x1, x2⟩
  refine wpAny_mono (kp_wp (kp_leaving _ _) h6 q) ?_ fun _ _ x => x.1.elim
  rintro _ s'' ⟨⟨h', rfl, x1, x2⟩, x3⟩
  exact hQ h' ⟨B, t, od, h1, h2, h3, h4, x1, x3⟩ (hsm.trans x2)
theorem leave_first {news : List (Addr × Obj)} {od : Obj} {vs : Array Value} {sl : Array (Option Value)} {t : Addr} (K : Below A base outer g) (F : Fr g L s'.heap m) (N : News g L s'.heap news)
    (he : (e, ⟨.ref 82, some d, .fields vs, sl⟩) ∈ news) (hd : (d, od) ∈ news) (hod : ExD d od) (hed : d ≠ e) (h0 : vs[0]? = some (.ref t)) (h1 : vs[1]? = some .none) (hk : scope.kind = .function := by rfl)
    (hQ : ∀ h', FlyD base outer e d h' → g.UpToSlots h' → Q () { s' with heap := h' }) :
    wpAny M (A.deeper (envOf name scope L a cd)) (leaving (envOf name scope L a cd) (.ref e)) Q E s' := by
  have K' := K.push (name := name) (a := a) (cd := cd) F hk
  have hin : ∀ env ∈ (envOf name scope L a cd :: outer), ∀ b, env.frame = some b → b ∈ e :: (envOf name scope L a cd :: outer).filterMap (·.frame) := fun env he b hb => .tail _ (List.mem_filterMap.mpr ⟨env, he, hb⟩)
  have hbe : base.get? e = none := fresh_of_stays K.stays (N _ he).2.2
  have hne : ∀ q ∈ news, q.1 ∉ (envOf name scope L a cd :: outer).filterMap (·.frame) := fun q hq hm => by
    obtain ⟨env, he, hf⟩ := List.mem_filterMap.mp hm
    rcases List.mem_cons.mp he with rfl | he
    · exact (N q hq).2.1 (Option.some.inj hf).symm
    · obtain ⟨o, ho, _⟩ := (K.frames.mem (List.mem_filterMap.mpr ⟨env, he, hf⟩)).2
      rw [(N q hq).2.2] at ho; exact nomatch ho
  have st : base.StaysIn (hideAll s'.heap (e :: (envOf name scope L a cd :: outer).filterMap (·.frame))) := fun b o q => hideAll_get _ (K'.stays b o q) fun hm => by
    rcases List.mem_cons.mp hm with rfl | hm
    · rw [hbe] at q; exact nomatch q
    · rw [(K'.frames.mem hm).1] at q; exact nomatch q
  have hdB : (hideAll s'.heap (e :: (envOf name scope L a cd :: outer).filterMap (·.frame))).get? d = some od := hideAll_get _ (N _ hd).1 fun hm => by
    rcases List.mem_cons.mp hm with q | hm
    · exact hed q
    · exact hne _ hd hm
  have q := wpAny_leaving_firstW (M := M) (A := A.deeper (envOf name scope L a cd)) (E := fun _ _ => False) (s := s') (base := hideAll s'.heap (e :: (envOf name scope L a cd :: outer).filterMap (·.frame)))
    (Q := fun _ s'' => ∃ h', s'' = { s' with heap := h' } ∧ Heap.LeftW (hideAll s'.heap (e :: (envOf name scope L a cd :: outer).filterMap (·.frame))) (envOf name scope L a cd :: outer) e (.ref 82) (.ref t) s'.heap h')
    K'.stack (funFrames_hide K'.frames hin) rfl (N _ he).1 (fun b o q => of_hideAll _ q) (hideAll_none _ (.head _)) rfl h1 h0 fun h' x => ⟨h', rfl, x⟩
  refine wpAny_mono (kp_wp (d := d) (kp_leaving _ _) ⟨_, (N _ he).1, rfl⟩ q) ?_ fun _ _ x => x.1.elim
  rintro _ s'' ⟨⟨h', rfl, k1, ⟨_, _, k2⟩, k3, k4⟩, x3⟩
  exact hQ h' ⟨_, t, od, st, hdB, fresh_of_stays K.stays (N _ hd).2.2, hod, ⟨k1, hideAll_none _ (.head _), k2, k3⟩, x3⟩ ((Heap.UpToSlots.of_keeps F.keep).trans k4)
end
noncomputable def ConX (prog : Program) (w : World) (f : Addr) (args : List Value) (dq uq : Nat) (muts : List (Addr × Obj)) : Prop :=
  ∀ (mean : ExcName → Option Value) (mg mb : Str → Option Value) (dp un : Nat) (gd : Option (List Code)) (base g : Heap) (outer : List Env) (s : Shared) (R : Result → Shared → Prop),
    Cx w mean mg mb (aT dp un gd outer) base outer g s.heap → Led g s.heap muts → dp + dq < recursionLimit → un + uq < cLine →
    (∀ e d h' tk', FlyD base outer e d h' → g.UpToSlots h' → R (.error (.ref e)) { s with heap := h', toks := tk' }) →
    codeAny (model prog w) (aT dp un gd outer) (.call (.ref f) ⟨args, []⟩) R s
theorem con_callX {prog : Program} {w : World} {f : Addr} {args : List Value} {dq uq : Nat} {muts : List (Addr × Obj)}
    {mean : ExcName → Option Value} {mg mb : Str → Option Value} {dp un : Nat} {gd : Option (List Code)} {base g : Heap} {outer : List Env} {L a : Addr} {m : Str → Option Value} {cn : Str} {cs : Scope} {ccd : Value} {news : List (Addr × Obj)} {s : Shared} {Q : Value → Shared → Prop} {E : Value → Shared → Prop}
    (C : ConX prog w f args dq uq muts) (B : Below (aT dp un gd outer) base outer g) (F : Fr g L s.heap m) (N : News g L s.heap news) (X : (Mine.kk.heap_1 w.params).In g)
    (T : Top Mine.view (looseW Mine.view []) mean mg mb g) (hs : ∀ p ∈ muts, p ∈ news) (hd : dp + 1 + dq < recursionLimit) (hu : un + 3 + uq < cLine)
    (k : ∀ e d h' tk', FlyD base (envOf cn cs L a ccd :: outer) e d h' → g.UpToSlots h' → (∃ g2, Fr g L g2 m ∧ g2.UpToSlots h') → E (.ref e) { s with heap := h', toks := tk' })
    (hck : cs.kind = .function := by rfl) :
    wpAny (model prog w) ((aT dp un gd outer).deeper (envOf cn cs L a ccd)) (call (.ref f) args) Q E s := by
  obtain ⟨g2, C2, N2, st, _, hF2, _, _⟩ := ground_M (w := w) (a := a) (cn := cn) (cs := cs) (ccd := ccd) muts B F N X T hs hck
  refine wpAny_call (C mean mg mb (dp + 1) (un + 3) gd base g2 (envOf cn cs L a ccd :: outer) s _ C2 N2 hd hu fun e d h' tk' k1 k2 => ?_)
  exact k e d h' tk' k1 ((Heap.UpToSlots.of_keeps st).trans k2) ⟨g2, hF2, k2⟩
end
section
open PySem PySem.W PySem.Calls PyProof.Rows
open PySem PySem.W PySem.Calls PyProof.Rows Builtin Builtin.ObjectAttr
example : ∀ (w : World), (Mine.kk.heap_1 w.params).In default → PySem.Challenge.rw_no0260_01 = PySem.Challenge.rw_no0260_01 → True := by
  k_fill
  intros; trivial

noncomputable abbrev bm82 : List Value := [.ref 63, .ref 31, .type "Exception", .type "BaseException", .type "object"]
noncomputable abbrev exO (d : Option Addr) (t : Addr) : Obj := { cls := .ref 82, dict := d, data := .fields #[.ref t, .none, .none, .none, .bool false, .none] }
theorem c82 (w : World) : ∃ nm q k0 k1 k2 k3 k5, (Mine.kk.heap_1 w.params).lookup 82 = some (excClassObj nm q 82 81 [.ref 63] bm82 true [] [] false none none k0 k1 k2 k3 k5 "Exception.__new__") := ⟨_, _, _, _, _, _, _, by k_is⟩
theorem m82 (w : World) : (clsIn (Mine.kk.heap_1 w.params) 82).map (·.mro) = some (.ref 82 :: bm82) := by
  have : ∃ cd, clsIn (Mine.kk.heap_1 w.params) 82 = some cd ∧ cd.mro = .ref 82 :: bm82 := ⟨_, by k_is, rfl⟩
  obtain ⟨cd, h, e⟩ := this
  rw [h, ← e]; rfl
theorem dm_of {h : Heap} {d : Addr} {od : Obj} {mA : Str → Option Value} (e : h.get? d = some od) (n : h.Ns1 d mA) : DM d od mA := fun h' e' => n.at (h' := h') fun o q => by rw [e] at q; obtain rfl := Option.some.inj q; exact e'
section
variable {prog : Program} {w : World} {A : Around} {E : Value → Shared → Prop} {s : Shared} {h₀ : Heap} {L e t : Addr} {m : Str → Option Value} {rest : List (Addr × Obj)} {name : Str} {v : Value}
theorem put_in {d : Addr} {od : Obj} {mA : Str → Option Value} {ns : List Str} {tk : Tok} {Q : Fin → Shared → Prop} (F : Fr h₀ L s.heap m) (N : News h₀ L s.heap rest) (hm : (d, od) ∈ rest) (D : DM d od mA)
    (hw : Within mA ns) (hsz : ns.length ≤ sizeLine)
    (h : ∀ h' tk' od', Fr h₀ L h' m → (∀ p ∈ rest, p.1 ≠ d → h'.get? p.1 = some p.2) → (h'.get? d = some od') → DM d od' (fun y => if y = name then some v else mA y) → Q (.done (.ret .none)) { s with heap := h', toks := tk' }) :
    wpAny (model prog w) A (storeInDict d (.str name tk) name v) Q E s := by
  unfold storeInDict newKeyGuard
  refine wpAny_bind (wpAny_pure (wpAny_bind (wpAny_nsSet1 (D _ (N _ hm).1) fun h' hn' hs => ?_)))
  obtain ⟨oD, esD, epD, hoD, hdD, hcD⟩ := hn'.count (Within.cons name v hw)
  refine wpAny_bind (wpAny_lookBehind hoD (by rw [hdD]; exact pastItsLine_dict (Nat.le_trans hcD (by rw [List.length_cons]; (first | lia | omega)))) ?_)
  refine wpAny_pure ?_
  obtain ⟨oL, es, ep, hL, r⟩ := F.ns
  refine h h' _ oD ⟨⟨oL, es, ep, (hs.2 L (Ne.symm (N _ hm).2.1)).trans hL, r⟩, fun b o q => (hs.2 b fun z => ?_).trans (F.keep b o q), F.above⟩ (fun p hp hne => (hs.2 p.1 hne).trans (N p hp).1) hoD (dm_of hoD hn')
  have := (N _ hm).2.2
  rw [← z, q] at this; exact nomatch this
theorem saX_open {d : Option Addr} {tk : Tok} {R : Result → Shared → Prop} (X : (Mine.kk.heap_1 w.params).In s.heap) (hx : s.heap.get? e = some (exO d t)) (ht : takerIn (Mine.kk.heap_1 w.params) 82 name = some none)
    (h : ∀ b, wpAny (model prog w) A.in1 (storeInOwnDict (.ref e) (.ref 82) (.str name tk) name v b)
      (fun fin s' => match fin with | .done f => R (.ok f) s' | .again c' => c'.quiet = true ∧ codeAny (model prog w) A c' R s') (fun e s' => R (.error e) s') s) :
    codeAny (model prog w) A (.call (.builtin "object.__setattr__") ⟨[.ref e, .str name tk, v], []⟩) R s := by
  have SF := PySem.F.store_object
  have I : Looks (model prog w) s.heap (typeOf (.ref e)) (.ref 82) := (Looks.ld hx).andThen .now
  obtain ⟨cd, hc, hmro⟩ := Option.map_eq_some_iff.mp (m82 w)
  have sub : Looks (model prog w) s.heap (isInstance (.ref e) (.type "object")) true := I.andThen (looks_mroIn X (by k_is))
  refine codeAny_call_builtin SF.slot.plain SF.entry (@check_slot (model prog w) _ _ s "object.__setattr__" "object" "__setattr__" (.ref e) [.str name tk, v] [] _ SF.kind SF.split sub (SF.args (.ref e) (.str name tk) v) ?_)
  obtain ⟨attr, ha, hr⟩ := Option.bind_eq_some_iff.mp ht
  have hm : Looks (model prog w) s.heap (mroOf (.ref 82)) (.ref 82 :: bm82) := hmro ▸ (looks_clsIn X hc).andThen .now
  have L3 : Looks (model prog w) s.heap (storeTaker? attr) none := by
    induction attr with
    | none => exact .now
    | some a =>
      obtain ⟨b, hb, q⟩ := Option.map_eq_some_iff.mp hr
      refine (looks_takesIn X hb).andThen ?_
      induction b
      · exact .now
      · obtain ⟨⟩ := q
  rw [osa_eq, refuse_eq]
  refine wpAny_bind (wpAny_bind (I.here (wpAny_bind (hm.here ?_))))
  rw [refuseLoop_ref, refuseLoop_ref, refuseLoop_ref, PySem.F.store_Exception.passes]
  refine wpAny_pure (wpAny_bind (I.here (wpAny_bind ((looks_findIn X ha).here (wpAny_bind (L3.here ?_))))))
  exact h _
theorem sa82 (w : World) : findIn (Mine.kk.heap_1 w.params) (.ref 82) "__setattr__" = some (some (.builtin "object.__setattr__")) := by k_is
theorem hd82 (w : World) : ∃ cd, clsIn (Mine.kk.heap_1 w.params) 82 = some cd ∧ cd.hasDict = true := ⟨_, by k_is, rfl⟩
theorem setX_next {d : Addr} {od : Obj} {mA : Str → Option Value} {ns : List Str} {Q : Unit → Shared → Prop} (F : Fr h₀ L s.heap m) (N : News h₀ L s.heap rest) (X₀ : (Mine.kk.heap_1 w.params).In h₀) (ht : takerIn (Mine.kk.heap_1 w.params) 82 name = some none)
    (hx : (e, exO (some d) t) ∈ rest) (hm : (d, od) ∈ rest) (D : DM d od mA) (hw : Within mA ns) (hsz : ns.length ≤ sizeLine)
    (h : ∀ h' tk' od', Fr h₀ L h' m → (∀ p ∈ rest, p.1 ≠ d → h'.get? p.1 = some p.2) → (h'.get? d = some od') → DM d od' (fun y => if y = name then some v else mA y) → Q () { s with heap := h', toks := tk' }) :
    wpAny (model prog w) A (setAttr (.ref e) name v) Q E s := by
  have X := X₀.keeps F.keep
  have hx' := (N _ hx).1
  obtain ⟨cd, hc, hd'⟩ := hd82 w
  refine set_plain (ox := exO (some d) t) (od := some od) X ⟨hx', rfl, rfl, (N _ hm).1⟩ (sa82 w) (saX_open (s := { s with toks := s.toks + 1 }) X hx' ht fun b => ?_)
  refine wpAny_bind (wpAny_pure (wpAny_bind (wpAny_bind (wpAny_loadPart (s := { s with toks := s.toks + 1 }) hx' (wpAny_bind (looks_clsIn X hc _ _ _ _ (fun _ _ e => e) ?_))))))
  rw [hd']
  refine wpAny_pure (a := some d) ?_
  exact put_in (s := { s with toks := s.toks + 1 }) F N hm D hw hsz fun h' tk' od' F' k1 k2 D' => h h' tk' od' F' k1 k2 D'
theorem setX_first {Q : Unit → Shared → Prop} (F : Fr h₀ L s.heap m) (N : News h₀ L s.heap ((e, exO none t) :: rest)) (hre : ∀ p ∈ rest, p.1 ≠ e) (X₀ : (Mine.kk.heap_1 w.params).In h₀) (ht : takerIn (Mine.kk.heap_1 w.params) 82 name = some none)
    (h : ∀ h' tk' d od, Fr h₀ L h' m → News h₀ L h' ((e, exO (some d) t) :: (d, od) :: rest) → DM d od (fun y => if y = name then some v else none) → (∀ p ∈ rest, p.1 < d) → e < d → Q () { s with heap := h', toks := tk' }) :
    wpAny (model prog w) A (setAttr (.ref e) name v) Q E s := by
  have X := X₀.keeps F.keep
  have hx' := (N _ (.head _)).1
  obtain ⟨cd, hc, hd'⟩ := hd82 w
  refine set_plain (ox := exO none t) (od := none) X ⟨hx', rfl, rfl, trivial⟩ (sa82 w) (saX_open (s := { s with toks := s.toks + 1 }) X hx' ht fun b => ?_)
  refine wpAny_bind (wpAny_pure (wpAny_bind (wpAny_bind (wpAny_loadPart (s := { s with toks := s.toks + 1 }) hx' (wpAny_bind (looks_clsIn X hc _ _ _ _ (fun _ _ e => e) ?_))))))
  rw [hd']
  refine wpAny_bind (wpAny_alloc' ?_)
  have hes : e < s.heap.objs.size := Heap.lt_size hx'
  have N1 := N.push F emptyDict
  obtain ⟨F2, N2⟩ := news_upd (d := e) (o := exO none t) (o' := exO (some s.heap.objs.size) t) (f := fun o => { o with dict := some s.heap.objs.size }) (pre := [(s.heap.objs.size, emptyDict)]) (post := rest) (F.push emptyDict) N1
    (fun p hp => by rw [List.mem_singleton.mp hp]; exact Nat.ne_of_gt hes) hre rfl rfl
  refine wpAny_bind (wpAny_update' (N1 _ (.tail _ (.head _))).1 ?_)
  refine wpAny_pure (a := some s.heap.objs.size) ?_
  have D0 : DM s.heap.objs.size emptyDict (fun _ => none) := fun h'' e'' => Heap.Ns1.of_empty ⟨_, #[], _, e'', rfl, fun e he => absurd he (by simp), fun _ => rfl⟩
  refine put_in (s := { s with heap := _, toks := s.toks + 1 }) F2 N2 (.head _) D0 Within.nil (Nat.zero_le _) fun h' tk' od' F' k1 k2 D' => ?_
  refine h h' tk' s.heap.objs.size od' F' (fun p hp => ?_) D' (fun p hp => Heap.lt_size (N p (.tail _ hp)).1) hes
  rcases List.mem_cons.mp hp with rfl | hp
  · exact ⟨k1 (e, exO (some s.heap.objs.size) t) (.tail _ (.head _)) (Nat.ne_of_lt hes), (N _ (.head _)).2⟩
  rcases List.mem_cons.mp hp with rfl | hp
  · exact ⟨k2, (N2 _ (.head _)).2⟩
  · exact ⟨k1 p (.tail _ (.tail _ hp)) (Nat.ne_of_lt (Heap.lt_size (N p (.tail _ hp)).1)), (N p (.tail _ hp)).2⟩
theorem check_initX {M : Model} {oe : Obj} {hp : Heap} {g : Array GenState} {dw : Drawn} {tk : Nat} {os : OsState} {Q : Unit → Shared → Prop} (X : (Mine.kk.heap_1 w.params).In hp) (he : hp.get? e = some oe) (hcls : oe.cls = .ref 82) (hq : Q () ⟨hp, g, dw, tk, os⟩) :
    wpAny M A (checkBuiltinCall "Exception.__init__" ⟨[.ref e, v], []⟩) Q E ⟨hp, g, dw, tk, os⟩ := by
  have FX := PySem.F.excBase_Exception
  obtain ⟨nm, q, k0, k1, k2, k3, k5, hl⟩ := c82 w
  have hC := X _ _ hl
  have hcB : (Value.ref 82 :: bm82).contains (.type "Exception") = true := by decide +kernel
  have hshort := FX.noStar
  simp only [checkBuiltinCall, FX.initKind, FX.initSplit, FX.initRow]
  repeat (first | (with_reducible refine wpAny_loadPart_at he ?_; rw [hcls]) | with_reducible refine wpAny_loadPart_at hC ?_ | (with_reducible refine wpAny_isSubtype_exc hC ?_; rw [hcB]) | wp_step)
  exact hq
theorem initX {d : Option Addr} {Q : Value → Shared → Prop} (F : Fr h₀ L s.heap m) (N : News h₀ L s.heap ((e, exO d t) :: rest)) (hre : ∀ p ∈ rest, p.1 ≠ e) (X₀ : (Mine.kk.heap_1 w.params).In h₀)
    (h : ∀ h' t', Fr h₀ L h' m → News h₀ L h' ((e, exO d t') :: rest) → Q .none { s with heap := h' }) :
    wpAny (model prog w) A (call (.builtin "Exception.__init__") [.ref e, v]) Q E s := by
  have X := X₀.keeps F.keep
  have FX := PySem.F.excBase_Exception
  have hx' := (N _ (.head _)).1
  refine wpAny_call (codeAny_call_builtin FX.init.plain FX.initEntry (check_initX (oe := exO d t) X hx' rfl ?_))
  unfold Builtin.«BaseException.__init__»
  wp_walk
  obtain ⟨F2, N2⟩ := news_upd (d := e) (o := exO d t) (o' := exO d s.heap.objs.size) (f := Obj.mapFields (·.setIfInBounds 0 (Value.ref s.heap.objs.size))) (pre := []) (post := rest) (F.push { cls := .type "tuple", data := .seq #[v] })
    (fun p hp => N.pushKeep { cls := .type "tuple", data := .seq #[v] } p hp) (fun p hp => nomatch hp) hre rfl rfl
  exact h _ _ F2 N2
theorem mt1 : typeOf (.type "Exception") = pure (.type "type") := by kernel_rfl
theorem mt2 : Manifest.isStub "Exception" = false := by decide +kernel
theorem mt3 : handedIn (.builtin "Exception.__init__") = true := by decide +kernel
theorem methX {pl : Sem Bool} {Q : Value × List Value → Shared → Prop} (F : Fr h₀ L s.heap m) (X₀ : (Mine.kk.heap_1 w.params).In h₀) (h : Q (.builtin "Exception.__init__", []) { s with toks := s.toks + 1 }) :
    wpAny (model prog w) A (getMethod (.type "Exception") "__init__" pl) Q E s := by
  refine method_type (T := "Exception") (name := "__init__") (K := Mine.kk.heap_1 w.params) (v := .builtin "Exception.__init__") F X₀ ?_ ?_ ?_ ?_ ?_
  exact mt1
  exact mt2
  k_is
  exact mt3
  exact h
theorem setX_next2 {d : Addr} {od : Obj} {mA : Str → Option Value} {ns : List Str} {Q : Unit → Shared → Prop} (F : Fr h₀ L s.heap m) (N : News h₀ L s.heap [(e, exO (some d) t), (d, od)]) (X₀ : (Mine.kk.heap_1 w.params).In h₀) (ht : takerIn (Mine.kk.heap_1 w.params) 82 name = some none)
    (D : DM d od mA) (hw : Within mA ns) (hsz : ns.length ≤ 10) (hed : e < d)
    (h : ∀ h' tk' od', Fr h₀ L h' m → News h₀ L h' [(e, exO (some d) t), (d, od')] → DM d od' (fun y => if y = name then some v else mA y) → Q () { s with heap := h', toks := tk' }) :
    wpAny (model prog w) A (setAttr (.ref e) name v) Q E s :=
  setX_next F N X₀ ht (.head _) (.tail _ (.head _)) D hw (by rw [sizeLine_eq]; (first | lia | omega)) fun h' tk' od' F' k1 k2 D' => h h' tk' od' F' (List.forall_mem_cons.mpr ⟨⟨k1 _ (.head _) (Nat.ne_of_lt hed), (N _ (.head _)).2⟩, List.forall_mem_cons.mpr ⟨⟨k2, (N _ (.tail _ (.head _))).2⟩, List.forall_mem_nil _⟩⟩) D'
end
end
section
open PySem PySem.W PySem.Calls PyProof.Rows
open PySem PySem.W PySem.Calls PyProof.Rows Builtin Builtin.ObjectAttr
example : ∀ (w : World), (Mine.kk.heap_1 w.params).In default → PySem.Challenge.rw_no0260_01 = PySem.Challenge.rw_no0260_01 → True := by
  k_fill
  intros; trivial

section
variable {prog : Program} {w : World} {A : Around} {E : Value → Shared → Prop} {hp : Heap} {g : Array GenState} {dw : Drawn} {tk : Nat} {os : OsState} {v : Value}
theorem cont1 : (Value.ref 82 :: bm82).contains (.type "Exception") = true := by decide +kernel
theorem cont2 : (Value.ref 82 :: bm82).contains (.type "AttributeError") = false := by decide +kernel
theorem cont3 : (Value.ref 82 :: bm82).contains (.type "NameError") = false := by decide +kernel
theorem cont4 : (Value.ref 82 :: bm82).contains (.ref 82) = true := by decide +kernel
theorem check_newX {M : Model} {Q : Unit → Shared → Prop} (X : (Mine.kk.heap_1 w.params).In hp) (hq : Q () ⟨hp, g, dw, tk, os⟩) : wpAny M A (checkBuiltinCall "Exception.__new__" ⟨[.ref 82, v], []⟩) Q E ⟨hp, g, dw, tk, os⟩ := by
  have FX := PySem.F.excBase_Exception
  obtain ⟨nm, q, k0, k1, k2, k3, k5, hl⟩ := c82 w
  have hC := X _ _ hl
  have hcont := cont1
  have hstar := FX.noStar
  simp only [checkBuiltinCall, FX.newKind, FX.newSplit, FX.newRow]
  repeat (first | refine wpAny_loadPart_at hC ?_ | (refine wpAny_isSubtype_exc hC ?_; rw [hcont]) | refine wpAny_staticBase_exc hC ?_ | refine wpAny_madeBy_exc hC ?_ | simp only [bne_self_eq_false, Bool.false_eq_true, if_false] | wp_step)
  exact hq
theorem newX {R : Result → Shared → Prop} (X : (Mine.kk.heap_1 w.params).In hp)
    (hq : R (.ok (.ret (.ref (hp.objs.size + 1)))) ⟨(hp.push { cls := .type "tuple", data := .seq #[v] }).push (exO none hp.objs.size), g, dw, tk, os⟩) :
    codeAny (model prog w) A (.builtin "Exception.__new__" ⟨[.ref 82, v], []⟩) R ⟨hp, g, dw, tk, os⟩ := by
  have FX := PySem.F.excBase_Exception
  obtain ⟨nm, q, k0, k1, k2, k3, k5, hl⟩ := c82 w
  have hC := X _ _ hl
  have hends := FX.ends
  have hcB := cont1
  have hcA := cont2
  have hcN := cont3
  refine codeAny_builtinAt FX.entry ?_
  unfold Builtin.«BaseException.__new__»
  refine PySem.wpAt_bind ?_
  show PySem.wpAt _ _ _ (stack >>= _) _ _ _
  refine PySem.wpAt_bind (PySem.wpAt_stack fun p below => PySem.wpAt_of_wpAny ?_)
  wp_walk
  refine PySem.wpAt_of_wpAny ?_
  rw [FX.owner]
  repeat (first | with_reducible refine wpAny_madeHere_exc FX.canon hC ?_ | with_reducible refine wpAny_loadPart_at hC ?_ | (with_reducible refine wpAny_isSubtype_exc hC ?_; first | rw [hcB] | rw [hcA] | rw [hcN]) | wp_step)
  show R _ _
  rw [Heap.size_push]
  exact hq
theorem callX (X : (Mine.kk.heap_1 w.params).In hp) {Q : Value → Shared → Prop}
    (hq : codeAny (model prog w) (A.under (.builtin "type.__call__" ⟨[.ref 82, v], []⟩)) (.call (.ref 79) ⟨[.ref (hp.objs.size + 1), v], []⟩)
      (fun r s' => match r with | .ok (.ret x) => x = .none ∧ Q (.ref (hp.objs.size + 1)) s' | .ok _ => False | .error e => E e s')
      ⟨(hp.push { cls := .type "tuple", data := .seq #[v] }).push (exO none hp.objs.size), g, dw, tk, os⟩) :
    wpAny (model prog w) A (call (.ref 82) [v]) Q E ⟨hp, g, dw, tk, os⟩ := by
  have FX := PySem.F.excBase_Exception
  obtain ⟨nm, q, k0, k1, k2, k3, k5, hl⟩ := c82 w
  have hC := X _ _ hl
  have f1 := tc_lookup
  have f2 := tc_bind (.ref 82)
  have hT : (⟨hp, g, dw, tk, os⟩ : Shared).TypeIs (.ref 82) "type" := ⟨_, hC, rfl⟩
  refine wpAny_call (codeAny_of_tree ?_)
  show wpAny _ _ (callAny (.ref 82) _) _ _ _
  repeat (any_goals (first | assumption | with_reducible refine wpAny_loadPart_at hC ?_ | wp_step))
  refine ⟨rfl, ?_⟩
  refine codeAny_call_builtin_at (Code.quiet_builtin _ (by decide +kernel)) entry_typeCall (wpAny_check_type_call_sub hC ?_)
  repeat (first | with_reducible refine wpAny_loadPart_at hC ?_ | with_reducible refine wpAny_madeBy_exc hC ?_ | wp_step)
  refine codeAny_call_builtin_code (Code.quiet_builtin _ FX.quiet) (check_newX X ?_)
  refine newX X ?_
  show wpAny _ _ _ _ _ _
  have hk : ∀ b o, hp.get? b = some o → ((hp.push { cls := .type "tuple", data := .seq #[v] }).push (exO none hp.objs.size)).get? b = some o := fun b o e => Heap.get?_push_of_some _ (Heap.get?_push_of_some _ e)
  have X₁ : (Mine.kk.heap_1 w.params).In ((hp.push { cls := .type "tuple", data := .seq #[v] }).push (exO none hp.objs.size)) := X.keeps hk
  have hC₁ := hk _ _ hC
  have hget : ((hp.push { cls := .type "tuple", data := .seq #[v] }).push (exO none hp.objs.size)).get? (hp.objs.size + 1) = some (exO none hp.objs.size) := by heap_get
  have hcC := cont4
  unfold isInstance
  repeat (first | with_reducible refine wpAny_loadPart_at hget ?_ | (with_reducible refine wpAny_isSubtype_exc hC₁ ?_; rw [hcC]) | wp_step)
  show wpAny _ _ (typeLookup (.ref 82) _) _ _ _
  refine looks_findIn X₁ (show findIn (Mine.kk.heap_1 w.params) (.ref 82) "__init__" = some (some (.ref 79)) by k_is) _ _ _ _ (fun _ _ e => e) ?_
  refine wpAny_holding (wpAny_bind (bind_fn X₁ _ (show typeIn (Mine.kk.heap_1 w.params) (.ref 79) = some (.type "function") by k_is) _ _ _ _ (fun _ _ e => e) (wpAny_bind (wpAny_mono (Q := fun r s' => r = .none ∧ Q (.ref (hp.objs.size + 1)) s') (E := E) (wpAny_call (codeAny_mono hq fun r s' z => ?_)) (fun r s' hr => ?_) fun _ _ x => x))))
  · rcases r with e | (x | _ | _ | _) <;> exact z
  · obtain ⟨rfl, hQ⟩ := hr
    wp_walk
    exact hQ
end
end
section
open PySem PySem.W PySem.Calls PyProof.Rows
section
variable {prog : Program} {w : World} {A : Around} {E : Value → Shared → Prop} {s : Shared} {env : Env}
noncomputable def RaiseP (w : World) (E : Value → Shared → Prop) (v : Value) (s : Shared) : Prop :=
  ∃ e d t, v = .ref e ∧ (Mine.kk.heap_1 w.params).In s.heap ∧ s.heap.get? e = some (exO (some d) t) ∧ E (.ref e) s
theorem cont5 : (Value.ref 82 :: bm82).contains (.type "BaseException") = true := by decide +kernel
theorem raise_inst {x : Sem Value} {Q : Flow → Shared → Prop} (hh : A.handled = none) (h : wpAny (model prog w) A x (RaiseP w E) E s) : wpAny (model prog w) A (raiseStmt env (some x) none) Q E s := by
  have hcB := cont5
  unfold raiseStmt
  refine wpAny_bind (wpAny_mono h (fun v s₁ h₁ => ?_) fun _ _ x => x)
  obtain ⟨e, d, t, rfl, X, he, hE⟩ := h₁
  obtain ⟨nm, q, k0, k1, k2, k3, k5, hl⟩ := c82 w
  have hC := X _ _ hl
  obtain ⟨hp, gn, dw, tk, os⟩ := s₁
  repeat (first | with_reducible refine wpAny_loadPart_at he ?_ | with_reducible refine wpAny_loadPart_at hC ?_ | (with_reducible refine wpAny_isSubtype_exc hC ?_; rw [hcB]) | wp_step)
  exact wpAny_raiseNew_none hh hE
theorem raise_rule {exc : Expr} {pos : Pos} {Q : Flow → Shared → Prop} (hh : A.handled = none) (h : wpAny (model prog w) A (eval exc env) (RaiseP w E) E s) : wpAny (model prog w) A (exec (.Raise (some exc) none pos) env) Q E s := by
  rw [arm_exec_Raise]
  refine wpAny_bind (wpAny_standAt (raise_inst hh ?_))
  exact wpAny_bind (wpAny_mono h (fun v s₃ h₃ => wpAny_bind (wpAny_standAt (wpAny_pure h₃))) fun _ _ x => x)
end
end
section
open PySem PySem.W PySem.Calls PyProof.Rows
theorem call_Mc0 {prog : Program} {w : World} {A : Around} {s : Shared} {base g : Heap} {outer : List Env} {news : List (Addr × Obj)}
    {mean : ExcName → Option Value} {mg mb : Str → Option Value}
    {R : Result → Shared → Prop} {name qual : Str} {params : Arguments} {body : List Stmt} {scope : Scope} {dV kV doc pm cdv ct oc : Value} {an od : Option Addr} {osl : Array (Option Value)} {f : Addr} {args : Args} {binds : List (Str × Value)}
    (C : Cx w mean mg mb A base outer g s.heap) (N : Led g s.heap news)
    (ho : (Mine.kk.heap_1 w.params).lookup f = some ⟨oc, od, .func (fnOf name qual params body scope dV kV doc pm an cdv ct), osl⟩)
    (hcd : codeIn (Mine.kk.heap_1 w.params) cdv qual = true) (hroom : A.depth < recursionLimit)
    (hbind : BindsTo s (fnOf name qual params body scope dV kV doc pm an cdv ct) args binds)
    (hkind : (binds.all fun y => scope.names.lookup y.1 == some .local || scope.names.lookup y.1 == some .cell) = true)
    (hnd : ((cellsFrom 0 scope.names []).map (·.1)).Nodup)
    (h : ∀ L' h₁ tk cells, Fr g L' h₁ (bindL (envOfC qual scope L' f cdv).kindOf binds fun _ => none) → News g L' h₁ (cells ++ news) →
      CellsAre (bindC (envOfC qual scope L' f cdv).kindOf binds fun _ => none) (cellsFrom (L' + 1) scope.names []) cells → (∀ p ∈ news, p.1 < L') → Below A base outer g → (Mine.kk.heap_1 w.params).In g → Top Mine.view (looseW Mine.view []) mean mg mb g →
      wpAny (model prog w) (A.deeper (envOfC qual scope L' f cdv)) (execs body (envOfC qual scope L' f cdv))
        (fun fl s' => R (.ok (.ret (match fl with | .ret v => v | _ => .none))) s') (fun _ _ => False)
        { s with heap := h₁, toks := tk })
    (hco : scope.isCoroutine = false := by rfl) (hgen : scope.isGenerator = false := by rfl) (hk : scope.kind = .function := by rfl) : codeAny (model prog w) A (.call (.ref f) args) R s :=
  call_Mc C N ho hcd hroom hbind (kindsX hkind) hnd (fun L' h₁ tk cells F N Y l B X T => wpAny_mono (h L' h₁ tk cells F N Y l B X T) (fun _ _ x => x) fun _ _ x => x.elim) hco hgen hk
noncomputable abbrev tupO (vs : List Value) (ep : Nat) : Obj := { cls := .type "tuple", data := .seq vs.toArray ep }
noncomputable def digs (n : Nat) : List Nat := (Nat.toDigits 10 n).map Char.toNat
noncomputable def strI (n : Int) : List Nat := if n < 0 then 45 :: digs n.natAbs else digs n.natAbs
theorem str_tx (n : Int) : Str.ofString (toString n) = tx (strI n) := by
  rw [tx_of (Str.ofString (toString n)), signs_ofString]
  congr 1
  induction n with
  | ofNat m =>
    show (Nat.repr m).toList.map Char.toNat = _
    rw [Nat.toList_repr, strI, if_neg (show ¬ Int.ofNat m < 0 from Int.not_lt.mpr (Int.natCast_nonneg m))]
    rfl
  | negSucc m =>
    show ("-" ++ Nat.repr (m + 1)).toList.map Char.toNat = _
    rw [String.toList_append, List.map_append, Nat.toList_repr, strI, if_pos (Int.negSucc_lt_zero m)]
    rfl
noncomputable def digsOk (n : Nat) : Bool := (digs n).all dig && (digs n != []) && decide (valD (digs n) = n) && decide ((digs n).length ≤ 3)
theorem digs_all : (List.range 1000).all digsOk = true := by decide +kernel
theorem digs_ok {n : Nat} (h : n < 1000) : Dig (digs n) ∧ digs n ≠ [] ∧ valD (digs n) = n ∧ (digs n).length ≤ 3 := by
  have q := List.all_eq_true.mp digs_all n (List.mem_range.mpr h)
  simp only [digsOk, Bool.and_eq_true, bne_iff_ne, ne_eq, decide_eq_true_eq, List.all_eq_true] at q
  obtain ⟨⟨⟨a, b⟩, c⟩, d⟩ := q
  exact ⟨fun x hx => of_decide_eq_true (a x hx), b, c, d⟩
theorem strI_len {n : Int} (h : -1000 < n ∧ n < 1000) : (strI n).length ≤ 4 := by
  have := (digs_ok (n := n.natAbs) (by (first | lia | omega))).2.2.2
  unfold strI
  split
  · rw [List.length_cons]; (first | lia | omega)
  · (first | lia | omega)
theorem rl_str {prog : Program} {w : World} {A : Around} {E : Value → Shared → Prop} {s : Shared} {n : Int} {t : Tok} {Q : Value → Shared → Prop} (h0 : -1000 < n ∧ n < 1000) (h : ∀ t' k, (strI n).length ≤ 4 → Q (.str (tx (strI n)) t') { s with toks := k }) :
    wpAny (model prog w) A (call (.type "str") [.int n t]) Q E s := by
  refine P.str_of_int (shown (N := 2 ^ 1920) (by (first | lia | omega)) (by (first | lia | omega)) (Int.le_refl _)) ?_
  have e : (toString n : PySem.Str) = tx (strI n) := str_tx n
  rw [e]
  exact h _ _ (strI_len h0)
section
variable {prog : Program} {w : World} {A : Around} {E : Value → Shared → Prop} {s : Shared} {value slice : PySem.Expr} {l : Addr} {vs : List Value} {i : Int} {u : Tok} {v : Value} {g : Heap} {L : Addr} {news : List (Addr × Obj)} {n : Nat} {Q : Value → Shared → Prop}
end
end
section
open PySem PySem.W PySem.Calls PyProof.Rows
theorem dig_head {ds R : List Nat} (hd : Dig ds) (hne : ds ≠ []) : csg (ds ++ R) = (1, ds ++ R) := by
  induction ds with
  | nil => exact absurd rfl hne
  | cons x r =>
    have := hd x (.head _)
    have h1 : x ≠ 45 := by (first | lia | omega)
    have h2 : x ≠ 43 := by (first | lia | omega)
    simp [csg, h1, h2]
theorem csg_strI {n : Int} (R : List Nat) (h : -1000 < n ∧ n < 1000) : csg (strI n ++ R) = (if n < 0 then -1 else 1, digs n.natAbs ++ R) := by
  obtain ⟨h1, h2, h3, _⟩ := digs_ok (n := n.natAbs) (by (first | lia | omega))
  unfold strI
  by_cases hn : n < 0
  · rw [if_pos hn, if_pos hn]; rfl
  · rw [if_neg hn, if_neg hn]; exact dig_head h1 h2
theorem strI_val {n : Int} (h : -1000 < n ∧ n < 1000) : n = (csg (strI n)).1 * valD (csg (strI n)).2 ∧ (csg (strI n)).2 ≠ [] ∧ Dig (csg (strI n)).2 := by
  have e := csg_strI [] h
  simp only [List.append_nil] at e
  obtain ⟨h1, h2, h3, _⟩ := digs_ok (n := n.natAbs) (by (first | lia | omega))
  rw [e]
  refine ⟨?_, h2, h1⟩
  rw [h3]
  by_cases hn : n < 0
  · rw [if_pos hn]; (first | lia | omega)
  · rw [if_neg hn]; (first | lia | omega)
theorem strI_chars {n : Int} (h : -1000 < n ∧ n < 1000) : ∀ c ∈ strI n, c = 45 ∨ (48 ≤ c ∧ c ≤ 57) := by
  obtain ⟨h1, _⟩ := digs_ok (n := n.natAbs) (by (first | lia | omega))
  intro c hc
  unfold strI at hc
  split at hc
  · rcases List.mem_cons.mp hc with q | q
    · exact .inl q
    · exact .inr (h1 c q)
  · exact .inr (h1 c hc)
theorem strI_pos {n : Int} (h : 0 ≤ n) : strI n = digs n.natAbs := by
  unfold strI
  rw [if_neg (by (first | lia | omega))]
theorem real_text {m e : Int} {W : Nat} {mid : List Nat} (hm : -150 ≤ m ∧ m < 250) (he : -2 ≤ e ∧ e < 3) (hW : W = 69 ∨ W = 68)
    (hmid : mid = [W] ∨ mid = W :: List.replicate (if decide (0 ≤ e) = true then (1 : Int) else 0).toNat 43 ∨ mid = [46, W]) : RealT ((strI m ++ mid) ++ strI e) m e := by
  obtain ⟨h1, h2, h3, h4⟩ := digs_ok (n := m.natAbs) (by (first | lia | omega))
  have c1 := csg_strI (mid ++ strI e) (n := m) (by (first | lia | omega))
  have v2 := strI_val (n := e) (by (first | lia | omega))
  have l1 := strI_len (n := m) (by (first | lia | omega))
  have l2 := strI_len (n := e) (by (first | lia | omega))
  have lm : mid.length ≤ 2 := by
    rcases hmid with rfl | rfl | rfl
    · simp
    · rw [List.length_cons, List.length_replicate]; split <;> (first | lia | omega)
    · simp
  have x1 := strI_chars (n := m) (by (first | lia | omega))
  have x2 := strI_chars (n := e) (by (first | lia | omega))
  have x3 : ∀ c ∈ mid, c = W ∨ c = 43 ∨ c = 46 := by
    rcases hmid with rfl | rfl | rfl
    · simp
    · intro c hc
      rcases List.mem_cons.mp hc with q | q
      · exact .inl q
      · exact .inr (.inl (List.eq_of_mem_replicate q))
    · simp
  have n32 : 32 ∉ (strI m ++ mid) ++ strI e := by
    intro q
    rcases List.mem_append.mp q with q | q
    · rcases List.mem_append.mp q with q | q
      · have := x1 _ q; (first | lia | omega)
      · have := x3 _ q; (first | lia | omega)
    · have := x2 _ q; (first | lia | omega)
  have len : ((strI m ++ mid) ++ strI e).length ≤ 1000 := by simp only [List.length_append]; (first | lia | omega)
  have fin : ∀ B A, (A = digs m.natAbs ∨ A = digs m.natAbs ++ [46]) → mid ++ strI e = A.drop (digs m.natAbs).length ++ W :: B → digs m.natAbs ++ A.drop (digs m.natAbs).length = A → (csg B).2 ≠ [] → Dig (csg B).2 → e = (csg B).1 * valD (csg B).2 →
      RealT ((strI m ++ mid) ++ strI e) m e := by
    intro B A hA hB hA2 b1 b2 b3
    have q : (csg ((strI m ++ mid) ++ strI e)) = (if m < 0 then -1 else 1, A ++ W :: B) := by
      rw [List.append_assoc, c1, hB, ← List.append_assoc, hA2]
    refine ⟨A, W, B, digs m.natAbs, by rw [q], hW, hA, h2, h1, b1, b2, n32, len, ?_, b3, by (first | lia | omega), by (first | lia | omega)⟩
    rw [q, h3]
    by_cases hn : m < 0
    · rw [if_pos hn]; (first | lia | omega)
    · rw [if_neg hn]; (first | lia | omega)
  rcases hmid with rfl | rfl | rfl
  · exact fin (strI e) (digs m.natAbs) (.inl rfl) (by simp) (by simp) v2.2.1 v2.2.2 v2.1
  · by_cases h0 : 0 ≤ e
    · have hr : List.replicate (if decide (0 ≤ e) = true then (1 : Int) else 0).toNat 43 = [43] := by rw [if_pos (by simpa using h0)]; rfl
      rw [hr] at fin ⊢
      have hs := strI_pos h0
      obtain ⟨k1, k2, k3, _⟩ := digs_ok (n := e.natAbs) (by (first | lia | omega))
      refine fin (43 :: strI e) (digs m.natAbs) (.inl rfl) (by simp) (by simp) ?_ ?_ ?_
      · rw [hs]; exact k2
      · rw [hs]; exact k1
      · rw [hs]; show e = 1 * valD (digs e.natAbs); rw [k3]; (first | lia | omega)
    · have hr : List.replicate (if decide (0 ≤ e) = true then (1 : Int) else 0).toNat 43 = [] := by rw [if_neg (by simpa using h0)]; rfl
      rw [hr] at fin ⊢
      exact fin (strI e) (digs m.natAbs) (.inl rfl) (by simp) (by simp) v2.2.1 v2.2.2 v2.1
  · exact fin (strI e) (digs m.natAbs ++ [46]) (.inr rfl) (by simp) (by simp) v2.2.1 v2.2.2 v2.1
theorem real_text2 {m e : Int} {W : Nat} {mid : List Nat} (hm : -150 ≤ m ∧ m < 250) (he : -2 ≤ e ∧ e < 3) (hW : W = 69 ∨ W = 68)
    (hmid : mid = [W] ∨ mid = W :: List.replicate (if decide (0 ≤ e) = true then (1 : Int) else 0).toNat 43 ∨ mid = [46, W]) : RealT ((strI m ++ mid) ++ strI e) m e ∧ ((strI m ++ mid) ++ strI e).length ≤ 20 := by
  refine ⟨real_text hm he hW hmid, ?_⟩
  have l1 := strI_len (n := m) (by (first | lia | omega))
  have l2 := strI_len (n := e) (by (first | lia | omega))
  have lm : mid.length ≤ 2 := by
    rcases hmid with rfl | rfl | rfl
    · simp
    · rw [List.length_cons, List.length_replicate]; split <;> (first | lia | omega)
    · simp
  simp only [List.length_append]; (first | lia | omega)
theorem real_text3 {r q : Int} {W : Nat} {mid : List Nat} (h1 : r < 400) (h2 : q < 5) (h3 : 0 ≤ r) (h4 : 0 ≤ q) (hW : W = 69 ∨ W = 68)
    (hmid : mid = [W] ∨ mid = W :: List.replicate (if decide (0 ≤ q - 2) = true then (1 : Int) else 0).toNat 43 ∨ mid = [46, W]) : RealT ((strI (r - 150) ++ mid) ++ strI (q - 2)) (r - 150) (q - 2) ∧ ((strI (r - 150) ++ mid) ++ strI (q - 2)).length ≤ 20 :=
  real_text2 (by (first | lia | omega)) (by (first | lia | omega)) hW hmid
theorem join_str : ∀ cs : List Nat, Str.join (tx []) (cs.map fun c => tx [c]) = tx cs
  | [] => rfl
  | [c] => rfl
  | c :: d :: r => by
    show tx [c] ++ tx [] ++ Str.join (tx []) ((d :: r).map fun c => tx [c]) = _
    rw [join_str (d :: r), tx_add, tx_add]; rfl
theorem join_tx (cs : List Nat) : Txt.join (tx []) (cs.map fun c => tx [c]) = tx cs := by
  show Builtin.Str.glued (tx []) _ = _
  rw [StrLaws.glued_eq_join, join_str]
section
variable {prog : Program} {w : World} {A : Around} {E : Value → Shared → Prop} {s : Shared}
theorem rl_join {D : Addr} {ys : List Value} {cs : List Nat} {t : Tok} {g : Heap} {L : Addr} {news : List (Addr × Obj)} {Q : Value → Shared → Prop} (N : News g L s.heap news) (hm : (D, LCg.lst ys) ∈ news) (hi : StrsAre ys (cs.map fun c => tx [c])) (hn : cs.length ≤ 1000)
    (h : ∀ t' k, Q (.str (tx cs) t') { s with toks := k }) : wpAny (model prog w) A (call (.builtin "str.join") [.str (tx []) t, .ref D]) Q E s := by
  refine join_list (x := tx []) (items := ys.toArray) ⟨_, (N _ hm).1, rfl, _, rfl⟩ (by simpa using hi) ?_ fun t' k => ?_
  · have e : ∀ l : List Nat, ((l.map fun c => tx [c]).map (·.length)).sum = l.length := by
      intro l
      induction l with
      | nil => rfl
      | cons c r ih => rw [List.map_cons, List.map_cons, List.sum_cons, ih]; show 1 + _ = _; rw [List.length_cons]; (first | lia | omega)
    rw [e, List.length_map]
    show _ + _ * 0 ≤ _
    (first | lia | omega)
  · rw [join_tx]; exact h t' k
theorem comp_M {h₀ : Heap} {L : Addr} {m : Str → Option Value} {env : Env} {elt : Expr} {x : Str} {scope : Scope} {cl : List (Str × Addr)} {Fin : List Value → List (Addr × Obj) → Prop} {n : Nat} {a : Int} {news : List (Addr × Obj)} (J : List Value → List (Addr × Obj) → Prop) (h0 : J [] news)
    (turn : ∀ ys news₁ k t I oI C oC D m₂ h tk (E' : Value → Shared → Prop), J ys news₁ → ys.length < n → LCg.NsObj oC m₂ → m₂ x = some (.int k t) → Fr h₀ L h m → News h₀ L h ((I, oI) :: (C, oC) :: (D, LCg.lst ys) :: news₁) → LCg.Off3 I C D news₁ → ((@Ne Nat I C) ∧ (@Ne Nat I D) ∧ (@Ne Nat C D)) →
      wpAny (model prog w) A (eval elt (compEnvC scope cl C env)) (LCg.CompEnd h₀ L m { s with heap := h, toks := tk } I oI C oC D (LCg.lst ys) (fun _ => True) (fun y news' => J (ys ++ [y]) news')) E' { s with heap := h, toks := tk })
    (fin : ∀ ys news₁, ys.length = n → J ys news₁ → Fin ys news₁) : LCg.CompRest prog w A h₀ L m env elt x scope cl s (fun _ => True) (fun i v => ∃ t, v = .int (a + (i : Int)) t) Fin n 0 [] news := by
  have key : ∀ (j i : Nat) (ys : List Value) (news₁ : List (Addr × Obj)), i + j = n → ys.length = i → J ys news₁ → LCg.CompRest prog w A h₀ L m env elt x scope cl s (fun _ => True) (fun i v => ∃ t, v = .int (a + (i : Int)) t) Fin j i ys news₁ := by
    intro j
    induction j with
    | zero => intro i ys news₁ h1 h2 hJ; exact .zero (fin ys news₁ (by (first | lia | omega)) hJ)
    | succ j ih =>
      intro i ys news₁ h1 h2 hJ
      refine .succ ?_
      rintro v I oI C oC D m₂ h tk E' ⟨t, rfl⟩ hC hx F N off ne
      refine wpAny_mono (turn ys news₁ _ t I oI C oC D m₂ h tk E' hJ (by (first | lia | omega)) hC hx F N off ne) ?_ fun _ _ e => e
      rintro y s₂ ⟨h', tk', news', e, F', N', off', hS, hJ'⟩
      exact ⟨h', tk', news', e, F', N', off', hS, ih (i + 1) _ _ (by (first | lia | omega)) (by rw [List.length_append, h2]; rfl) hJ'⟩
  exact key n 0 [] news (by (first | lia | omega)) rfl h0
end
noncomputable def TP (V b : List Nat) : Prop := ∀ tl, tq (b ++ tl) = (tq tl).map fun p => (V ++ p.1, p.2)
theorem tp_nil : TP [] [] := fun tl => by
  induction h : tq tl <;> simp [h]
theorem tp_cut {V b : List Nat} (h : TP V b) : TP V (b ++ [10]) := fun tl => by
  rw [List.append_assoc, h]
  show (tq (10 :: tl)).map _ = _
  rw [tq_cons (by decide)]; rfl
theorem tp_one {V b : List Nat} {c : Nat} (h : TP V b) (h1 : c ≠ 39) (h2 : c ≠ 10) : TP (V ++ [c]) (b ++ [c]) := fun tl => by
  rw [List.append_assoc, h]
  show (tq (c :: tl)).map _ = _
  rw [tq_cons h1, if_neg h2, Option.map_map]
  congr 1
  funext p
  simp
theorem tp_two {V b : List Nat} (h : TP V b) : TP (V ++ [39]) (b ++ [39, 39]) := fun tl => by
  rw [List.append_assoc, h]
  show (tq (39 :: 39 :: tl)).map _ = _
  simp only [tq, if_true, Option.map_map]
  congr 1
  funext p
  simp
theorem tp_end {V b r : List Nat} (h : TP V b) (hr : sg r ≠ [39]) : tq (b ++ 39 :: r) = some (V, r) := by
  rw [h]
  have : tq (39 :: r) = some ([], r) := by
    induction r with
    | nil => rfl
    | cons d r' =>
      have : d ≠ 39 := by rintro rfl; exact hr rfl
      simp [tq, this]
  rw [this]; simp
noncomputable def TextT (V T : List Nat) : Prop := ∃ b, TP V b ∧ T = 39 :: (b ++ [39]) ∧ V.length ≤ 5 ∧ T.length ≤ 30
noncomputable def TextJ (pen c : Addr) (o : Obj) (ys : List Value) (nx : List (Addr × Obj)) : Prop := ∃ (po' : Obj) (cs : List Nat), PenObj po' ∧ nx = [(pen, po'), (c, o)] ∧ StrsAre ys (cs.map fun c => tx [c]) ∧ cs.length = ys.length ∧ ∀ c ∈ cs, c ∈ [97, 39, 44, 32, 47]
theorem TextJ.next {pen c : Addr} {o po' : Obj} {ys : List Value} {cs : List Nat} {x : Nat} {t : Tok} (h1 : PenObj po') (h2 : StrsAre ys (cs.map fun c => tx [c])) (h3 : cs.length = ys.length) (h4 : ∀ c ∈ cs, c ∈ [97, 39, 44, 32, 47]) (h5 : x ∈ [97, 39, 44, 32, 47]) :
    TextJ pen c o (ys ++ [.str (tx [x]) t]) [(pen, po'), (c, o)] := by
  refine ⟨po', cs ++ [x], h1, rfl, by rw [List.map_append]; exact strsAre_append h2 (.cons _ _ .nil), by rw [List.length_append, List.length_append, h3]; rfl, fun y hy => ?_⟩
  rcases List.mem_append.mp hy with q | q
  · exact h4 y q
  · rw [List.mem_singleton.mp q]; exact h5
theorem tp_rep {V b : List Nat} (h : TP V b) (q : Bool) : TP V (b ++ List.replicate (if q = true then (1 : Int) else 0).toNat 10) := by
  induction q
  · simpa using h
  · exact tp_cut h
theorem rep_len (q : Bool) (c : Nat) : (List.replicate (if q = true then (1 : Int) else 0).toNat c).length ≤ 1 := by
  induction q <;> simp
theorem tp_t39 {V b : List Nat} (h : TP V b) (q : Bool) : TP (V ++ [39]) (b ++ (List.replicate (if q = true then (1 : Int) else 0).toNat 10 ++ [39, 39])) := by
  rw [← List.append_assoc]
  exact tp_two (tp_rep h q)
theorem tp_tc {V b : List Nat} {c : Nat} (h : TP V b) (q : Bool) (h1 : c ≠ 39) (h2 : c ≠ 10) : TP (V ++ [c]) (b ++ (List.replicate (if q = true then (1 : Int) else 0).toNat 10 ++ [c])) := by
  rw [← List.append_assoc]
  exact tp_one (tp_rep h q) h1 h2
theorem tp_fin {V b : List Nat} (h : TP V b) (q : Bool) (h1 : V.length ≤ 5) (h2 : b.length ≤ 3 * V.length) : TextT V (39 :: (b ++ List.replicate (if q = true then (1 : Int) else 0).toNat 10 ++ [39])) := by
  refine ⟨_, tp_rep h q, rfl, h1, ?_⟩
  have := rep_len q 10
  simp only [List.length_cons, List.length_append, List.length_nil]
  (first | lia | omega)
end
section
open PySem PySem.W PySem.Calls PyProof.Rows
theorem PenObj.cls {o : Obj} (h : PenObj o) : o.cls = .type "list" := by
  obtain ⟨_, _, _, _, _, _, _, rfl⟩ := h; rfl
noncomputable def IsV : Wt → Value → List (Addr × Obj) → Prop
  | .txt l, v, nx => (∃ t, v = .str (tx l) t) ∧ nx = []
  | .int n, v, nx => (∃ t, v = .int n t) ∧ nx = []
  | .bool b, v, nx => v = .bool b ∧ nx = []
  | .real m e, v, nx => ∃ a t1 t2, v = .ref a ∧ nx = [(a, tupO [.int m t1, .int e t2] 0)]
  | .cplx m1 e1 m2 e2, v, nx => ∃ a b c t1 t2 t3 t4, v = .ref a ∧ nx = [(a, tupO [.ref b, .ref c] 0), (b, tupO [.int m1 t1, .int e1 t2] 0), (c, tupO [.int m2 t3, .int e2 t4] 0)]
  | .non, _, _ => False
noncomputable def ItOk (kind len : Int) (x : Wt) (T : List Nat) : Prop := T.length ≤ 80 ∧ ∀ r, sepB (sg r) = true → ∃ k, Kon (T ++ r) k r ∧ Val kind len k x ∧ sepB (sg (T ++ r)) = false ∧ rp (T ++ r) = (1, T ++ r)
theorem sep_cases {r : List Nat} (h : sepB (sg r) = true) : r = [] ∨ ∃ c r', r = c :: r' ∧ (c = 10 ∨ c = 32 ∨ c = 44 ∨ c = 47) := by
  induction r with
  | nil => exact .inl rfl
  | cons c r' =>
    refine .inr ⟨c, r', rfl, ?_⟩
    by_cases h10 : c = 10
    · exact .inl h10
    · simp [sg, h10, sepB] at h
      (first | lia | omega)
theorem not_dig {c : Nat} (h : c = 10 ∨ c = 32 ∨ c = 44 ∨ c = 47) : dig c = false := by
  rcases h with rfl | rfl | rfl | rfl <;> decide
theorem rp_plain {T r : List Nat} (h : 42 ∉ T) (hr : sepB (sg r) = true) : rp (T ++ r) = (1, T ++ r) := by
  refine rp_no (.inr ?_)
  induction T with
  | nil =>
    rcases sep_cases hr with rfl | ⟨c, r', rfl, hc⟩
    · exact fun h => nomatch h
    · rw [List.nil_append, List.dropWhile_cons, not_dig hc]
      simp
      (first | lia | omega)
  | cons c T ih =>
    rw [List.cons_append, List.dropWhile_cons]
    split
    · exact ih fun q => h (.tail _ q)
    · simp
      rintro rfl
      exact h (.head _)
theorem rp_first {c : Nat} {r : List Nat} (h : dig c = false) : rp (c :: r) = (1, c :: r) := by
  refine rp_no (.inl ?_)
  rw [List.takeWhile_cons, h]; rfl
theorem rp_rep {n : Nat} {r : List Nat} (h : n < 1000) : rp (digs n ++ 42 :: r) = ((n : Int), r) := by
  obtain ⟨h1, h2, h3, _⟩ := digs_ok h
  have hd : ∀ c ∈ digs n, dig c = true := fun c hc => decide_eq_true (h1 c hc)
  have e1 : (digs n ++ 42 :: r).takeWhile dig = digs n := by
    rw [List.takeWhile_append_of_pos hd, List.takeWhile_cons]
    show digs n ++ (if dig 42 = true then _ else []) = _
    rw [if_neg (by decide), List.append_nil]
  have e2 : (digs n ++ 42 :: r).dropWhile dig = 42 :: r := by
    rw [List.dropWhile_append_of_pos hd, List.dropWhile_cons, if_neg (by decide)]
  rw [rp_yes (by rw [e1]; exact h2) (by rw [e2]; rfl), e1, e2, h3]
  rfl
noncomputable def Run (T : List Nat) : Prop := T ≠ [] ∧ ∀ c ∈ T, c ≠ 10 ∧ c ≠ 32 ∧ c ≠ 44 ∧ c ≠ 47 ∧ c ≠ 42 ∧ c ≠ 39 ∧ c ≠ 40 ∧ c ≠ 41
theorem run_stop {T : List Nat} (h : Run T) : ∀ c ∈ T, (!stopC 191 c) = true ∧ (!stopC 192 c) = true := fun c hc => by
  obtain ⟨h1, h2, h3, h4, h5, h6, h7, h8⟩ := h.2 c hc
  simp [stopC, endB, sepB, pendB, *]
theorem run_ok {T r : List Nat} (h : Run T) (hr : sepB (sg r) = true) : Kon (T ++ r) (.run T) r ∧ sepB (sg (T ++ r)) = false ∧ rp (T ++ r) = (1, T ++ r) := by
  have hs := fun c hc => (run_stop h c hc).1
  obtain ⟨a1, a2⟩ := end_true (e := 191) (by simpa [endB] using hr)
  have e1 : (T ++ r).takeWhile (fun c => !stopC 191 c) = T := by rw [List.takeWhile_append_of_pos hs, a1, List.append_nil]
  have e2 : (T ++ r).dropWhile (fun c => !stopC 191 c) = r := by rw [List.dropWhile_append_of_pos hs, a2]
  have hsg : ∃ c ∈ T, sg (T ++ r) = [c] := by
    induction T with
    | nil => exact absurd rfl h.1
    | cons c T => exact ⟨c, .head _, by simp [sg, (h.2 c (.head _)).1]⟩
  obtain ⟨c, hc, hsg⟩ := hsg
  obtain ⟨h1, h2, h3, h4, h5, h6, h7, h8⟩ := h.2 c hc
  refine ⟨?_, ?_, rp_plain (fun q => (h.2 42 q).2.2.2.2.1 rfl) hr⟩
  · have := Kon.run (y := T ++ r) (by rw [hsg]; simpa using h6) (by rw [hsg]; simpa using h7)
    rw [e1, e2] at this
    exact this
  · rw [hsg]; simp [sepB, *]
theorem it_run {kind len : Int} {x : Wt} {T : List Nat} (h : Run T) (hl : T.length ≤ 80) (hv : Val kind len (.run T) x) : ItOk kind len x T :=
  ⟨hl, fun r hr => ⟨_, (run_ok h hr).1, hv, (run_ok h hr).2⟩⟩
theorem csg_mem {l : List Nat} : ∀ x ∈ l, x = 45 ∨ x = 43 ∨ x ∈ (csg l).2 := by
  intro x hx
  induction l with
  | nil => obtain ⟨⟩ := hx
  | cons c r =>
    by_cases h1 : c = 45
    · subst h1
      rcases List.mem_cons.mp hx with q | q
      · exact .inl q
      · exact .inr (.inr q)
    · by_cases h2 : c = 43
      · subst h2
        rcases List.mem_cons.mp hx with q | q
        · exact .inr (.inl q)
        · exact .inr (.inr q)
      · have e : csg (c :: r) = (1, c :: r) := by simp [csg, h1, h2]
        rw [e]
        exact .inr (.inr hx)
theorem real_run {l : List Nat} {m e : Int} (h : RealT l m e) : Run l := by
  refine ⟨realT_ne h, ?_⟩
  obtain ⟨A, c, B, ds, hsp, hc, hA, _, hd, _, hB, _⟩ := h
  intro x hx
  have : x = 45 ∨ x = 43 ∨ x = 46 ∨ x = 69 ∨ x = 68 ∨ (48 ≤ x ∧ x ≤ 57) := by
    rcases csg_mem x hx with q | q | q
    · (first | lia | omega)
    · (first | lia | omega)
    · rw [hsp] at q
      rcases List.mem_append.mp q with q | q
      · rcases hA with rfl | rfl
        · have := hd x q; (first | lia | omega)
        · rcases List.mem_append.mp q with q | q
          · have := hd x q; (first | lia | omega)
          · have := List.mem_singleton.mp q; (first | lia | omega)
      · rcases List.mem_cons.mp q with q | q
        · (first | lia | omega)
        · rcases csg_mem x q with q | q | q
          · (first | lia | omega)
          · (first | lia | omega)
          · have := hB x q; (first | lia | omega)
  (first | lia | omega)
theorem int_run {n : Int} {q : Bool} (h : -1000 < n ∧ n < 1000) (hq : q = true → 0 ≤ n) : Run (List.replicate (if q = true then (1 : Int) else 0).toNat 43 ++ strI n) ∧ IntT (List.replicate (if q = true then (1 : Int) else 0).toNat 43 ++ strI n) n ∧ (List.replicate (if q = true then (1 : Int) else 0).toNat 43 ++ strI n).length ≤ 80 := by
  obtain ⟨k1, k2, k3⟩ := strI_val h
  have hl := strI_len h
  have hr := rep_len q 43
  have hc := strI_chars h
  have hne : strI n ≠ [] := by
    intro e
    rw [e] at k2
    exact k2 rfl
  have hch : ∀ x ∈ List.replicate (if q = true then (1 : Int) else 0).toNat 43 ++ strI n, x = 43 ∨ x = 45 ∨ (48 ≤ x ∧ x ≤ 57) := by
    intro x hx
    rcases List.mem_append.mp hx with p | p
    · exact .inl (List.eq_of_mem_replicate p)
    · exact .inr (hc x p)
  have hlen : (List.replicate (if q = true then (1 : Int) else 0).toNat 43 ++ strI n).length ≤ 80 := by rw [List.length_append]; (first | lia | omega)
  refine ⟨⟨fun e => hne (List.append_eq_nil_iff.mp e).2, fun x hx => by have := hch x hx; (first | lia | omega)⟩, ?_, hlen⟩
  have e : csg (List.replicate (if q = true then (1 : Int) else 0).toNat 43 ++ strI n) = csg (strI n) := by
    induction q with
    | false => rfl
    | true =>
      have h0 := hq rfl
      have e1 := csg_strI [] h
      rw [List.append_nil, if_neg (by (first | lia | omega))] at e1
      rw [e1]
      show csg (43 :: strI n) = _
      rw [strI_pos h0, List.append_nil]
      rfl
  unfold IntT
  rw [e]
  refine ⟨fun q => hne (List.append_eq_nil_iff.mp q).2, k2, k3, fun q => ?_, by (first | lia | omega), k1, by (first | lia | omega)⟩
  have := hch 32 q
  (first | lia | omega)
theorem it_int {n : Int} {q : Bool} (h : -1000 < n ∧ n < 1000) (hq : q = true → 0 ≤ n) : ItOk 0 0 (.int n) (List.replicate (if q = true then (1 : Int) else 0).toNat 43 ++ strI n) := by
  obtain ⟨h1, h2, h3⟩ := int_run h hq
  exact it_run h1 h3 ⟨rfl, h2⟩
theorem it_real {kind m e : Int} {l : List Nat} (hk : kind = 1 ∨ kind = 2) (h : RealT l m e) (hl : l.length ≤ 20) : ItOk kind 0 (.real (sz m e).1 (sz m e).2) l :=
  it_run (real_run h) (by (first | lia | omega)) ⟨hk, m, e, h, rfl, rfl⟩
theorem it_log {b : Bool} {l : List Nat} (h : LogT l b) : ItOk 4 0 (.bool b) l := by
  refine it_run ?_ ?_ ⟨rfl, h⟩
  · rcases h with ⟨rfl, _⟩ | ⟨rfl, _⟩ | ⟨rfl, _⟩ | ⟨rfl, _⟩ <;> (refine ⟨(fun q => nomatch q), ?_⟩; decide)
  · rcases h with ⟨rfl, _⟩ | ⟨rfl, _⟩ | ⟨rfl, _⟩ | ⟨rfl, _⟩ <;> decide
theorem it_txt {len : Int} {V T : List Nat} (h : TextT V T) (hl : 0 ≤ len ∧ len ≤ 10) : ItOk 5 len (.txt ((V ++ List.replicate len.toNat 32).take len.toNat)) T := by
  obtain ⟨b, hb, rfl, hV, hT⟩ := h
  refine ⟨by (first | lia | omega), fun r hr => ⟨.txt V, ?_, ⟨rfl, hl, by (first | lia | omega), ?_⟩, ?_, ?_⟩⟩
  · have hsg : sg r ≠ [39] := by
      intro q
      rw [q] at hr
      exact absurd hr (by decide)
    have := Kon.txt (r0 := b ++ [39] ++ r) (V := V) (r := r) (by rw [List.append_assoc]; exact tp_end hb hsg) hr
    exact this
  · unfold fit
    rw [List.take_append, List.take_replicate]
    congr 2
    (first | lia | omega)
  · rfl
  · exact rp_first (by decide)
theorem dw_rep (c : Nat) (n : Nat) {r : List Nat} (h : ∀ x, r.head? = some x → x ≠ c) : (List.replicate n c ++ r).dropWhile (· == c) = r := by
  rw [List.dropWhile_append_of_pos (fun x hx => by rw [List.eq_of_mem_replicate hx]; exact beq_self_eq_true c)]
  induction r with
  | nil => rfl
  | cons x r =>
    rw [List.dropWhile_cons, if_neg]
    have := h x rfl
    simpa using this
theorem run_head {l r : List Nat} (h : Run l) : ∃ c l', l ++ r = c :: (l' ++ r) ∧ l = c :: l' ∧ c ≠ 10 ∧ c ≠ 32 := by
  induction l with
  | nil => exact absurd rfl h.1
  | cons c l' => exact ⟨c, l', rfl, rfl, (h.2 c (.head _)).1, (h.2 c (.head _)).2.1⟩
theorem run_split {l r : List Nat} {c : Nat} (h : Run l) (hc : stopC 192 c = true) : (l ++ c :: r).takeWhile (fun c => !stopC 192 c) = l ∧ (l ++ c :: r).dropWhile (fun c => !stopC 192 c) = c :: r := by
  have hs := fun c hc => (run_stop h c hc).2
  rw [List.takeWhile_append_of_pos hs, List.dropWhile_append_of_pos hs, List.takeWhile_cons, List.dropWhile_cons, hc]
  exact ⟨List.append_nil _, rfl⟩
theorem gap_run {l r : List Nat} (h : Run l) : (l ++ r).dropWhile gap = l ++ r := by
  obtain ⟨c, l', e, _, h1, h2⟩ := run_head (r := r) h
  rw [e, List.dropWhile_cons, if_neg]
  simp [gap, h1, h2]
theorem comma_ok {C l r : List Nat} (hC : C = [44] ∨ C = [32, 44, 32] ∨ C = [10, 44] ∨ C = [44, 32, 10, 32] ∨ C = [32, 10, 32, 44, 32]) (h : Run l) :
    ∃ c C' r3, C = c :: C' ∧ stopC 192 c = true ∧ (C ++ (l ++ r)).dropWhile gap = 44 :: r3 ∧ r3.dropWhile gap = l ++ r := by
  have g := gap_run (r := r) h
  rcases hC with rfl | rfl | rfl | rfl | rfl
  · exact ⟨44, [], l ++ r, rfl, by decide, rfl, g⟩
  · exact ⟨32, _, 32 :: (l ++ r), rfl, by decide, rfl, g⟩
  · exact ⟨10, _, l ++ r, rfl, by decide, rfl, g⟩
  · exact ⟨44, _, 32 :: 10 :: 32 :: (l ++ r), rfl, by decide, rfl, g⟩
  · exact ⟨32, _, 32 :: (l ++ r), rfl, by decide, rfl, g⟩
theorem it_cplx {n1 n2 : Nat} {m e m' e' : Int} {l l' C : List Nat} (h1 : RealT l m e) (h2 : RealT l' m' e') (hl : l.length ≤ 20) (hl' : l'.length ≤ 20) (hn1 : n1 ≤ 2) (hn2 : n2 ≤ 2)
    (hC : C = [44] ∨ C = [32, 44, 32] ∨ C = [10, 44] ∨ C = [44, 32, 10, 32] ∨ C = [32, 10, 32, 44, 32]) :
    ItOk 3 0 (.cplx (sz m e).1 (sz m e).2 (sz m' e').1 (sz m' e').2) (40 :: (List.replicate n1 32 ++ l ++ C ++ l' ++ List.replicate n2 32 ++ [41])) := by
  have r1 := real_run h1
  have r2 := real_run h2
  have lC : C.length ≤ 5 := by rcases hC with rfl | rfl | rfl | rfl | rfl <;> decide
  refine ⟨by simp only [List.length_cons, List.length_append, List.length_replicate, List.length_nil]; (first | lia | omega), fun r hr => ⟨.pair l l', ?_, ⟨rfl, m, e, m', e', h1, h2, rfl, rfl, rfl, rfl⟩, rfl, rp_first (by decide)⟩⟩
  have e0 : (40 :: (List.replicate n1 32 ++ l ++ C ++ l' ++ List.replicate n2 32 ++ [41])) ++ r = 40 :: (List.replicate n1 32 ++ (l ++ (C ++ (l' ++ (List.replicate n2 32 ++ 41 :: r))))) := by
    simp only [List.cons_append, List.append_assoc, List.nil_append]
  rw [e0]
  obtain ⟨c, C', r3, e1, hc, g1, g2⟩ := comma_ok (r := List.replicate n2 32 ++ 41 :: r) hC r2
  have w1 : (List.replicate n1 32 ++ (l ++ (C ++ (l' ++ (List.replicate n2 32 ++ 41 :: r))))).dropWhile (· == 32) = l ++ (C ++ (l' ++ (List.replicate n2 32 ++ 41 :: r))) := by
    refine dw_rep 32 n1 fun x hx => ?_
    obtain ⟨c1, l1, e2, _, _, h32⟩ := run_head (r := C ++ (l' ++ (List.replicate n2 32 ++ 41 :: r))) r1
    rw [e2] at hx
    obtain rfl := Option.some.inj hx
    exact h32
  have s1 : ∀ X, ((l ++ (C ++ X)).takeWhile fun c => !stopC 192 c) = l ∧ ((l ++ (C ++ X)).dropWhile fun c => !stopC 192 c) = C ++ X := by
    intro X
    rw [e1]
    exact run_split r1 hc
  have s2 : ((l' ++ (List.replicate n2 32 ++ 41 :: r)).takeWhile fun c => !stopC 192 c) = l' ∧ ((l' ++ (List.replicate n2 32 ++ 41 :: r)).dropWhile fun c => !stopC 192 c) = List.replicate n2 32 ++ 41 :: r := by
    induction n2 with
    | zero => exact run_split r2 (by decide)
    | succ n => exact run_split r2 (by decide)
  have w2 : (List.replicate n2 32 ++ 41 :: r).dropWhile (· == 32) = 41 :: r := dw_rep 32 n2 fun x hx => by obtain rfl := Option.some.inj hx; decide
  have := Kon.pair (r0 := List.replicate n1 32 ++ (l ++ (C ++ (l' ++ (List.replicate n2 32 ++ 41 :: r))))) (r3 := r3) (r6 := r) (by rw [w1, (s1 _).2, g1]) (by rw [g2]; obtain ⟨c1, l1, e2, _⟩ := run_head (r := List.replicate n2 32 ++ 41 :: r) r2; rw [e2]; exact List.cons_ne_nil _ _) (by rw [g2, s2.2, w2]) hr
  rw [w1, (s1 _).1, g2, s2.1] at this
  exact this
end
section
open PySem PySem.W PySem.Calls PyProof.Rows
structure Row where
  kind : Int
  len : Int
  x : Wt
  T : List Nat
  times : Int
  null : Bool
noncomputable def Row.Ok (ρ : Row) : Prop := ItOk ρ.kind ρ.len ρ.x ρ.T ∧ 1 ≤ ρ.times ∧ ρ.times ≤ 3
noncomputable def Row.At (ρ : Row) (v : Value) (nx : List (Addr × Obj)) : Prop := ∃ a it v' nv t0 t1 t2 t3, v = .ref a ∧
  nx = (a, tupO [.ref it, .int ρ.times t0, .bool ρ.null] 0) :: (it, tupO [.int ρ.kind t1, .int ρ.len t2, v', .str (tx ρ.T) t3] 0) :: nv ∧ IsV ρ.x v' nv
noncomputable def RowTup (o : Obj) : Prop := o.cls = .type "tuple" ∧ ∃ v vs ep, o.data = .seq (v :: vs).toArray ep ∧ ((∃ a, v = .ref a) ∨ ∃ n t, v = .int n t)
theorem rt_ref {a : Addr} {vs : List Value} {ep : Nat} : RowTup (tupO (.ref a :: vs) ep) := ⟨rfl, _, _, _, rfl, .inl ⟨_, rfl⟩⟩
theorem rt_int {n : Int} {t : Tok} {vs : List Value} {ep : Nat} : RowTup (tupO (.int n t :: vs) ep) := ⟨rfl, _, _, _, rfl, .inr ⟨_, _, rfl⟩⟩
theorem isV_tup {x : Wt} {v : Value} {nx : List (Addr × Obj)} (h : IsV x v nx) : ∀ p ∈ nx, RowTup p.2 := by
  induction x with
  | non => exact h.elim
  | txt l => rw [h.2]; exact fun _ h => nomatch h
  | int n => rw [h.2]; exact fun _ h => nomatch h
  | bool b => rw [h.2]; exact fun _ h => nomatch h
  | real m e =>
    obtain ⟨_, _, _, _, rfl⟩ := h
    intro p hp
    rw [List.mem_singleton.mp hp]
    exact rt_int
  | cplx m e m' e' =>
    obtain ⟨_, _, _, _, _, _, _, _, rfl⟩ := h
    intro p hp
    simp only [List.mem_cons, List.not_mem_nil, or_false] at hp
    rcases hp with rfl | rfl | rfl
    · exact rt_ref
    · exact rt_int
    · exact rt_int
theorem Row.tup {ρ : Row} {v : Value} {nx : List (Addr × Obj)} (h : ρ.At v nx) : ∀ p ∈ nx, RowTup p.2 := by
  obtain ⟨a, it, v', nv, t0, t1, t2, t3, rfl, rfl, hv⟩ := h
  intro p hp
  rcases List.mem_cons.mp hp with rfl | hp
  · exact rt_ref
  rcases List.mem_cons.mp hp with rfl | hp
  · exact rt_int
  · exact isV_tup hv p hp
structure RowsAt (ρs : List Row) (vs : List Value) (nx : List (Addr × Obj)) : Prop where
  len : vs.length = ρs.length
  at' : ∀ (i : Nat) (ρ : Row) (v : Value), ρs[i]? = some ρ → vs[i]? = some v → ∃ nr, ρ.At v nr ∧ ∀ p ∈ nr, p ∈ nx
  tup : ∀ p ∈ nx, RowTup p.2
  ok : ∀ ρ ∈ ρs, ρ.Ok
theorem RowsAt.nil : RowsAt [] [] [] := ⟨rfl, (fun _ _ _ h => by simp at h), (fun _ h => nomatch h), (fun _ h => nomatch h)⟩
theorem RowsAt.snoc {ρs : List Row} {vs : List Value} {nx nr : List (Addr × Obj)} {ρ : Row} {v : Value} (h : RowsAt ρs vs nx) (hr : ρ.At v nr) (hk : ρ.Ok) : RowsAt (ρs ++ [ρ]) (vs ++ [v]) (nr ++ nx) where
  len := by simp [h.len]
  at' := fun i ρ' v' h1 h2 => by
    by_cases hi : i < ρs.length
    · rw [List.getElem?_append_left hi] at h1
      rw [List.getElem?_append_left (by rw [h.len]; exact hi)] at h2
      obtain ⟨nr', q1, q2⟩ := h.at' i ρ' v' h1 h2
      exact ⟨nr', q1, fun p hp => List.mem_append_right _ (q2 p hp)⟩
    · rw [List.getElem?_append_right (by (first | lia | omega))] at h1
      rw [List.getElem?_append_right (by rw [h.len]; (first | lia | omega)), h.len] at h2
      induction hz : i - ρs.length with
      | zero =>
        rw [hz] at h1 h2
        obtain rfl := Option.some.inj h1; obtain rfl := Option.some.inj h2
        exact ⟨nr, hr, fun p hp => List.mem_append_left _ hp⟩
      | succ n => rw [hz] at h1; simp at h1
  tup := fun p hp => (List.mem_append.mp hp).elim (Row.tup hr p) (h.tup p)
  ok := fun ρ' hp => (List.mem_append.mp hp).elim (h.ok ρ') fun q => by rw [List.mem_singleton.mp q]; exact hk
theorem Rst.sym {as : List Addr} : ∀ {nx : List (Addr × Obj)}, (∀ p ∈ nx, p.1 ∉ as) → Rst as nx nx
  | [], _ => .nil
  | _ :: _, h => .keep (h _ (.head _)) (Rst.sym fun p hp => h p (.tail _ hp))
theorem nr_cls {o : Obj} {c : Value} (h : o.cls = c) (hc : c ≠ .type "tuple") : ¬ RowTup o := fun q => hc (h.symm.trans q.1)
theorem nr_str {l : PySem.Str} {t : Tok} {vs : List Value} {ep : Nat} : ¬ RowTup (tupO (.str l t :: vs) ep) := by
  rintro ⟨_, v, vs', ep', e, h⟩
  injection e with e _
  have e2 := congrArg Array.toList e
  simp at e2
  obtain ⟨rfl, _⟩ := e2
  rcases h with ⟨_, h⟩ | ⟨_, _, h⟩ <;> obtain ⟨⟩ := h
theorem K.nr {k : K} {o : Obj} (h : k.IsO o) : ¬ RowTup o := by
  induction k
  · obtain ⟨_, _, _, rfl⟩ := h; exact nr_str
  · obtain ⟨_, _, _, _, rfl⟩ := h; exact nr_str
  · obtain ⟨_, _, _, rfl⟩ := h; exact nr_str
section
variable {prog : Program} {w : World} {A : Around} {E : Value → Shared → Prop} {s : Shared} {env : Env} {h₀ : Heap} {body : List Stmt} {Q : Flow → Shared → Prop} {target : Expr}
theorem unr_mono {L : Addr} {s₁ : Shared} {its : List (Addr × Obj)} {r1 r2 : (Str → Option Value) → List (Addr × Obj) → Prop} {f : Flow} {s₂ : Shared} (h : UnrPostW h₀ L s₁ its r1 Q f s₂) (k : ∀ m n, r1 m n → r2 m n) : UnrPostW h₀ L s₁ its r2 Q f s₂ := by
  have go : UnrEndW h₀ L s₁ its r1 s₂ → UnrEndW h₀ L s₁ its r2 s₂ := fun ⟨h', tk, m', n', e, F, N, o, r⟩ => ⟨h', tk, m', n', e, F, N, o, k _ _ r⟩
  induction f with
  | ret v => exact h
  | brk => exact h
  | next => exact go h
  | cont => exact go h
theorem items_E {ax : Addr} {lo : Obj} {vs : List Value} {I : Addr} {m₀ : Str → Option Value} {news : List (Addr × Obj)} (J : Nat → (Str → Option Value) → List (Addr × Obj) → Prop) (hj : J 0 m₀ news)
    (turn : ∀ i v m₁ news₁ T t h tk oE oI, vs[i]? = some v → J i m₁ news₁ → IsTup h T #[.int (i : Int) t, v] → Fr h₀ env.locals h m₁ → oE.cls = .type "enumerate" → oI.cls = .type "list_iterator" → News h₀ env.locals h ((I + 1, oE) :: (I, oI) :: news₁) →
      wpAny (model prog w) A (assign target env (.ref T)) (fun _ s₂ => wpAny (model prog w) A (execs body env) (UnrPostW h₀ env.locals { s with heap := h, toks := tk } [(I + 1, oE), (I, oI)] (fun m' n' => SubL [(ax, lo)] n' ∧ J (i + 1) m' n') Q) E s₂) E { s with heap := h, toks := tk })
    (done : ∀ m₁ news₁ h tk, J vs.length m₁ news₁ → Fr h₀ env.locals h m₁ → News h₀ env.locals h news₁ → Q .next { s with heap := h, toks := tk }) :
    ItemsRest prog w A E h₀ env target body Q s [(I + 1, "enumerate"), (I, "list_iterator")] [(ax, lo)] (enumItems 0 vs) m₀ news := by
  have key : ∀ (ws : List Value) (i : Nat) (m₁ : Str → Option Value) (news₁ : List (Addr × Obj)), vs.drop i = ws → i + ws.length = vs.length → J i m₁ news₁ →
      ItemsRest prog w A E h₀ env target body Q s [(I + 1, "enumerate"), (I, "list_iterator")] [(ax, lo)] (enumItems i ws) m₁ news₁ := by
    intro ws
    induction ws with
    | nil =>
      intro i m₁ news₁ _ hl hJ
      refine .zero fun h tk F N => done m₁ news₁ h tk ?_ F N
      rw [← hl]; exact hJ
    | cons v ws ih =>
      intro i m₁ news₁ hd hl hJ
      have hv : vs[i]? = some v := by
        have := congrArg List.head? hd
        rwa [List.head?_drop] at this
      refine .pair fun T t h tk hT F => ?_
      intro oE hE oI hI N
      refine wpAny_mono (turn i v m₁ news₁ T t h tk oE oI hv hJ hT F hE hI N) (fun _ s₂ q => wpAny_mono q (fun f s₃ q => unr_mono q fun m n r => ⟨r.1, ih (i + 1) m n ?_ ?_ r.2⟩) fun _ _ e => e) fun _ _ e => e
      · have := congrArg List.tail hd
        rwa [List.tail_drop] at this
      · rw [List.length_cons] at hl; (first | lia | omega)
  exact key vs 0 m₀ news (List.drop_zero) (by (first | lia | omega)) hj
theorem items_L {ax : Addr} {lo : Obj} {vs : List Value} {I : Addr} {m₀ : Str → Option Value} {news : List (Addr × Obj)} (J : Nat → (Str → Option Value) → List (Addr × Obj) → Prop) (hj : J 0 m₀ news)
    (turn : ∀ i v m₁ news₁ h tk oI, vs[i]? = some v → J i m₁ news₁ → Fr h₀ env.locals h m₁ → oI.cls = .type "list_iterator" → News h₀ env.locals h ((I, oI) :: news₁) →
      wpAny (model prog w) A (assign target env v) (fun _ s₂ => wpAny (model prog w) A (execs body env) (UnrPostW h₀ env.locals { s with heap := h, toks := tk } [(I, oI)] (fun m' n' => SubL [(ax, lo)] n' ∧ J (i + 1) m' n') Q) E s₂) E { s with heap := h, toks := tk })
    (done : ∀ m₁ news₁ h tk, J vs.length m₁ news₁ → Fr h₀ env.locals h m₁ → News h₀ env.locals h news₁ → Q .next { s with heap := h, toks := tk }) :
    ItemsRest prog w A E h₀ env target body Q s [(I, "list_iterator")] [(ax, lo)] (vs.map .val) m₀ news := by
  have key : ∀ (ws : List Value) (i : Nat) (m₁ : Str → Option Value) (news₁ : List (Addr × Obj)), vs.drop i = ws → i + ws.length = vs.length → J i m₁ news₁ →
      ItemsRest prog w A E h₀ env target body Q s [(I, "list_iterator")] [(ax, lo)] (ws.map .val) m₁ news₁ := by
    intro ws
    induction ws with
    | nil =>
      intro i m₁ news₁ _ hl hJ
      refine .zero fun h tk F N => done m₁ news₁ h tk ?_ F N
      rw [← hl]; exact hJ
    | cons v ws ih =>
      intro i m₁ news₁ hd hl hJ
      have hv : vs[i]? = some v := by
        have := congrArg List.head? hd
        rwa [List.head?_drop] at this
      refine .val fun h tk F => ?_
      intro oI hI N
      refine wpAny_mono (turn i v m₁ news₁ h tk oI hv hJ F hI N) (fun _ s₂ q => wpAny_mono q (fun f s₃ q => unr_mono q fun m n r => ⟨r.1, ih (i + 1) m n ?_ ?_ r.2⟩) fun _ _ e => e) fun _ _ e => e
      · have := congrArg List.tail hd
        rwa [List.tail_drop] at this
      · rw [List.length_cons] at hl; (first | lia | omega)
  exact key vs 0 m₀ news (List.drop_zero) (by (first | lia | omega)) hj
end
inductive Cell (ρ : Row) : List Nat → Prop
  | non (h : ρ.null = true) (h1 : ρ.times ≤ 1) : Cell ρ []
  | nul (h : ρ.null = true) : Cell ρ (strI ρ.times ++ [42])
  | one (h : ρ.null = false) (h1 : ρ.times ≤ 1) : Cell ρ ρ.T
  | rep (h : ρ.null = false) (h1 : 1 < ρ.times) : Cell ρ (strI ρ.times ++ [42] ++ ρ.T)
noncomputable def SepC (l : List Nat) : Prop := l = [44] ∨ l = [32, 44] ∨ l = [44, 32] ∨ l = [10, 44, 10] ∨ l = [44, 10, 32]
noncomputable def SepW (l : List Nat) : Prop := l = [32] ∨ l = [32, 32] ∨ l = [10] ∨ l = [32, 10, 32]
noncomputable def Sep (n' n : Bool) (l : List Nat) : Prop := SepC l ∨ (n' = false ∧ n = false ∧ SepW l)
noncomputable def flat (ps : List (List Nat × List Nat)) : List Nat := (ps.map fun p => p.1 ++ p.2).flatten
structure Spl (ρs : List Row) (ps : List (List Nat × List Nat)) (i : Nat) : Prop where
  len : ps.length = i
  cell : ∀ (j : Nat) (ρ : Row) (p : List Nat × List Nat), ρs[j]? = some ρ → ps[j]? = some p → Cell ρ p.2
  first : ∀ p, ps[0]? = some p → p.1 = []
  sep : ∀ (j : Nat) (ρ ρ' : Row) (p : List Nat × List Nat), ρs[j]? = some ρ' → ρs[j + 1]? = some ρ → ps[j + 1]? = some p → Sep ρ'.null ρ.null p.1
theorem Spl.nil (ρs : List Row) : Spl ρs [] 0 := ⟨rfl, (fun _ _ _ _ h => by simp at h), (fun _ h => by simp at h), (fun _ _ _ _ _ _ h => by simp at h)⟩
theorem flat_snoc (ps : List (List Nat × List Nat)) (p : List Nat × List Nat) : flat (ps ++ [p]) = flat ps ++ (p.1 ++ p.2) := by simp [flat]
theorem Spl.snoc {ρs : List Row} {ps : List (List Nat × List Nat)} {i : Nat} {p : List Nat × List Nat} {ρ : Row} (h : Spl ρs ps i) (hρ : ρs[i]? = some ρ) (hc : Cell ρ p.2) (h0 : i = 0 → p.1 = []) (hs : ∀ j ρ', i = j + 1 → ρs[j]? = some ρ' → Sep ρ'.null ρ.null p.1) :
    Spl ρs (ps ++ [p]) (i + 1) where
  len := by rw [List.length_append, h.len]; rfl
  cell := fun j ρ' p' h1 h2 => by
    rcases Nat.lt_trichotomy j i with q | q | q
    · rw [List.getElem?_append_left (by rw [h.len]; exact q)] at h2
      exact h.cell j ρ' p' h1 h2
    · subst q
      rw [← h.len, List.getElem?_concat_length] at h2
      obtain rfl := Option.some.inj h2
      rw [hρ] at h1; obtain rfl := Option.some.inj h1
      exact hc
    · rw [List.getElem?_eq_none (by rw [List.length_append, h.len, List.length_singleton]; (first | lia | omega))] at h2
      exact nomatch h2
  first := fun p' h2 => by
    by_cases q : i = 0
    · subst q
      have : ps = [] := List.eq_nil_of_length_eq_zero h.len
      subst this
      obtain rfl := Option.some.inj h2
      exact h0 rfl
    · rw [List.getElem?_append_left (by rw [h.len]; (first | lia | omega))] at h2
      exact h.first p' h2
  sep := fun j ρ1 ρ2 p' h1 h2 h3 => by
    rcases Nat.lt_trichotomy (j + 1) i with q | q | q
    · rw [List.getElem?_append_left (by rw [h.len]; exact q)] at h3
      exact h.sep j ρ1 ρ2 p' h1 h2 h3
    · rw [q, ← h.len, List.getElem?_concat_length] at h3
      obtain rfl := Option.some.inj h3
      rw [q, hρ] at h2; obtain rfl := Option.some.inj h2
      exact hs j ρ2 q.symm h1
    · rw [List.getElem?_eq_none (by rw [List.length_append, h.len, List.length_singleton]; (first | lia | omega))] at h3
      exact nomatch h3
theorem RowsAt.get {ρs : List Row} {vs : List Value} {nx : List (Addr × Obj)} {i : Nat} {v : Value} (h : RowsAt ρs vs nx) (hv : vs[i]? = some v) : ∃ ρ nr, ρs[i]? = some ρ ∧ ρ.Ok ∧ ρ.At v nr ∧ ∀ p ∈ nr, p ∈ nx := by
  have hi : i < vs.length := by
    rcases Nat.lt_or_ge i vs.length with q | q
    · exact q
    · rw [List.getElem?_eq_none q] at hv; exact nomatch hv
  have hi2 : i < ρs.length := by rw [← h.len]; exact hi
  have e := List.getElem?_eq_getElem hi2
  obtain ⟨nr, h1, h2⟩ := h.at' i _ v e hv
  exact ⟨_, nr, e, h.ok _ (List.getElem_mem hi2), h1, h2⟩
theorem cell_len {ρ : Row} {c : List Nat} (h : Cell ρ c) (h1 : 1 ≤ ρ.times) (h2 : ρ.times ≤ 3) (h3 : ρ.T.length ≤ 80) : c.length ≤ 90 := by
  have := strI_len (n := ρ.times) (by (first | lia | omega))
  induction h <;> (try simp only [List.length_append, List.length_cons, List.length_nil]) <;> (first | lia | omega)
theorem sep_len {a b : Bool} {l : List Nat} (h : Sep a b l) : l.length ≤ 3 := by
  rcases h with h | ⟨_, _, h⟩
  · rcases h with rfl | rfl | rfl | rfl | rfl <;> decide
  · rcases h with rfl | rfl | rfl | rfl <;> decide
end
section
open PySem PySem.W PySem.Calls PyProof.Rows
example : ∀ (w : World), (Mine.kk.heap_1 w.params).In default → PySem.Challenge.rw_no0260_01 = PySem.Challenge.rw_no0260_01 → True := by
  k_fill
  intros; trivial
theorem cont6 : bm82.contains (.type "BaseException") = true := by decide +kernel
section
variable {prog : Program} {w : World} {A₀ : Around} {E : Value → Shared → Prop} {s' : Shared} {base : Heap} {outer : List Env} {L a e d b : Addr} {ob : Obj} {m : Str → Option Value} {name : Str} {scope : Scope} {cd : Value}
  {n : Str} {b₀ : Stmt} {suite : List Stmt} {pos np : Pos} {rest : List ExceptHandler} {Q : Flow → Shared → Prop} {mean : ExcName → Option Value} {mg mb : Str → Option Value} {x : Str}
theorem caught_D (hA : A₀.frames = some outer) (hab : base.objs.size ≤ L) (hns : s'.heap.Ns L m) (R : FlyD base (envOf name scope L a cd :: outer) e d s'.heap)
    (X : (Mine.kk.heap_1 w.params).In base) (T : Top Mine.view (looseW Mine.view []) mean mg mb base) (ex : nsIn (Mine.kk.heap_1 w.params) mainGlobals x = some (some (.ref 82)))
    (hb : s'.heap.get? b = some ob) (hbd : ∃ es ep, ob.data = .dict es ep) (hbn : base.get? b = none) (hbL : b ≠ L)
    (k : ∀ h' tk od eo sl, Fr base L h' (fun y => if y = n then some (.ref e) else m y) → News base L h' [(e, eo), (d, od), (b, { ob with slots := sl })] → ExD d od → eo.cls = .ref 82 → eo.dict = some d → (∃ vs, eo.data = .fields vs) → (Mine.kk.heap_1 w.params).In base →
      wpAny (model prog w) ((A₀.deeper (envOf name scope L a cd)).mark (some (.ref e))) (execs (b₀ :: suite) (envOf name scope L a cd))
        (fun f s₄ => wpAny (model prog w) (A₀.deeper (envOf name scope L a cd)) (do bindName (envOf name scope L a cd) n .none; unbindBehindTheSuite (envOf name scope L a cd) n pos) (fun _ s₅ => Q f s₅) E s₄)
        (AsSuiteRaised (model prog w) ((A₀.deeper (envOf name scope L a cd)).mark (some (.ref e))) (envOf name scope L a cd) n pos (notedBy (model prog w) ((A₀.deeper (envOf name scope L a cd)).mark (some (.ref e))) (envOf name scope L a cd) (cameBackBy (model prog w) (A₀.deeper (envOf name scope L a cd)) (envOf name scope L a cd) E)))
        { s' with heap := h', toks := tk })
    (hk : scope.kind = .function := by rfl) (hlo : (envOf name scope L a cd).kindOf n = some .local := by rfl) (hx : (envOf name scope L a cd).kindOf x = some .globalImplicit := by rfl) (hd : (x == ("__debug__" : Str)) = false := by decide) :
    wpAny (model prog w) (A₀.deeper (envOf name scope L a cd)) (noteFrame (.ref e) (envOf name scope L a cd))
      (fun _ s₂ => wpAny (model prog w) (A₀.deeper (envOf name scope L a cd)) (setFlight (.ref e) none) (fun _ s₃ =>
        wpAny (model prog w) (A₀.deeper (envOf name scope L a cd)) (handleBy (.ref e) (envOf name scope L a cd) (.ExceptHandler (some (.Name x np)) (some n) (b₀ :: suite) pos :: rest)) Q E s₃) E s₂) E s' := by
  obtain ⟨B, t, od, hB, hBd, hbd0, hod, hfl, hdict⟩ := R
  have F : ∀ h', base.StaysIn h' → s'.heap.UpToSlots h' → Fr base L h' m := fun h' k1 k2 => ⟨k2.ns hns, k1, hab⟩
  have q1 := wpAny_looks_onW (M := model prog w) (A := A₀.deeper (envOf name scope L a cd)) (E := fun _ _ => False) (Q := fun _ s'' => ∃ h', s'' = { s' with heap := h' } ∧ Heap.HeldW B (envOf name scope L a cd :: outer) e (.ref 82) (.ref t) L h' ∧ s'.heap.UpToSlots h')
    (Around.frames_deeper (env := envOf name scope L a cd) hA) rfl hfl fun h₄ x1 x2 => ⟨h₄, rfl, x1, x2⟩
  refine wpAny_mono (kp_wp (kp_note _ _) hdict q1) ?_ fun _ _ x => x.1.elim
  rintro _ s'' ⟨⟨h₄, rfl, hheld₄, hsm₄⟩, hd₄⟩
  have q2 := wpAny_landsW (M := model prog w) (A := A₀.deeper (envOf name scope L a cd)) (s := { s' with heap := h₄ }) (E := fun _ _ => False) (Q := fun _ s'' => ∃ h', s'' = { s' with heap := h' } ∧ Heap.FlyingW B (envOf name scope L a cd :: outer) e (.ref 82) (.ref t) h' ∧ h₄.UpToSlots h')
    hheld₄ fun h₅ x1 x2 => ⟨h₅, rfl, x1, x2⟩
  refine wpAny_mono (kp_wp (kp_setFlight _ _) hd₄ q2) ?_ fun _ _ x => x.1.elim
  rintro _ s'' ⟨⟨h₅, rfl, hheld, hsm₅'⟩, hd₅⟩
  have hsm₅ := hsm₄.trans hsm₅'
  have hheld' := flyingW_base hB hheld
  have F₅ := F h₅ hheld'.1 hsm₅
  obtain ⟨ob', hob', hobc⟩ := hheld'.there
  obtain ⟨nm, q', k0, k1, k2, k3, k5, hC⟩ := c82 w
  have hC₅ := F₅.keep _ _ (X _ _ hC)
  refine wpAny_handleBy_cons (codeAny_handlers_test (name_K F₅ X (topRead_of T) ex ?_ hk hx hd)) (by intro q; obtain ⟨⟩ := q)
  refine wpAny_excMatches_sub_self hC₅ hob' hobc cont6 (codeAny_handlers_suite_as ?_)
  have q3 := lands_againW (M := model prog w) (A := (A₀.deeper (envOf name scope L a cd)).mark (some (.ref e))) (s := { s' with heap := h₅ }) (E := fun _ _ => False) (Q := fun _ s'' => ∃ h', s'' = { s' with heap := h' } ∧ Heap.FlyingW B (envOf name scope L a cd :: outer) e (.ref 82) (.ref t) h' ∧ h₅.UpToSlots h')
    hheld fun h₆ x1 x2 => ⟨h₆, rfl, x1, x2⟩
  refine wpAny_mono (kp_wp (kp_setFlight _ _) hd₅ q3) ?_ fun _ _ x => x.1.elim
  rintro _ s'' ⟨⟨h₆, rfl, hfl₆, hsm₆⟩, hd₆⟩
  have hfl₆' := flyingW_base hB hfl₆
  have hsm := hsm₅.trans hsm₆
  have F₆ := F h₆ hfl₆'.1 hsm
  obtain ⟨oe, ws, hoe, hoec, hoed, hoe0⟩ := hfl₆'.first
  obtain ⟨oe', hoe', hdd⟩ := hd₆
  have hoo : oe' = oe := by
    have z := hoe'
    rw [show Heap.get? h₆ e = some oe from hoe] at z
    exact (Option.some.inj z).symm
  subst hoo
  obtain ⟨es, ep, hob2⟩ := hbd
  obtain ⟨sl, hsl⟩ := hsm b ob hb fun vs q => by rw [hob2] at q; obtain ⟨⟩ := q
  have hL : B.get? L = none := by
    obtain ⟨_, ⟨L', _, hf, hn', _⟩, _⟩ := hfl.2.2.1
    obtain rfl : L = L' := Option.some.inj hf
    exact hn'
  have N₆ : News base L h₆ [(e, oe'), (d, od), (b, { ob with slots := sl })] := by
    intro p hp
    simp only [List.mem_cons, List.not_mem_nil, or_false] at hp
    rcases hp with rfl | rfl | rfl
    · refine ⟨hoe, fun q => ?_, hfl₆'.2.1⟩
      obtain ⟨oL, es', ep', h1, h2, _⟩ := F₆.ns
      have q' : e = L := q
      subst q'
      rw [show Heap.get? h₆ e = some oe' from hoe] at h1
      obtain rfl := Option.some.inj h1
      rw [hoed] at h2; obtain ⟨⟩ := h2
    · refine ⟨hfl₆.1 _ _ hBd, fun q => ?_, hbd0⟩
      have q' : d = L := q
      rw [q', hL] at hBd; exact nomatch hBd
    · exact ⟨hsl, hbL, hbn⟩
  refine stN F₆ N₆ (fun h₇ F₇ N₇ => ?_) hk hlo
  exact k h₇ _ od oe' sl F₇ N₇ hod hoec hdd ⟨_, hoed⟩ X
end
theorem call_ML {prog : Program} {w : World} {A : Around} {s : Shared} {base g : Heap} {outer : List Env} {news : List (Addr × Obj)}
    {mean : ExcName → Option Value} {mg mb : Str → Option Value}
    {R : Result → Shared → Prop} {name qual : Str} {params : Arguments} {body : List Stmt} {scope : Scope} {dV kV doc pm cdv ct oc : Value} {an od : Option Addr} {osl : Array (Option Value)} {f : Addr} {args : Args} {binds : List (Str × Value)}
    (C : Cx w mean mg mb A base outer g s.heap) (N : Led g s.heap news) (hbs : base.objs.size ≤ s.heap.objs.size)
    (ho : (Mine.kk.heap_1 w.params).lookup f = some ⟨oc, od, .func (fnOf name qual params body scope dV kV doc pm an cdv ct), osl⟩)
    (hcd : codeIn (Mine.kk.heap_1 w.params) cdv qual = true) (hroom : A.depth < recursionLimit)
    (hbind : BindsTo s (fnOf name qual params body scope dV kV doc pm an cdv ct) args binds) (hloc : ∀ y ∈ binds, scope.names.lookup y.1 = some .local)
    (h : ∀ L' h₁, base.objs.size ≤ L' → Fr g L' h₁ (fun y => binds.reverse.lookup y) → News g L' h₁ news → (∀ p ∈ news, p.1 < L') → Below A base outer g → (Mine.kk.heap_1 w.params).In g → Top Mine.view (looseW Mine.view []) mean mg mb g →
      wpAny (model prog w) (A.deeper (envOf qual scope L' f cdv)) (execs body (envOf qual scope L' f cdv))
        (fun fl s' => R (.ok (.ret (match fl with | .ret v => v | _ => .none))) s')
        (fun e s' => wpAny (model prog w) (A.deeper (envOf qual scope L' f cdv)) (leaving (envOf qual scope L' f cdv) e) (fun _ s'' => R (.error e) s'') (fun e' s'' => R (.error e') s'') s')
        { s with heap := h₁, toks := s.toks + binds.length })
    (hco : scope.isCoroutine = false := by rfl) (hgen : scope.isGenerator = false := by rfl) (hk : scope.kind = .function := by rfl)
    (hcell : ∀ x ∈ scope.names, x.2 ≠ .cell := by decide) : codeAny (model prog w) A (.call (.ref f) args) R s := by
  refine codeAny_call_def (fd := fnOf name qual params body scope dV kV doc pm an cdv ct) (body := body) (binds := binds) hroom (C.st _ _ (C.X _ _ ho)) rfl (C.T.nolimit.keeps C.st) (codeRec_of (C.X.keeps C.st) hcd) rfl hbind hcell hloc (fun h₁ hns hk₁ => ?_) hco hgen hk
  exact h s.heap.objs.size h₁ hbs ⟨hns, fun b o e => hk₁ b o (C.st b o e), C.sz⟩
    (fun p hp => ⟨hk₁ _ _ (N p hp).1, Nat.ne_of_lt (Heap.lt_size (N p hp).1), (N p hp).2⟩) (fun p hp => Heap.lt_size (N p hp).1) C.B C.X C.T
noncomputable def ConE (prog : Program) (w : World) (f : Addr) (args : List Value) (dq uq : Nat) (muts : List (Addr × Obj)) : Prop :=
  ∀ (mean : ExcName → Option Value) (mg mb : Str → Option Value) (dp un : Nat) (gd : Option (List Code)) (base g : Heap) (outer : List Env) (s : Shared) (R : Result → Shared → Prop) (b : Addr) (ob : Obj),
    Cx w mean mg mb (aT dp un gd outer) base outer g s.heap → Led g s.heap muts → dp + dq < recursionLimit → un + uq < cLine → base.objs.size ≤ s.heap.objs.size →
    g.get? b = some ob → (∃ es ep, ob.data = .dict es ep) → base.get? b = none → (Mine.kk.heap_1 w.params).In base → Top Mine.view (looseW Mine.view []) mean mg mb base →
    (∀ h' tk' sl, base.StaysIn h' → h'.get? b = some { ob with slots := sl } → R (.ok (.ret (.bool true))) { s with heap := h', toks := tk' }) →
    codeAny (model prog w) (aT dp un gd outer) (.call (.ref f) ⟨args, []⟩) R s
theorem dm_look {h : Heap} {d : Addr} {od : Obj} {mA : Str → Option Value} {x : Str} {v : Value} (D : DM d od mA) (e : h.get? d = some od) (hv : mA x = some v) : lookIn x od = some (some v) := by
  obtain ⟨o, es, ep, h1, h2, _, _, h3⟩ := D h e
  rw [e] at h1; obtain rfl := Option.some.inj h1
  have q := h3 x
  rw [hv] at q
  unfold nsFind findBy at q
  unfold lookIn
  rw [h2]
  dsimp only
  rw [← Array.find?_toList] at q
  induction hf : es.toList.find? (·.key.isStr x) with
  | none => rw [hf] at q; exact nomatch q
  | some en => rw [hf] at q; obtain rfl := Option.some.inj q; rfl
theorem fx82 (w : World) : findIn (Mine.kk.heap_1 w.params) (.ref 82) "code" = some none := by k_is
theorem ga82 (w : World) : findIn (Mine.kk.heap_1 w.params) (.ref 82) "__getattribute__" = some (some (.builtin "BaseException.__getattribute__")) := by k_is
theorem gg82 (w : World) : findIn (Mine.kk.heap_1 w.params) (.ref 82) "__getattr__" = some none := by k_is
theorem fo82 {w : World} {od : Obj} {v : Value} (hl : lookIn (PySem.Str.ofString "code") od = some (some v)) : findObj (Mine.kk.heap_1 w.params) 82 (some od) (PySem.Str.ofString "code") = some (.value v) := by
  obtain ⟨cd, hcd, hdi⟩ := hd82 w
  unfold findObj
  rw [hcd]
  simp only [Option.bind_some]
  have fx := fx82 w
  rw [show findIn (Mine.kk.heap_1 w.params) (.ref 82) (PySem.Str.ofString "code") = some none from fx]
  have ho : PySem.W.ownOf cd (some od) (PySem.Str.ofString "code") = some (some v) := by
    unfold PySem.W.ownOf
    rw [hdi, if_pos rfl]
    exact hl
  simp only [Option.bind_some]
  rw [ho]
  rfl
section
variable {prog : Program} {w : World} {A : Around} {E : Value → Shared → Prop} {hp : Heap} {gn : Array GenState} {dw : Drawn} {tks : Nat} {os : OsState} {e : Addr} {eo od : Obj} {v : Value}
theorem check_gaX {M : Model} {nameV : Value} {Q : Unit → Shared → Prop} (X : (Mine.kk.heap_1 w.params).In hp) (hx : hp.get? e = some eo) (h1 : eo.cls = .ref 82) (hq : Q () ⟨hp, gn, dw, tks, os⟩) :
    wpAny M A (checkBuiltinCall "BaseException.__getattribute__" ⟨[.ref e, nameV], []⟩) Q E ⟨hp, gn, dw, tks, os⟩ := by
  have hk : builtinKind "BaseException.__getattribute__" = some .slot := by decide +kernel
  have hsplit : splitId "BaseException.__getattribute__" = some ("BaseException", "__getattribute__") := by decide +kernel
  have hcB := cont5
  have ha := F.args_bexc_ga (.ref e) nameV
  obtain ⟨nm, q, k0, k1, k2, k3, k5, hl⟩ := c82 w
  have hC := X _ _ hl
  simp only [checkBuiltinCall, hk, hsplit]
  refine wpAny_bind ?_
  · unfold isInstance
    repeat (first | (with_reducible refine wpAny_loadPart_at hx ?_; rw [h1]) | (with_reducible refine wpAny_isSubtype_exc hC ?_; rw [hcB]) | wp_step)
    exact hq
theorem getX1 {Q : Value → Shared → Prop} (X : (Mine.kk.heap_1 w.params).In hp) (I : InstAt hp e eo 82 (some od)) (hf : findObj (Mine.kk.heap_1 w.params) 82 (some od) (PySem.Str.ofString "code") = some (.value v)) (hh : handedIn v = true)
    (h : Q v ⟨hp, gn, dw, tks + 1, os⟩) : wpAny (model prog w) A (getAttr (.ref e) "code" true) Q E ⟨hp, gn, dw, tks, os⟩ := by
  have L0 := I.type (M := model prog w)
  have L1 := looks_findIn (M := model prog w) X (ga82 w)
  have L2 := looks_findIn (M := model prog w) X (gg82 w)
  have L3 := looks_find (M := model prog w) X I hf
  have f3 := PySem.F.attrBase_Exception.ga.bind (.ref e)
  have hx2 : (Value.builtin "BaseException.__getattribute__" == Value.builtin "object.__getattribute__") = false := by decide +kernel
  have hx1 : (onTheHeap (Value.ref 82) && Value.builtin "BaseException.__getattribute__" == Value.builtin "object.__getattribute__") = false := by rw [hx2]; rfl
  unfold getAttr getAttrBy
  refine wpAny_bind (wpAny_mkText (wpAny_holding (wpAny_bind (L0.at (wpAny_bind (L1.at ?_))))))
  simp only [hx1, Bool.false_eq_true, if_false]
  unfold getAttrByItsOwn
  refine wpAny_bind (L2.at ?_)
  repeat (any_goals (first | assumption | wp_step))
  refine codeAny_call_builtin PySem.F.attrBase_Exception.ga.plain PySem.F.entry_bexc_ga (check_gaX X I.at_ I.cls ?_)
  unfold Builtin.«object.__getattribute__»
  have hT := L0
  repeat (any_goals (first | assumption | (with_reducible refine wpAny_loadPart_at I.at_ ?_; rw [I.cls]) | (refine L3.at ?_) | wp_step))
  show wpAny _ _ (handedOut v) _ _ _
  rw [handedOut_of hh]
  exact wpAny_pure h
theorem getX {s : Shared} {g : Heap} {L d : Addr} {m : Str → Option Value} {news : List (Addr × Obj)} {Q : Value → Shared → Prop}
    (F : Fr g L s.heap m) (X : (Mine.kk.heap_1 w.params).In g) (N : News g L s.heap news) (he : (e, eo) ∈ news) (hdm : (d, od) ∈ news) (hod : ExD d od) (h1 : eo.cls = .ref 82) (h2 : eo.dict = some d) (h3 : ∃ vs, eo.data = .fields vs)
    (h : ∀ t k, Q (.int (-1) t) { s with toks := k }) : wpAny (model prog w) A (getAttr (.ref e) "code" true) Q E s := by
  obtain ⟨hp, gn, dw, tks, os⟩ := s
  obtain ⟨mA, D, tk, hc⟩ := hod
  have hd' := (N _ hdm).1
  obtain ⟨vs, hvs⟩ := h3
  exact getX1 (v := .int (-1) tk) (X.keeps F.keep) ⟨(N _ he).1, h1, by unfold notCls; rw [hvs], by rw [h2]; exact hd'⟩ (fo82 (dm_look D hd' hc)) rfl (h tk _)
end
end
section
open PySem PySem.W PySem.Calls PyProof.Rows
noncomputable def tl (ps : List (List Nat × List Nat)) (en : List Nat) (i : Nat) : List Nat := flat (ps.drop i) ++ en
theorem tl_at {ps : List (List Nat × List Nat)} {en : List Nat} {i : Nat} {p : List Nat × List Nat} (h : ps[i]? = some p) : tl ps en i = p.1 ++ (p.2 ++ tl ps en (i + 1)) := by
  have hi : i < ps.length := by
    rcases Nat.lt_or_ge i ps.length with q | q
    · exact q
    · rw [List.getElem?_eq_none q] at h; obtain ⟨⟩ := h
  rw [List.getElem?_eq_getElem hi] at h
  obtain rfl := Option.some.inj h
  unfold tl
  rw [List.drop_eq_getElem_cons hi]
  show ((ps[i].1 ++ ps[i].2) ++ flat (ps.drop (i + 1))) ++ en = _
  rw [List.append_assoc, List.append_assoc]
theorem tl_end {ps : List (List Nat × List Nat)} {en : List Nat} : tl ps en ps.length = en := by simp [tl, flat]
noncomputable def EnOk (sl : Bool) (en : List Nat) : Prop := (sl = true ∧ (en = [44, 47] ∨ en = [32, 47] ∨ en = [44, 10, 47, 120])) ∨ (sl = false ∧ (en = [] ∨ en = [32] ∨ en = [10] ∨ en = [32, 44]))
structure Text (ρs : List Row) (ps : List (List Nat × List Nat)) (en : List Nat) (sl : Bool) : Prop where
  spl : Spl ρs ps ρs.length
  ok : ∀ ρ ∈ ρs, ρ.Ok
  en : EnOk sl en
  last : ∀ ρ, ρs[ρs.length - 1]? = some ρ → ρ.null = true → sl = true
noncomputable def Stt (ps : List (List Nat × List Nat)) (en : List Nat) (sl : Bool) (i : Nat) (P : PS) : Prop :=
  P.left ≤ 0 ∧ ((P.don = false ∧ P.beh = false ∧ ∃ p, ps[i]? = some p ∧ P.rest.dropWhile gap = (p.2 ++ tl ps en (i + 1)).dropWhile gap) ∨
    (P.don = false ∧ P.beh = false ∧ sl = true ∧ i = ps.length ∧ ∃ r, P.rest.dropWhile gap = 47 :: r) ∨
    (P.don = false ∧ P.beh = true ∧ 0 < i ∧ P.rest = tl ps en i) ∨
    (P.don = true ∧ sl = true ∧ i = ps.length))
noncomputable def want (ρ : Row) : Wt := if ρ.null then .non else ρ.x
noncomputable def Rdg (ρ : Row) (ps : List (List Nat × List Nat)) (en : List Nat) (sl : Bool) (i : Nat) (t : Nat) (P : PS) : Prop :=
  (t = 0 ∧ Stt ps en sl i P) ∨ ((t : Int) = ρ.times ∧ Stt ps en sl (i + 1) P) ∨
  (0 < t ∧ P.rest = tl ps en (i + 1) ∧ P.beh = true ∧ P.don = false ∧ P.left = ρ.times - t ∧ ((ρ.null = true ∧ P.held = none) ∨ (ρ.null = false ∧ ∃ k, P.held = some k ∧ Val ρ.kind ρ.len k ρ.x)))
theorem rdg_done {ρ : Row} {ps : List (List Nat × List Nat)} {en : List Nat} {sl : Bool} {i t : Nat} {P : PS} (h : Rdg ρ ps en sl i t P) (h1 : 1 ≤ ρ.times) (ht : (t : Int) = ρ.times) : Stt ps en sl (i + 1) P := by
  rcases h with ⟨rfl, _⟩ | ⟨_, h⟩ | ⟨h0, hr, hb, hd, hl, _⟩
  · (first | lia | omega)
  · exact h
  · exact ⟨by (first | lia | omega), .inr (.inr (.inl ⟨hd, hb, Nat.succ_pos _, hr⟩))⟩
theorem sepC_ok {l r : List Nat} (h : SepC l) : ∃ y, (l ++ r).dropWhile gap = 44 :: y ∧ y.dropWhile gap = r.dropWhile gap ∧ sepB (sg (l ++ r)) = true := by
  rcases h with rfl | rfl | rfl | rfl | rfl
  · exact ⟨_, rfl, rfl, rfl⟩
  · exact ⟨_, rfl, rfl, rfl⟩
  · exact ⟨_, rfl, rfl, rfl⟩
  · exact ⟨_, rfl, rfl, rfl⟩
  · exact ⟨_, rfl, rfl, rfl⟩
theorem sepW_ok {l r : List Nat} (h : SepW l) : (l ++ r).dropWhile gap = r.dropWhile gap ∧ sepB (sg (l ++ r)) = true := by
  rcases h with rfl | rfl | rfl | rfl <;> exact ⟨rfl, rfl⟩
theorem get_ex {α : Type} {l : List α} {i : Nat} (h : i < l.length) : ∃ p, l[i]? = some p := ⟨_, List.getElem?_eq_getElem h⟩
theorem Text.psl {ρs : List Row} {ps : List (List Nat × List Nat)} {en : List Nat} {sl : Bool} (h : Text ρs ps en sl) : ps.length = ρs.length := h.spl.len
theorem tl_sep {ρs : List Row} {ps : List (List Nat × List Nat)} {en : List Nat} {sl : Bool} {i : Nat} (h : Text ρs ps en sl) (hi : i < ρs.length) : sepB (sg (tl ps en (i + 1))) = true := by
  by_cases hl : i + 1 < ρs.length
  · obtain ⟨p1, hp⟩ := get_ex (l := ps) (i := i + 1) (by rw [h.psl]; exact hl)
    have hs := h.spl.sep i _ _ _ (List.getElem?_eq_getElem hi) (List.getElem?_eq_getElem hl) hp
    rw [tl_at hp]
    rcases hs with hs | ⟨_, _, hs⟩
    · obtain ⟨_, _, _, q⟩ := sepC_ok (r := p1.2 ++ tl ps en (i + 1 + 1)) hs
      exact q
    · exact (sepW_ok hs).2
  · have e : i + 1 = ps.length := by rw [h.psl]; (first | lia | omega)
    rw [e, tl_end]
    rcases h.en with ⟨_, rfl | rfl | rfl⟩ | ⟨_, rfl | rfl | rfl | rfl⟩ <;> rfl
theorem cell_out {ρs : List Row} {ps : List (List Nat × List Nat)} {en : List Nat} {sl : Bool} {i : Nat} {ρ : Row} {p : List Nat × List Nat} {left : Int} {held : Option K} (h : Text ρs ps en sl) (hρ : ρs[i]? = some ρ) (hp : ps[i]? = some p) (hleft : left ≤ 0) :
    ∃ o P', Out left held ((p.2 ++ tl ps en (i + 1)).dropWhile gap) o P' ∧ (p.2 ++ tl ps en (i + 1)).dropWhile gap ≠ [] ∧ ((o = none ∧ want ρ = .non) ∨ ∃ k, o = some k ∧ Val ρ.kind ρ.len k (want ρ)) ∧ Rdg ρ ps en sl i 1 P' ∧
      (ρ.null = false → (p.2 ++ tl ps en (i + 1)).dropWhile gap = p.2 ++ tl ps en (i + 1) ∧ sg (p.2 ++ tl ps en (i + 1)) ≠ [44]) := by
  have hi : i < ρs.length := by
    rcases Nat.lt_or_ge i ρs.length with q | q
    · exact q
    · rw [List.getElem?_eq_none q] at hρ; obtain ⟨⟩ := hρ
  have hok : ρ.Ok := by
    rw [List.getElem?_eq_getElem hi] at hρ; obtain rfl := Option.some.inj hρ
    exact h.ok _ (List.getElem_mem hi)
  obtain ⟨⟨hTl, hit⟩, ht1, ht3⟩ := hok
  have hs := tl_sep h hi
  have hc := h.spl.cell i ρ p hρ hp
  have num : ∀ r, ∃ c d, strI ρ.times ++ [42] ++ r = c :: d ∧ 48 ≤ c ∧ c ≤ 57 ∧ rp (strI ρ.times ++ [42] ++ r) = (ρ.times, r) := by
    intro r
    have e1 : strI ρ.times = digs ρ.times.natAbs := strI_pos (by (first | lia | omega))
    obtain ⟨d1, d2, _, _⟩ := digs_ok (n := ρ.times.natAbs) (by (first | lia | omega))
    have e2 := rp_rep (n := ρ.times.natAbs) (r := r) (by (first | lia | omega))
    rw [e1]
    induction hd : digs ρ.times.natAbs with
    | nil => exact absurd hd d2
    | cons c l =>
      have := d1 c (by rw [hd]; exact .head _)
      refine ⟨c, l ++ [42] ++ r, by simp, this.1, this.2, ?_⟩
      rw [hd] at e2
      rw [List.append_assoc]
      show rp (c :: l ++ 42 :: r) = _
      rw [e2]
      congr 1
      (first | lia | omega)
  have hd0 : ∀ c d, (48 ≤ c ∧ c ≤ 57) → (c :: d).dropWhile gap = c :: d ∧ sg (c :: d) ≠ [47] ∧ sg (c :: d) ≠ [44] := by
    intro c d hcd
    have g1 : gap c = false := by simp [gap]; (first | lia | omega)
    have h10 : c ≠ 10 := by (first | lia | omega)
    have e : sg (c :: d) = [c] := by simp [sg, h10]
    rw [e]
    refine ⟨by rw [List.dropWhile_cons, g1]; rfl, fun q => ?_, fun q => ?_⟩ <;> (have := (List.cons.inj q).1; (first | lia | omega))
  have hT0 : ∀ z, sepB (sg z) = false → z.dropWhile gap = z ∧ sg z ≠ [47] ∧ sg z ≠ [44] ∧ z ≠ [] := by
    intro z hz
    induction z with
    | nil => obtain ⟨⟩ := hz
    | cons c d =>
      by_cases h10 : c = 10
      · simp [sg, h10, sepB] at hz
      · simp [sg, h10, sepB] at hz
        obtain ⟨⟨a1, a2⟩, a3⟩ := hz
        have g1 : gap c = false := by simp [gap, h10, a1]
        have e : sg (c :: d) = [c] := by simp [sg, h10]
        rw [e]
        exact ⟨by rw [List.dropWhile_cons, g1]; rfl, fun q => a3 (List.cons.inj q).1, fun q => a2 (List.cons.inj q).1, List.cons_ne_nil _ _⟩
  obtain ⟨pa, pb⟩ := p
  dsimp only at hc ⊢
  induction hc with
  | non hn h1 =>
    have hw : want ρ = .non := by unfold want; rw [hn]; rfl
    have ht : ρ.times = 1 := by (first | lia | omega)
    show ∃ o P', Out left held (([] ++ tl ps en (i + 1)).dropWhile gap) o P' ∧ _
    rw [List.nil_append]
    by_cases hl : i + 1 < ρs.length
    · obtain ⟨p1, hp'⟩ := get_ex (l := ps) (i := i + 1) (by rw [h.psl]; exact hl)
      have hs' := h.spl.sep i _ _ _ hρ (List.getElem?_eq_getElem hl) hp'
      rw [tl_at hp']
      rcases hs' with hs' | ⟨q, _⟩
      · obtain ⟨y, e1, e2, _⟩ := sepC_ok (r := p1.2 ++ tl ps en (i + 1 + 1)) hs'
        rw [e1]
        refine ⟨none, _, .comma, List.cons_ne_nil _ _, .inl ⟨rfl, hw⟩, .inr (.inl ⟨by rw [ht]; rfl, hleft, .inl ⟨rfl, rfl, _, hp', e2⟩⟩), fun q => by rw [hn] at q; obtain ⟨⟩ := q⟩
      · rw [hn] at q; exact nomatch q
    · have e : i + 1 = ps.length := by rw [h.psl]; (first | lia | omega)
      have hsl : sl = true := h.last ρ (by rw [show ρs.length - 1 = i by (first | lia | omega)]; exact hρ) hn
      rw [e, tl_end]
      have fin : ∀ (r : List Nat) (z : List Nat), en.dropWhile gap = 44 :: r → r.dropWhile gap = 47 :: z → ∃ o P', Out left held (en.dropWhile gap) o P' ∧ en.dropWhile gap ≠ [] ∧ ((o = none ∧ want ρ = .non) ∨ ∃ k, o = some k ∧ Val ρ.kind ρ.len k (want ρ)) ∧ Rdg ρ ps en sl i 1 P' ∧ (ρ.null = false → en.dropWhile gap = [] ++ en ∧ sg ([] ++ en) ≠ [44]) := by
        intro r z e1 e2
        rw [e1]
        exact ⟨none, _, .comma, List.cons_ne_nil _ _, .inl ⟨rfl, hw⟩, .inr (.inl ⟨by rw [ht]; rfl, hleft, .inr (.inl ⟨rfl, rfl, hsl, e, z, e2⟩)⟩), fun q => by rw [hn] at q; exact nomatch q⟩
      rcases h.en with ⟨_, rfl | rfl | rfl⟩ | ⟨q, _⟩
      · exact fin _ _ rfl rfl
      · exact ⟨none, _, .slash, List.cons_ne_nil _ _, .inl ⟨rfl, hw⟩, .inr (.inl ⟨by rw [ht]; rfl, hleft, .inr (.inr (.inr ⟨rfl, hsl, e⟩))⟩), fun q => by rw [hn] at q; exact nomatch q⟩
      · exact fin _ _ rfl rfl
      · rw [hsl] at q; exact nomatch q
  | nul hn =>
    have hw : want ρ = .non := by unfold want; rw [hn]; rfl
    obtain ⟨c, d, e1, c1, c2, e2⟩ := num (tl ps en (i + 1))
    obtain ⟨g1, g2, g3⟩ := hd0 c d ⟨c1, c2⟩
    show ∃ o P', Out left held ((strI ρ.times ++ [42] ++ tl ps en (i + 1)).dropWhile gap) o P' ∧ _
    rw [e1] at e2
    rw [e1, g1]
    exact ⟨none, _, .null g2 g3 e2 ht1 hs, List.cons_ne_nil _ _, .inl ⟨rfl, hw⟩, .inr (.inr ⟨Nat.one_pos, rfl, rfl, rfl, rfl, .inl ⟨hn, rfl⟩⟩), fun q => by rw [hn] at q; exact nomatch q⟩
  | one hn h1 =>
    have hw : want ρ = ρ.x := by unfold want; rw [hn]; rfl
    have ht : ρ.times = 1 := by (first | lia | omega)
    obtain ⟨k, hk, hv, hsb, hrp⟩ := hit _ hs
    obtain ⟨g1, g2, g3, g4⟩ := hT0 _ hsb
    show ∃ o P', Out left held ((ρ.T ++ tl ps en (i + 1)).dropWhile gap) o P' ∧ _
    rw [g1]
    exact ⟨some k, _, .konst g2 g3 hrp (Int.le_refl 1) hsb hk, g4, .inr ⟨k, rfl, by rw [hw]; exact hv⟩, .inr (.inr ⟨Nat.one_pos, rfl, rfl, rfl, by rw [ht]; rfl, .inr ⟨hn, k, rfl, hv⟩⟩), fun _ => ⟨rfl, g3⟩⟩
  | rep hn h1 =>
    have hw : want ρ = ρ.x := by unfold want; rw [hn]; rfl
    obtain ⟨k, hk, hv, hsb, hrp⟩ := hit _ hs
    obtain ⟨c, d, e1, c1, c2, e2⟩ := num (ρ.T ++ tl ps en (i + 1))
    obtain ⟨g1, g2, g3⟩ := hd0 c d ⟨c1, c2⟩
    show ∃ o P', Out left held (((strI ρ.times ++ [42] ++ ρ.T) ++ tl ps en (i + 1)).dropWhile gap) o P' ∧ _
    rw [← List.append_assoc] at e1 e2
    rw [e1] at e2
    rw [e1, g1]
    exact ⟨some k, _, .konst g2 g3 e2 ht1 hsb hk, List.cons_ne_nil _ _, .inr ⟨k, rfl, by rw [hw]; exact hv⟩, .inr (.inr ⟨Nat.one_pos, rfl, rfl, rfl, rfl, .inr ⟨hn, k, rfl, hv⟩⟩), fun _ => ⟨rfl, g3⟩⟩
theorem out_nx {rest r1 : List Nat} {beh : Bool} {left : Int} {held o : Option K} {P' : PS} (h : left ≤ 0) (hf : Nf beh rest r1) (ho : Out left held r1 o P') : Nx ⟨rest, beh, false, left, held⟩ o P' := by
  induction ho with
  | slash => exact .slash h hf
  | comma => exact .comma h hf
  | null a b c d e => exact .null h hf a b c d e
  | konst a b c d e f => exact .konst h hf a b c d e f
theorem rdg_next {ρs : List Row} {ps : List (List Nat × List Nat)} {en : List Nat} {sl : Bool} {i t : Nat} {ρ : Row} {P : PS} (h : Text ρs ps en sl) (hρ : ρs[i]? = some ρ) (hr : Rdg ρ ps en sl i t P) (ht : (t : Int) < ρ.times) :
    ∃ o P', Nx P o P' ∧ ((o = none ∧ want ρ = .non) ∨ ∃ k, o = some k ∧ Val ρ.kind ρ.len k (want ρ)) ∧ Rdg ρ ps en sl i (t + 1) P' := by
  have hi : i < ρs.length := by
    rcases Nat.lt_or_ge i ρs.length with q | q
    · exact q
    · rw [List.getElem?_eq_none q] at hρ; obtain ⟨⟩ := hρ
  obtain ⟨p1, hp⟩ := get_ex (l := ps) (i := i) (by rw [h.psl]; exact hi)
  obtain ⟨rest, beh, don, left, held⟩ := P
  rcases hr with ⟨rfl, hleft, hst⟩ | ⟨q, _⟩ | ⟨h0, hre, hb, hd, hl, hh⟩
  · obtain ⟨o, P', hout, hne, hw, hrd, hnn⟩ := cell_out (held := held) h hρ hp hleft
    refine ⟨o, P', ?_, hw, hrd⟩
    rcases hst with ⟨hd, hb, p, hp2, hg⟩ | ⟨_, _, _, q, _⟩ | ⟨hd, hb, h0, hre⟩ | ⟨_, _, q⟩
    · rw [hp] at hp2; obtain rfl := Option.some.inj hp2
      dsimp only at hd hb hg
      subst hd hb
      exact out_nx hleft ⟨hg, hne⟩ hout
    · rw [h.psl] at q; (first | lia | omega)
    · dsimp only at hd hb hre
      subst hd hb
      refine out_nx hleft ?_ hout
      obtain ⟨j, rfl⟩ : ∃ j, i = j + 1 := ⟨i - 1, by (first | lia | omega)⟩
      have hs := h.spl.sep j _ _ _ (List.getElem?_eq_getElem (by (first | lia | omega))) hρ hp
      rw [hre, tl_at hp]
      rcases hs with hs | ⟨_, hn, hs⟩
      · obtain ⟨y, e1, e2, _⟩ := sepC_ok (r := p1.2 ++ tl ps en (j + 1 + 1)) hs
        rw [← e2] at hne ⊢
        refine ⟨by rw [e1]; exact List.cons_ne_nil _ _, ?_, hne⟩
        rw [e1]
        rfl
      · obtain ⟨e1, _⟩ := sepW_ok (r := p1.2 ++ tl ps en (j + 1 + 1)) hs
        obtain ⟨e2, e3⟩ := hnn hn
        refine ⟨by rw [e1]; exact hne, ?_, hne⟩
        rw [e1, e2]
        unfold dropC
        rw [if_neg e3, e2]
    · rw [h.psl] at q; (first | lia | omega)
  · (first | lia | omega)
  · dsimp only at hre hb hd hl hh
    subst hre hb hd hl
    refine ⟨held, _, .more (by (first | lia | omega)), ?_, .inr (.inr ⟨Nat.succ_pos _, rfl, rfl, rfl, by show ρ.times - (t : Int) - 1 = ρ.times - ((t + 1 : Nat) : Int); (first | lia | omega), hh⟩)⟩
    unfold want
    rcases hh with ⟨hn, hh⟩ | ⟨hn, k, hh, hv⟩
    · rw [hn]
      exact .inl ⟨hh, rfl⟩
    · rw [hn]
      exact .inr ⟨k, hh, hv⟩
theorem end_slash {ρs : List Row} {ps : List (List Nat × List Nat)} {en : List Nat} {P : PS} (h : Text ρs ps en true) (hs : Stt ps en true ρs.length P) : ∃ P' P2, Nx P none P' ∧ Nx P' none P2 := by
  obtain ⟨rest, beh, don, left, held⟩ := P
  obtain ⟨hleft, hst⟩ := hs
  have two : ∀ r, ∃ P2, Nx ⟨47 :: r, false, true, left, held⟩ none P2 := fun r => ⟨_, .don hleft⟩
  rcases hst with ⟨_, _, p, hp, _⟩ | ⟨hd, hb, _, _, r, hr⟩ | ⟨hd, hb, _, hre⟩ | ⟨hd, _⟩
  · rw [← h.psl, List.getElem?_eq_none (Nat.le_refl _)] at hp; exact nomatch hp
  · dsimp only at hd hb hr
    subst hd hb
    obtain ⟨P2, h2⟩ := two r
    exact ⟨_, P2, .slash hleft ⟨hr, List.cons_ne_nil _ _⟩, h2⟩
  · dsimp only at hd hb hre
    subst hd hb
    rw [← h.psl, tl_end] at hre
    have fin : ∀ r, Nf true rest (47 :: r) → ∃ P' P2, Nx ⟨rest, true, false, left, held⟩ none P' ∧ Nx P' none P2 := fun r hf => by
      obtain ⟨P2, h2⟩ := two r
      exact ⟨_, P2, .slash hleft hf, h2⟩
    rcases h.en with ⟨_, rfl | rfl | rfl⟩ | ⟨q, _⟩
    · exact fin [] (by rw [hre]; exact ⟨(fun q => nomatch q), rfl, (fun q => nomatch q)⟩)
    · exact fin [] (by rw [hre]; exact ⟨(fun q => nomatch q), rfl, (fun q => nomatch q)⟩)
    · exact fin [120] (by rw [hre]; exact ⟨(fun q => nomatch q), rfl, (fun q => nomatch q)⟩)
    · exact nomatch q
  · dsimp only at hd
    subst hd
    exact ⟨_, _, .don hleft, .don hleft⟩
theorem end_none {ρs : List Row} {ps : List (List Nat × List Nat)} {en : List Nat} {P : PS} (h : Text ρs ps en false) (hs : Stt ps en false ρs.length P) :
    P.beh = true ∧ P.don = false ∧ ¬ 0 < P.left ∧ (P.rest.dropWhile gap = [] ∨ ∃ y, P.rest.dropWhile gap = 44 :: y ∧ y.dropWhile gap = []) := by
  obtain ⟨hleft, hst⟩ := hs
  rcases hst with ⟨_, _, p, hp, _⟩ | ⟨_, _, q, _⟩ | ⟨hd, hb, _, hre⟩ | ⟨_, q, _⟩
  · rw [← h.psl, List.getElem?_eq_none (Nat.le_refl _)] at hp; exact nomatch hp
  · obtain ⟨⟩ := q
  · refine ⟨hb, hd, by (first | lia | omega), ?_⟩
    rw [← h.psl, tl_end] at hre
    rcases h.en with ⟨q, _⟩ | ⟨_, rfl | rfl | rfl | rfl⟩
    · obtain ⟨⟩ := q
    · rw [hre]; exact .inl rfl
    · rw [hre]; exact .inl rfl
    · rw [hre]; exact .inl rfl
    · rw [hre]; exact .inr ⟨[], rfl, rfl⟩
  · obtain ⟨⟩ := q
theorem stt_start {ρs : List Row} {ps : List (List Nat × List Nat)} {en ld : List Nat} {sl : Bool} (h : Text ρs ps en sl) (h0 : 0 < ρs.length) (hld : ld = [] ∨ ld = [32] ∨ ld = [10, 32]) :
    Stt ps en sl 0 ⟨ld ++ (flat ps ++ en), false, false, 0, none⟩ := by
  obtain ⟨p1, hp⟩ := get_ex (l := ps) (i := 0) (by rw [h.psl]; exact h0)
  refine ⟨Int.le_refl 0, .inl ⟨rfl, rfl, _, hp, ?_⟩⟩
  have e := tl_at (en := en) hp
  rw [h.spl.first _ hp, List.nil_append] at e
  show (ld ++ (flat ps ++ en)).dropWhile gap = _
  have e2 : flat ps ++ en = tl ps en 0 := by simp [tl]
  rw [e2, e]
  rcases hld with rfl | rfl | rfl <;> rfl
end
section
open PySem PySem.W PySem.Calls PyProof.Rows
example : ∀ (w : World), (Mine.kk.heap_1 w.params).In default → PySem.Challenge.rw_no0260_01 = PySem.Challenge.rw_no0260_01 → True := by
  k_fill
  intros; trivial
noncomputable def GoalL (b : List Stmt) (sc : Scope) (nm : Str) : Prop :=
  ∀ (w : World) (mean : ExcName → Option Value) (mg mb : Str → Option Value) (dp un : Nat) (gd : Option (List Code)) (g : Heap) (L a scr : Addr) (cd : Value) (s : Shared) (vs : List Value) (ns : List Int) (Q : Flow → Shared → Prop) (E : Value → Shared → Prop),
    dp + 100 < recursionLimit → un + 5000 < cLine → Below (aT dp un gd []) g [] g → Fr g L s.heap (fun y => List.lookup y [(PySem.Str.ofString "script", .ref scr)]) → News g L s.heap [] →
    (Mine.kk.heap_1 w.params).In g → Top Mine.view (looseW Mine.view []) mean mg mb g → g.IsList scr vs.toArray → IntsAre vs ns → ns.length ≤ 63 → PassesOwn (model PySem.Challenge.rw_no0260_01.prog w) ((aT dp un gd []).deeper (envOf nm sc L a cd)) (envOf nm sc L a cd) E →
    (∀ h' tk' m', Fr g L h' m' → Q (.ret (.bool true)) { s with heap := h', toks := tk' }) →
    wpAny (model PySem.Challenge.rw_no0260_01.prog w) ((aT dp un gd []).deeper (envOf nm sc L a cd)) (execs b (envOf nm sc L a cd)) Q E s
theorem news_nil {g h : Heap} {L : Addr} {m : Str → Option Value} (_F : Fr g L h m) : News g L h [] := fun p hp => nomatch hp
theorem len63' {vs : List Value} {ns : List Int} (_h : IntsAre vs ns) (h2 : ¬ ((63 : Nat) : Int) < ((ns.length : Nat) : Int)) : ns.length ≤ 63 := by (first | lia | omega)
noncomputable def LBd : (d : DefRec) ×' (defOf Mine.view PySem.Challenge.rw_no0260_01.row.name = some (d, [])) := ⟨_, by rfl⟩
noncomputable def lb_pf.tw7652955523892422759 : Nat := 0
set_option Elab.async true in
theorem lb_pf (hG : GoalL LBd.1.body LBd.1.scope LBd.1.name) : WalkO Mine.view [] (XL Mine.view []) (kHook Mine.kk.heap_1 kAs kE).says PySem.Challenge.rw_no0260_01.row.toRowW LBd.1 [] (fun f vs => PySem.call f vs) := by
   unfold LBd at hG ⊢
   dsimp only at hG ⊢
   w_strict (
    k_go0
    rename IntsAre _ _ => hI
    have hn63 := len63' hI (by assumption)
    rename News _ _ _ [] => N0
    change wpAny _ ((aT (1 + claimMargin) 4 (some []) []).deeper _) _ _ _ _
    refine' hG _ _ _ _ _ _ _ _ _ _ _ _ _ _ _ _ _ (by decide) (by decide) (by assumption) (by assumption) N0 (by assumption) (by assumption) (by assumption) hI hn63 _ _
    · passes_own
    · intro h' tk' m' F'
      have N' := news_nil F'
      dsimp only
      k_steps
      all_goals (try k_data)
      all_goals w_report)
noncomputable def LB : (d : DefRec) ×' (b : List Stmt) ×' (sc : Scope) ×' (nm : Str) ×' (GoalL b sc nm → WalkO Mine.view [] (XL Mine.view []) (kHook Mine.kk.heap_1 kAs kE).says PySem.Challenge.rw_no0260_01.row.toRowW d [] (fun f vs => PySem.call f vs)) := ⟨LBd.1, LBd.1.body, LBd.1.scope, LBd.1.name, lb_pf⟩
section
variable {prog : Program} {w : World} {A : Around} {E : Value → Shared → Prop} {s : Shared} {env : Env} {h₀ : Heap} {x : PySem.Str} {body : List Stmt} {Q : Flow → Shared → Prop}
theorem loop_M2 {Ok : Obj → Prop} {I : Addr} {fp : List Addr} {n : Nat} {P : Nat → Value → Prop} {St : Nat → Heap → Prop} {m₀ : PySem.Str → Option Value} {news : List (Addr × Obj)} (J : Nat → (PySem.Str → Option Value) → List (Addr × Obj) → Prop)
    (W : Walks prog w A I fp [I] n P St) (hIf : I ∈ fp) (hSt : ∀ i h, St i h → ∃ o, h.get? I = some o ∧ Ok o) (hLf : env.locals ∉ fp) (hI : h₀.get? I = none) (hnI : ∀ p ∈ news, p.1 ≠ I)
    (hfp : ∀ b ∈ fp, b ≠ I → (∃ o, h₀.get? b = some o) ∨ (∃ o, ∀ i m nx, J i m nx → (b, o) ∈ nx))
    (hst : St 0 s.heap) (F : Fr h₀ env.locals s.heap m₀) (N : News h₀ env.locals s.heap news) (hj : J 0 m₀ news)
    (turn : ∀ i v m₁ news₁ h tk oI, Ok oI → i < n → P i v → (∀ p ∈ news₁, p.1 ≠ I) → J i m₁ news₁ → Fr h₀ env.locals h (fun y => if y = x then some v else m₁ y) → News h₀ env.locals h (news₁ ++ [(I, oI)]) →
      wpAny (model prog w) A (execs body env) (PostM h₀ env.locals (J (i + 1)) I oI { s with heap := h, toks := tk } Q) E { s with heap := h, toks := tk })
    (done : ∀ m₁ news₁ h tk, J n m₁ news₁ → Fr h₀ env.locals h m₁ → News h₀ env.locals h news₁ → Q .next { s with heap := h, toks := tk }) :
    LoopAtV prog w A h₀ env x body Q E (.ref I) s := by
  refine ⟨I, fp, [I], n, P, St, m₀, news, J, rfl, W, hLf, (fun b hb => by rw [List.mem_singleton.mp hb]; exact hI), (fun p hp hq => hnI p hp (List.mem_singleton.mp hq)), hst, F, N, hj, ?_, ?_⟩
  · rintro i v m₁ news₁ s₁ own ⟨hh', tk', rfl⟩ hin hP hJ hoff hown hheap hall hst' F₁ N₁
    obtain ⟨oI, hoI, hoOk⟩ := hSt _ _ hst'
    have hIown : (I, oI) ∈ own := hall I hIf hI oI hoI
    have hoff' : ∀ p ∈ news₁, p.1 ≠ I := fun p hp e => hoff p hp (List.mem_singleton.mpr e)
    have N₂ : News h₀ env.locals hh' (news₁ ++ [(I, oI)]) := fun p hp => N₁ p ((List.mem_append.mp hp).elim (fun h => List.mem_append.mpr (.inr h)) fun h => List.mem_append.mpr (.inl (by rw [List.mem_singleton.mp h]; exact hIown)))
    refine wpAny_mono (turn i v m₁ news₁ hh' tk' oI hoOk hin hP hoff' hJ F₁ N₂) (fun f s₂ p => ?_) fun _ _ e => e
    have fin : (∃ h' tk m' nx, s₂ = { s with heap := h', toks := tk } ∧ Fr h₀ env.locals h' m' ∧ News h₀ env.locals h' (nx ++ [(I, oI)]) ∧ (∀ p ∈ nx, p.1 ≠ I) ∧ J (i + 1) m' nx) →
        LoopStepU h₀ env.locals [I] own (J (i + 1)) { s with heap := hh', toks := tk' } .next s₂ := by
      rintro ⟨h', tk, m', nx, e, F', N', ha, hm⟩
      refine ⟨rfl, h', tk, m', nx, e, F', fun p hp => ?_, fun p hp hq => ha p hp (List.mem_singleton.mp hq), hm⟩
      rcases List.mem_append.mp hp with h1 | h1
      · by_cases hpI : p.1 = I
        · have h2 := hheap p h1
          rw [hpI, hoI] at h2
          have h3 : p = (I, oI) := by
            induction p
            obtain rfl := hpI
            obtain ⟨⟩ := h2
            rfl
          exact N' p (List.mem_append.mpr (.inr (List.mem_singleton.mpr h3)))
        · rcases hfp p.1 (hown p h1) hpI with ⟨o, ho⟩ | ⟨o, ho⟩
          · have h2 := (N₁ p (List.mem_append.mpr (.inl h1))).2.2
            rw [ho] at h2
            obtain ⟨⟩ := h2
          · have h2 := (N₂ _ (List.mem_append.mpr (.inl (ho _ _ _ hJ)))).1
            have h3 := hheap p h1
            rw [h2] at h3
            have h4 : p = (p.1, o) := by
              induction p
              obtain ⟨⟩ := h3
              rfl
            rw [h4]
            exact N' _ (List.mem_append.mpr (.inl (ho _ _ _ hm)))
      · exact N' p (List.mem_append.mpr (.inl h1))
    induction f with
    | ret v => exact .ret p
    | brk => exact .brk p
    | next => exact .next (fin p)
    | cont => exact .cont (fin p)
  · rintro h' tk m' news' F' N' _ hJ
    exact done m' news' h' tk hJ F' N'
theorem for_range2 {r : Addr} {a₀ b₀ : Int} {t₀ u₀ v₀ : Tok} {n : Nat} {m₀ : PySem.Str → Option Value} {news : List (Addr × Obj)} (J : Nat → (PySem.Str → Option Value) → List (Addr × Obj) → Prop)
    (hh : A.handled = none) (hr : IsRange s.heap r a₀ b₀ 1 t₀ u₀ v₀) (hsmall : Builtin.Range.small a₀ b₀ 1 = true) (hn : Builtin.Range.rangeSize a₀ b₀ 1 = (n : Int)) (F : Fr h₀ env.locals s.heap m₀) (N : News h₀ env.locals s.heap news) (hj : J 0 m₀ news)
    (turn : ∀ i tt m₁ news₁ h tk I oI, oI.cls = .type "range_iterator" → i < n → (∀ p ∈ news₁, p.1 ≠ I) → (∀ p ∈ news, p.1 < I) → J i m₁ news₁ → Fr h₀ env.locals h (fun y => if y = x then some (.int (a₀ + i) tt) else m₁ y) → News h₀ env.locals h (news₁ ++ [(I, oI)]) →
      wpAny (model prog w) A (execs body env) (PostM h₀ env.locals (J (i + 1)) I oI { s with heap := h, toks := tk } Q) E { s with heap := h, toks := tk })
    (done : ∀ m₁ news₁ h tk, J n m₁ news₁ → Fr h₀ env.locals h m₁ → News h₀ env.locals h news₁ → Q .next { s with heap := h, toks := tk }) :
    wpAny (model prog w) A (pyIter (.ref r)) (fun it s₂ => LoopAtV prog w A h₀ env x body Q E it s₂) E s := by
  have hL : env.locals ≠ s.heap.objs.size := Nat.ne_of_lt F.ns.lt
  have hN : ∀ p ∈ news, p.1 < s.heap.objs.size := fun p hp => Heap.lt_size (N p hp).1
  refine wpAny_pyIter_range hr hsmall ?_
  have W : Walks prog w A s.heap.objs.size [s.heap.objs.size] [s.heap.objs.size] n (fun i v => i < n ∧ ∃ t, v = .int (a₀ + i * 1) t)
      (fun i h => IsRangeIter h s.heap.objs.size (a₀ + (i : Nat) * 1) ((n : Int) - (i : Nat)) 1) := (Walks.range hh _ a₀ 1 n).bound
  refine loop_M2 (Ok := fun o => o.cls = .type "range_iterator") J W (List.mem_singleton.mpr rfl) (fun i h st => ⟨_, st, rfl⟩) (fun h => hL (List.mem_singleton.mp h)) (next_is_new F) (fun p hp => Nat.ne_of_lt (hN p hp)) (fun b hb hne => absurd (List.mem_singleton.mp hb) hne) (by show IsRangeIter _ _ _ _ _; rw [hn]; simpa using Heap.get?_push_size _ rfl) (F.push _) (N.pushKeep _) hj ?_ ?_
  · rintro i v m₁ news₁ h tk oI hok hi ⟨hin, u, rfl⟩ hoff hJ F₁ N₁
    rw [Int.mul_one] at F₁
    exact turn i u m₁ news₁ h tk _ oI hok hin hoff hN hJ F₁ N₁
  · intro m₁ news₁ h tk hJ
    exact done m₁ news₁ h tk hJ
end
theorem news_rot {g h : Heap} {L : Addr} {l : List (Addr × Obj)} {z : Addr × Obj} (N : News g L h (l ++ [z])) : News g L h (z :: l) := fun p hp => N p (by
  rcases List.mem_cons.mp hp with rfl | hp
  · exact List.mem_append_right _ (.head _)
  · exact List.mem_append_left _ hp)
theorem RowsAt.last {ρs : List Row} {vs : List Value} {nx : List (Addr × Obj)} (h : RowsAt ρs vs nx) (h0 : 0 < ρs.length) : ∃ vi v ρ nr, vs = vi ++ [v] ∧ ρs[ρs.length - 1]? = some ρ ∧ ρ.Ok ∧ ρ.At v nr ∧ ∀ p ∈ nr, p ∈ nx := by
  have hv : 0 < vs.length := by rw [h.len]; exact h0
  rcases List.eq_nil_or_concat vs with rfl | ⟨vi, v, rfl⟩
  · exact absurd hv (Nat.lt_irrefl 0)
  · rw [List.concat_eq_append] at h ⊢
    have hl := h.len
    rw [List.length_append, List.length_singleton] at hl
    obtain ⟨ρ, nr, a, b, c, d⟩ := h.get (i := ρs.length - 1) (v := v) (by rw [← hl]; simp)
    exact ⟨vi, v, ρ, nr, rfl, a, b, c, d⟩
end
section
open PySem PySem.W PySem.Calls PyProof.Rows
theorem join_cps (y : Str) : ∀ (x : Str) (xs : List Str), (Str.join y (x :: xs)).cps.toList = x.cps.toList ++ (xs.map fun z => y.cps.toList ++ z.cps.toList).flatten
  | x, [] => by simp [Str.join]
  | x, z :: zs => by
    have e : (Str.join y (x :: z :: zs)).cps.toList = x.cps.toList ++ y.cps.toList ++ (Str.join y (z :: zs)).cps.toList := by
      show (x.cps ++ y.cps ++ (Str.join y (z :: zs)).cps).toList = _
      simp
    rw [e, join_cps y z zs]
    simp
theorem part_le {x : Str} : ∀ {xs : List Str} {y : Str}, x ∈ xs → x.cps.toList.length ≤ ((xs.map fun z => y.cps.toList ++ z.cps.toList).flatten).length
  | [], _, h => nomatch h
  | z :: zs, y, h => by
    rw [List.map_cons, List.flatten_cons, List.length_append, List.length_append]
    rcases List.mem_cons.mp h with rfl | h
    · (first | lia | omega)
    · have := part_le (y := y) h
      (first | lia | omega)
theorem parts_le : ∀ (xs : List Str) (y : Str), y.cps.toList.length = 1 → xs.length ≤ ((xs.map fun z => y.cps.toList ++ z.cps.toList).flatten).length
  | [], _, _ => Nat.zero_le _
  | z :: zs, y, h => by
    have := parts_le zs y h
    rw [List.map_cons, List.flatten_cons, List.length_append, List.length_append, h, List.length_cons]
    (first | lia | omega)
theorem nl_is : PySem.Str.ofString "\n" = ⟨#[10]⟩ := by decide +kernel
theorem split_nl {l : List Nat} {vs : List (Str × Tok)} (e : vs.map (·.1) = Txt.split (tx l) (PySem.Str.ofString "\n")) (hl : l.length ≤ 100000) :
    ∃ r0 t0 rest, strValues vs = .str (tx r0) t0 :: rest ∧ 10 ∉ r0 ∧ r0.length ≤ 100000 ∧ (∀ v ∈ strValues vs, ∃ l t, v = .str (tx l) t ∧ 10 ∉ l ∧ l.length ≤ 100000) ∧ (strValues vs).length ≤ l.length + 1 ∧
      l = r0 ++ (rest.map fun v => 10 :: lineOf v).flatten := by
  have hj := StrLaws.join_split (tx l) (PySem.Str.ofString "\n")
  have hf := StrLaws.split_free (tx l) 10
  rw [← nl_is] at hf
  rw [← e] at hj hf
  have hp := split_pos (tx l) (PySem.Str.ofString "\n")
  rw [← e, List.length_map] at hp
  induction vs with
  | nil => exact absurd hp (by decide)
  | cons p q =>
    rw [List.map_cons] at hj hf
    have hc := join_cps (PySem.Str.ofString "\n") p.1 (q.map (·.1))
    rw [hj, tx_cps] at hc
    have tx_of' : ∀ z : Str, z = tx z.cps.toList := fun z => by induction z; rfl
    have hmem : ∀ z ∈ p.1 :: q.map (·.1), 10 ∉ z.cps.toList ∧ z.cps.toList.length ≤ 100000 := by
      intro z hz
      refine ⟨hf z hz, ?_⟩
      have h2 := congrArg List.length hc
      rw [List.length_append] at h2
      rcases List.mem_cons.mp hz with rfl | hz
      · (first | lia | omega)
      · have := part_le (y := PySem.Str.ofString "\n") hz
        (first | lia | omega)
    refine ⟨p.1.cps.toList, p.2, strValues q, congrArg (fun z => Value.str z p.2 :: strValues q) (tx_of' p.1), (hmem _ (.head _)).1, (hmem _ (.head _)).2, ?_, ?_, ?_⟩
    · intro v hv
      unfold strValues at hv
      obtain ⟨z, hz, rfl⟩ := List.mem_map.mp hv
      have := hmem z.1 (by
        rcases List.mem_cons.mp hz with rfl | hz
        · exact .head _
        · exact .tail _ (List.mem_map_of_mem hz))
      exact ⟨z.1.cps.toList, z.2, by rw [← tx_of'], this.1, this.2⟩
    · have h2 := congrArg List.length hc
      rw [List.length_append] at h2
      have h3 := parts_le (q.map (·.1)) (PySem.Str.ofString "\n") (by rw [nl_is]; rfl)
      rw [List.length_map] at h3
      unfold strValues
      rw [List.length_map, List.length_cons]
      (first | lia | omega)
    · refine hc.trans ?_
      congr 1
      unfold strValues
      rw [List.map_map, List.map_map, nl_is]
      rfl
theorem start_rdp {c : RC} {σ : RS} {r0 X : List Nat} {t0 : Tok} {rest7 : List Value} {sr dsr D : Nat} (q1 : D < dsr) (q3 : dsr < sr) (c1 : c.lst = D) (c2 : c.dsr = dsr) (c3 : c.sr = sr) (c4 : c.sr < c.dr) (c5 : c.dr < c.r) (c6 : c.items = .str (tx r0) t0 :: rest7) (c7 : σ.at_ = 0 + 1) (c8 : σ.record = r0) (c9 : σ.col = 0) (c10 : σ.left = 0) (c11 : σ.held = .none) (c12 : σ.beh = false) (c13 : σ.don = false)
    (hnl : 10 ∉ r0) (hl : r0.length ≤ 100000) (hst : ∀ v ∈ Value.str (tx r0) t0 :: rest7, ∃ l t, v = .str (tx l) t ∧ 10 ∉ l ∧ l.length ≤ 100000) (hX : X.length ≤ 600) (hfit : (Value.str (tx r0) t0 :: rest7).length ≤ X.length + 1) (e : X = r0 ++ (rest7.map fun v => 10 :: lineOf v).flatten) :
    RdP c σ ⟨X, false, false, 0, none⟩ [] := by
  refine ⟨⟨⟨by (first | lia | omega), by (first | lia | omega), c4, c5⟩, by rw [c6]; exact hst, by rw [c6]; (first | lia | omega), by (first | lia | omega), by rw [c6, List.length_cons]; (first | lia | omega), by (first | lia | omega), by rw [c9]; (first | lia | omega), by rw [c8]; exact hnl, by rw [c8]; exact hl, by show X.length ≤ _; (first | lia | omega), ?_⟩, c12, c13, c10, c11, rfl⟩
  show X = _
  rw [c8, c9, c6, c7, e]
  rfl
theorem allLt_out {d : Addr} {l : List (Addr × Obj)} (h : AllLt d l) : ∀ p ∈ l, p.1 < d := by
  induction l with
  | nil => intro p hp; obtain ⟨⟩ := hp
  | cons q r ih =>
    intro p hp
    rcases List.mem_cons.mp hp with e | hp
    · rw [e]; exact h.1
    · exact ih h.2 p hp
theorem under_tc {dp un : Nat} {gd : Option (List Code)} {outer : List Env} {env : Env} {C : Addr} {vals : List Value} : ((aT dp un gd outer).deeper env).under (.builtin "type.__call__" ⟨.ref C :: vals, []⟩) = aT (dp + 1 + 1) (un + 3 + 1) gd (env :: outer) := by
  have hw : (Code.builtin "type.__call__" ⟨.ref C :: vals, []⟩).weight = 1 := by rfl
  have he : (Code.builtin "type.__call__" ⟨.ref C :: vals, []⟩).envs = [] := by rfl
  have hg : (Code.builtin "type.__call__" ⟨.ref C :: vals, []⟩).guards = [] := by rfl
  have hc : (Code.builtin "type.__call__" ⟨.ref C :: vals, []⟩).cUnits = 1 := by rfl
  unfold Around.under
  rw [hw, he, hg, hc]
  rfl
theorem con_callA {prog : Program} {w : World} {f : Addr} {args : List Value} {dq uq : Nat} {muts : List (Addr × Obj)} {Rd : Heap → Prop} {Post : Value → List (Addr × Obj) → Heap → Prop} {A : Around}
    {mean : ExcName → Option Value} {mg mb : Str → Option Value} {dp un : Nat} {gd : Option (List Code)} {base g : Heap} {outer : List Env} {L : Addr} {m : Str → Option Value} {env : Env} {news rest : List (Addr × Obj)} {s : Shared} {Q E : Value → Shared → Prop}
    (C : Con prog w f args dq uq muts Rd Post) (B : Below A base outer g) (F : Fr g L s.heap m) (N : News g L s.heap news) (X : (Mine.kk.heap_1 w.params).In g)
    (T : Top Mine.view (looseW Mine.view []) mean mg mb g) (hA : A = aT dp un gd outer) (hs : ∀ p ∈ muts, p ∈ news) (hr : Rst (muts.map Prod.fst) news rest)
    (hrd : ∀ g2, g.StaysIn g2 → g2.StaysIn s.heap → (∀ p ∈ rest, g2.get? p.1 = some p.2) → Rd g2) (hd : dp + 1 + dq < recursionLimit) (hu : un + 3 + uq < cLine)
    (k : ∀ v h' tk' muts', Post v muts' h' → Fr g L h' m → News g L h' (muts' ++ rest) → Q v { s with heap := h', toks := tk' })
    (hfr : env.frame = some L := by rfl) (hck : env.scope.kind = .function := by rfl) :
    wpAny (model prog w) (A.deeper env) (call (.ref f) args) Q E s := by
  subst hA
  exact con_call C B F N X T hs hr hrd hd hu k hfr hck
end
section
open PySem PySem.W PySem.Calls PyProof.Rows
example : ∀ (w : World), (Mine.kk.heap_1 w.params).In default → PySem.Challenge.rw_no0260_01 = PySem.Challenge.rw_no0260_01 → True := by
  k_fill
  intros; trivial
theorem con_callR {prog : Program} {w : World} {f : Addr} {args : List Value} {dq uq : Nat} {muts : List (Addr × Obj)} {Rd : Heap → Prop} {Post : Value → List (Addr × Obj) → Heap → Prop}
    {mean : ExcName → Option Value} {mg mb : Str → Option Value} {dp un : Nat} {gd : Option (List Code)} {base g : Heap} {outer : List Env} {L : Addr} {m : Str → Option Value} {env : Env} {news rest : List (Addr × Obj)} {s : Shared} {Q E : Value → Shared → Prop}
    (C : Con prog w f args dq uq muts Rd Post) (B : Below (aT dp un gd outer) base outer g) (F : Fr g L s.heap m) (N : News g L s.heap news) (X : (Mine.kk.heap_1 w.params).In g)
    (T : Top Mine.view (looseW Mine.view []) mean mg mb g) (hs : ∀ p ∈ muts, p ∈ news) (hr : ∀ p ∈ rest, p ∈ news ∧ p.1 ∉ muts.map Prod.fst)
    (hrd : ∀ g2, g.StaysIn g2 → g2.StaysIn s.heap → (∀ p ∈ rest, g2.get? p.1 = some p.2) → Rd g2) (hd : dp + 1 + dq < recursionLimit) (hu : un + 3 + uq < cLine)
    (k : ∀ v h' tk' muts', Post v muts' h' → Fr g L h' m → News g L h' (muts' ++ rest) → Q v { s with heap := h', toks := tk' })
    (hfr : env.frame = some L := by rfl) (hck : env.scope.kind = .function := by rfl) :
    wpAny (model prog w) ((aT dp un gd outer).deeper env) (call (.ref f) args) Q E s := by
  obtain ⟨g2, C2, N2, st, hg, _, hF, hN⟩ := ground_E (w := w) (env := env) muts B F N X T hs hfr hck
  refine wpAny_call (C mean mg mb (dp + 1) (un + 3) gd base g2 (env :: outer) s _ C2 N2 (hrd g2 st C2.st fun p hp => hg p (hr p hp).1 (hr p hp).2) hd hu fun v h' tk' muts' k1 k2 k3 => ?_)
  exact k v h' tk' muts' k3 (hF h' k1) (hN h' muts' rest k1 k2 hr)
noncomputable def Mk (c : RC) (q : Addr × Obj) : Prop := ¬ RowTup q.2 ∧ q.2.cls ≠ .type "range_iterator" ∧ q.2.cls ≠ .type "list_iterator" ∧ (q.2.cls = .type "list" → q.1 = c.lst)
noncomputable def Lv (c : RC) (p : Addr × Obj) : Prop := RowTup p.2 ∨ p.2.cls = .type "range_iterator" ∨ p.2.cls = .type "list_iterator" ∨ (p.2.cls = .type "list" ∧ @Ne Nat p.1 c.lst)
theorem hs_mk {c : RC} {σ : RS} {P : PS} {hs : List (Addr × Obj)} (hP : RdP c σ P hs) : ∀ q ∈ hs, Mk c q := by
  have h := hP.held
  intro q hq
  induction hk : P.held with
  | none => rw [hk] at h; rw [h.2] at hq; exact nomatch hq
  | some k =>
    rw [hk] at h
    obtain ⟨a, o, _, io, e⟩ := h
    rw [e] at hq
    rw [List.mem_singleton.mp hq]
    have hc := K.cls io
    refine ⟨K.nr io, ?_, ?_, ?_⟩
    · show o.cls ≠ _; rw [hc]; decide
    · show o.cls ≠ _; rw [hc]; decide
    · intro z; replace z : o.cls = _ := z; rw [hc] at z; exact absurd z (by decide)
theorem led_mk {c : RC} {w : World} {σ : RS} : ∀ q ∈ c.led w σ, Mk c q := by
  intro q hq
  unfold RC.led at hq
  simp only [List.mem_cons, List.not_mem_nil, or_false] at hq
  rcases hq with rfl | rfl | rfl | rfl | rfl
  · exact ⟨nr_cls (c := .ref 209) rfl (by decide), (by show Value.ref 209 ≠ _; decide), (by show Value.ref 209 ≠ _; decide), fun z => by revert z; show Value.ref 209 = _ → _; intro z; obtain ⟨⟩ := z⟩
  · exact ⟨nr_cls (c := .type "dict") rfl (by decide), (by show Value.type "dict" ≠ _; decide), (by show Value.type "dict" ≠ _; decide), fun z => absurd (show Value.type "dict" = Value.type "list" from z) (by decide)⟩
  · exact ⟨nr_cls (c := .ref 342) rfl (by decide), (by show Value.ref 342 ≠ _; decide), (by show Value.ref 342 ≠ _; decide), fun z => by revert z; show Value.ref 342 = _ → _; intro z; obtain ⟨⟩ := z⟩
  · exact ⟨nr_cls (c := .type "dict") rfl (by decide), (by show Value.type "dict" ≠ _; decide), (by show Value.type "dict" ≠ _; decide), fun z => absurd (show Value.type "dict" = Value.type "list" from z) (by decide)⟩
  · exact ⟨nr_cls (c := .type "list") rfl (by decide), (by show Value.type "list" ≠ _; decide), (by show Value.type "list" ≠ _; decide), fun _ => rfl⟩
theorem lm_mk {c : RC} {w : World} {lm : LM} : ∀ q ∈ lm.led w, Mk c q := by
  intro q hq
  unfold LM.led at hq
  simp only [List.mem_cons, List.not_mem_nil, or_false] at hq
  rcases hq with rfl | rfl
  · exact ⟨nr_cls (c := .ref 364) rfl (by decide), (by show Value.ref 364 ≠ _; decide), (by show Value.ref 364 ≠ _; decide), fun z => by revert z; show Value.ref 364 = _ → _; intro z; obtain ⟨⟩ := z⟩
  · exact ⟨nr_cls (c := .type "dict") rfl (by decide), (by show Value.type "dict" ≠ _; decide), (by show Value.type "dict" ≠ _; decide), fun z => absurd (show Value.type "dict" = Value.type "list" from z) (by decide)⟩
theorem all_mk {c : RC} {w : World} {lm : LM} {σ : RS} {P : PS} {hs : List (Addr × Obj)} (hP : RdP c σ P hs) : ∀ q ∈ hs ++ (c.led w σ ++ lm.led w), Mk c q := by
  intro q hq
  rcases List.mem_append.mp hq with h | h
  · exact hs_mk hP q h
  rcases List.mem_append.mp h with h | h
  · exact led_mk q h
  · exact lm_mk q h
noncomputable def KindOk (kind : Int) : Wt → Prop
  | .non => False
  | .txt _ => kind = 5
  | .int _ => kind = 0
  | .bool _ => kind = 4
  | .real _ _ => kind = 1 ∨ kind = 2
  | .cplx _ _ _ _ => kind = 3
theorem kind_of {kind len : Int} {x : Wt} {T : List Nat} (h : ItOk kind len x T) : KindOk kind x := by
  obtain ⟨k, _, hv, _⟩ := h.2 [] rfl
  induction k <;> induction x <;> first | exact hv.elim | exact hv.1
theorem c85 (w : World) : ∃ t0 t1 ep sl, (Mine.kk.heap_1 w.params).lookup 85 = some ⟨.type "tuple", none, .seq #[.int 0 t0, .int 0 t1] ep, sl⟩ := ⟨_, _, _, _, by k_is⟩
noncomputable def datOf : Wt → PyData
  | .non => .none
  | .txt l => .str (tx l)
  | .int n => .int n
  | .bool b => .bool b
  | .real m e => .tuple [.int m, .int e]
  | .cplx m1 e1 m2 e2 => .tuple [.tuple [.int m1, .int e1], .tuple [.int m2, .int e2]]
theorem two_ints {h : Heap} {a : Addr} {o : Obj} {m e : Int} {t1 t2 : Tok} {ep : Nat} (h1 : h.get? a = some o) (h2 : o.cls = .type "tuple") (h3 : o.data = .seq #[.int m t1, .int e t2] ep) : Reads h (.ref a) (.tuple [.int m, .int e]) [] :=
  .tuple h1 h2 h3 (.cons (.int _ _) (.cons (.int _ _) .nil))
theorem two_refs {h : Heap} {a : Addr} {v1 v2 : Value} {d1 d2 : PyData} {o : Obj} {ep : Nat} (h1 : h.get? a = some o) (h2 : o.cls = .type "tuple") (h3 : o.data = .seq #[v1, v2] ep) (r1 : Reads h v1 d1 []) (r2 : Reads h v2 d2 []) : Reads h (.ref a) (.tuple [d1, d2]) [] :=
  .tuple h1 h2 h3 (.cons r1 (.cons r2 .nil))
theorem isV_reads {h : Heap} {x : Wt} {v : Value} {nv : List (Addr × Obj)} (hv : IsV x v nv) (N : ∀ p ∈ nv, h.get? p.1 = some p.2) : Reads h v (datOf x) [] := by
  induction x with
  | non => exact hv.elim
  | txt l => obtain ⟨⟨t, rfl⟩, rfl⟩ := hv; exact .str _ _
  | int n => obtain ⟨⟨t, rfl⟩, rfl⟩ := hv; exact .int _ _
  | bool b => obtain ⟨rfl, rfl⟩ := hv; exact .bool _
  | real m e =>
    obtain ⟨a, t1, t2, rfl, rfl⟩ := hv
    exact two_ints (N _ (.head _)) rfl rfl
  | cplx m1 e1 m2 e2 =>
    obtain ⟨a, b, c, t1, t2, t3, t4, rfl, rfl⟩ := hv
    exact two_refs (N _ (.head _)) rfl rfl (two_ints (N _ (.tail _ (.head _))) rfl rfl) (two_ints (N _ (.tail _ (.tail _ (.head _)))) rfl rfl)
theorem two_reads {w : World} {h : Heap} {v : Value} {m e : Int} {nx : List (Addr × Obj)} (X : (Mine.kk.heap_1 w.params).In h) (hv : Two v m e nx) (N : ∀ p ∈ nx, h.get? p.1 = some p.2) : Reads h v (.tuple [.int m, .int e]) [] := by
  rcases hv with ⟨rfl, rfl, rfl, rfl⟩ | ⟨_, a, t1, t2, ep, rfl, rfl⟩
  · obtain ⟨t0, t1, ep, sl, q⟩ := c85 w
    exact two_ints (X _ _ q) rfl rfl
  · exact two_ints (N _ (.head _)) rfl rfl
theorem isW_reads {w : World} {h : Heap} {x : Wt} {v : Value} {nx : List (Addr × Obj)} (X : (Mine.kk.heap_1 w.params).In h) (hv : IsW x v nx) (N : ∀ p ∈ nx, h.get? p.1 = some p.2) : Reads h v (datOf x) [] := by
  induction x with
  | non => obtain ⟨rfl, rfl⟩ := hv; exact .none
  | txt l => obtain ⟨⟨t, rfl⟩, rfl⟩ := hv; exact .str _ _
  | int n => obtain ⟨⟨t, rfl⟩, rfl⟩ := hv; exact .int _ _
  | bool b => obtain ⟨rfl, rfl⟩ := hv; exact .bool _
  | real m e => exact two_reads X hv N
  | cplx m1 e1 m2 e2 =>
    obtain ⟨a, ep, v1, v2, n1, n2, rfl, h1, h2, rfl⟩ := hv
    exact two_refs (N _ (.head _)) rfl rfl (two_reads X h1 fun p hp => N _ (.tail _ (List.mem_append_right _ hp))) (two_reads X h2 fun p hp => N _ (.tail _ (List.mem_append_left _ hp)))
theorem dat_eqv (x : Wt) : PyData.eqv (datOf x) (datOf x) = true := by
  induction x <;> simp [datOf, PyData.eqv, PyData.eqvAll]
theorem ne_wt {prog : Program} {w : World} {A : Around} {E : Value → Shared → Prop} {s : Shared} {x : Wt} {v v' : Value} {nx nv : List (Addr × Obj)} {Q : Value → Shared → Prop} (X : (Mine.kk.heap_1 w.params).In s.heap) (h1 : IsW x v nx) (h2 : IsV x v' nv) (N1 : ∀ p ∈ nx, s.heap.get? p.1 = some p.2) (N2 : ∀ p ∈ nv, s.heap.get? p.1 = some p.2)
    (hx : SeqAt.shaped (datOf x) = true) (hu : A.units + 64 < cLine) (h : Q (.bool false) s) : wpAny (model prog w) A (compareOp .NotEq v v') Q E s :=
  ne_dataH (isW_reads X h1 N1) (isV_reads h2 N2) hx hx hu (by rw [dat_eqv]; exact h)
theorem two_ref {v : Value} {m e : Int} {nx : List (Addr × Obj)} (h : Two v m e nx) : ∃ b, v = .ref b := by
  rcases h with ⟨_, _, rfl, _⟩ | ⟨_, a, _, _, _, rfl, _⟩
  · exact ⟨_, rfl⟩
  · exact ⟨_, rfl⟩
theorem lv_all {c : RC} {rl I I2 : Addr} {lo oI oI2 : Obj} {nx : List (Addr × Obj)} (hTup : ∀ p ∈ nx, RowTup p.2) (hrl : @Ne Nat rl c.lst) (hlo : lo.cls = .type "list") (hoI : oI.cls = .type "list_iterator") (hoI2 : oI2.cls = .type "range_iterator") :
    ∀ p ∈ (I2, oI2) :: (rl, lo) :: (I, oI) :: nx, Lv c p := by
  intro p hp
  rcases List.mem_cons.mp hp with rfl | hp
  · exact .inr (.inl hoI2)
  rcases List.mem_cons.mp hp with rfl | hp
  · exact .inr (.inr (.inr ⟨hlo, hrl⟩))
  rcases List.mem_cons.mp hp with rfl | hp
  · exact .inr (.inr (.inl hoI))
  · exact .inl (hTup p hp)
theorem cls_ne {g h : Heap} {L : Addr} {news : List (Addr × Obj)} {p q : Addr × Obj} (N : News g L h news) (hp : p ∈ news) (hq : q ∈ news) (h1 : p.2.cls ≠ q.2.cls) : p.1 ≠ q.1 := by
  intro e
  have a := (N _ hp).1
  have b := (N _ hq).1
  rw [e, b] at a
  injection a with a
  exact h1 (congrArg Obj.cls a.symm)
theorem con_callE {prog : Program} {w : World} {f : Addr} {args : List Value} {dq uq : Nat} {muts : List (Addr × Obj)}
    {mean : ExcName → Option Value} {mg mb : Str → Option Value} {dp un : Nat} {gd : Option (List Code)} {g : Heap} {outer : List Env} {L : Addr} {m : Str → Option Value} {env : Env} {news : List (Addr × Obj)} {s : Shared} {Q E : Value → Shared → Prop}
    (C : ConE prog w f args dq uq muts) (B : Below (aT dp un gd outer) g outer g) (F : Fr g L s.heap m) (N : News g L s.heap news) (X : (Mine.kk.heap_1 w.params).In g)
    (T : Top Mine.view (looseW Mine.view []) mean mg mb g) (hs : ∀ p ∈ muts, p ∈ news) (hd : dp + 1 + dq < recursionLimit) (hu : un + 3 + uq < cLine)
    (k : ∀ h' tk', Fr g L h' m → Q (.bool true) { s with heap := h', toks := tk' })
    (hfr : env.frame = some L := by rfl) (hck : env.scope.kind = .function := by rfl) :
    wpAny (model prog w) ((aT dp un gd outer).deeper env) (call (.ref f) args) Q E s := by
  obtain ⟨g2, C2, N2, _, _, Fg2, _, _⟩ := ground_E (w := w) (env := env) muts B F N X T hs hfr hck
  obtain ⟨oL, es, ep, hL, hLd, hLk, hLf⟩ := Fg2.ns
  have hLh := C2.st _ _ hL
  refine wpAny_call (C mean mg mb (dp + 1) (un + 3) gd g g2 (env :: outer) s _ L oL C2 N2 hd hu (Nat.le_of_lt (Nat.lt_of_le_of_lt F.above (Heap.lt_size hLh))) hL ⟨es, ep, hLd⟩ ?_ X T fun h' tk' sl k1 k2 => ?_)
  · induction q : g.get? L with
    | none => rfl
    | some o => exact absurd (Nat.lt_of_lt_of_le (Heap.lt_size q) F.above) (Nat.lt_irrefl _)
  · exact k _ _ ⟨⟨{ oL with slots := sl }, es, ep, k2, hLd, hLk, hLf⟩, k1, F.above⟩
end
section
open PySem PySem.W PySem.Calls PyProof.Rows
example : ∀ (w : World), (Mine.kk.heap_1 w.params).In default → PySem.Challenge.rw_no0260_01 = PySem.Challenge.rw_no0260_01 → True := by
  k_fill
  intros; trivial
set_option genSizeOfSpec false in
set_option genInjectivity false in
inductive SV where
  | int (n : Int)
  | str (l : List Nat)
  | bool (b : Bool)
  | none
  | ref (a : Addr)
noncomputable def SV.Is : SV → Value → Prop
  | .int n, v => ∃ t, v = .int n t
  | .str l, v => ∃ t, v = .str (tx l) t
  | .bool b, v => v = .bool b
  | .none, v => v = .none
  | .ref a, v => v = .ref a
noncomputable def nmc (x : Str) : Nat := x.cps.toList.foldr (fun c n => c + 256 * n) 0
noncomputable def gl : List (Nat × Str × SV) := [
  (23438642987354438, PySem.Str.ofString "FIGURES", .str [48, 49, 50, 51, 52, 53, 54, 55, 56, 57]),
  (23157120498421321, PySem.Str.ofString "INTEGER", .int 0),
  (1279346002, PySem.Str.ofString "REAL", .int 1),
  (76193832718148, PySem.Str.ofString "DOUBLE", .int 2),
  (24845992017612611, PySem.Str.ofString "COMPLEX", .int 3),
  (21463855478034252, PySem.Str.ofString "LOGICAL", .int 4),
  (1517628705878675900483, PySem.Str.ofString "CHARACTER", .int 5),
  (92669411151694, PySem.Str.ofString "NOUGHT", .ref 85),
  (1259874476499119915330, PySem.Str.ofString "BAD_FIELD", .int 1),
  (1554229758043955875668, PySem.Str.ofString "TOO_GREAT", .int 2),
  (393474767357873314874707, PySem.Str.ofString "SEPARATORS", .ref 191),
  (1536001705836394201424, PySem.Str.ofString "PART_ENDS", .ref 192),
  (35731509280619620617774526307, PySem.Str.ofString "count_digits", .ref 92),
  (139552762176367169998320755, PySem.Str.ofString "strip_zeros", .ref 99),
  (35731509280619620549055049586, PySem.Str.ofString "round_digits", .ref 106),
  (511812224335101639880562, PySem.Str.ofString "round_real", .ref 113),
  (1889593155523193563492, PySem.Str.ofString "digits_of", .ref 120),
  (121404468257626990295412595, PySem.Str.ofString "solid_field", .ref 127),
  (7381223203499108471, PySem.Str.ofString "whole_of", .ref 134),
  (7955443211016893795, PySem.Str.ofString "cut_sign", .ref 141),
  (7526751281380028009, PySem.Str.ofString "in_width", .ref 148),
  (8389759014264726898, PySem.Str.ofString "read_int", .ref 155),
  (36033721975620305635899635043, PySem.Str.ofString "cut_exponent", .ref 162),
  (2361506003394252350154249611864422, PySem.Str.ofString "field_exponent", .ref 169),
  (35713418152735463831920272754, PySem.Str.ofString "read_figures", .ref 176),
  (1999266501308989924722, PySem.Str.ofString "read_real", .ref 183),
  (33542116323851113351885186418, PySem.Str.ofString "read_logical", .ref 190),
  (1871364260896719726963, PySem.Str.ofString "sign_here", .ref 220),
  (31084703136445555, PySem.Str.ofString "step_on", .ref 227),
  (139533798631291596390886259, PySem.Str.ofString "skip_blanks", .ref 234),
  (2129473435741192809331, PySem.Str.ofString "skip_gaps", .ref 241),
  (7959393670496215412, PySem.Str.ofString "take_run", .ref 248),
  (2036593462020072497524, PySem.Str.ofString "take_sign", .ref 255),
  (140695335844292043461058932, PySem.Str.ofString "take_repeat", .ref 262),
  (121371688829995466967703924, PySem.Str.ofString "take_quoted", .ref 269),
  (2110522298404637991284, PySem.Str.ofString "take_pair", .ref 276),
  (9224628018463359007124175413620, PySem.Str.ofString "take_constant", .ref 283),
  (9224628018463359007124427924846, PySem.Str.ofString "next_constant", .ref 290),
  (1999266501309259473264, PySem.Str.ofString "part_real", .ref 297),
  (140803950559924204451686758, PySem.Str.ofString "fitted_text", .ref 304),
  (7381223203649905014, PySem.Str.ofString "value_of", .ref 311),
  (2018005687987897197938, PySem.Str.ofString "read_item", .ref 318),
  (7954887872146926687, PySem.Str.ofString "_law_pen", .ref 375),
  (2202184329901648211039, PySem.Str.ofString "_law_draw", .ref 382),
  (1980964996124558584927, PySem.Str.ofString "_law_pick", .ref 389),
  (1999266501309308693599, PySem.Str.ofString "_law_real", .ref 396),
  (2148497780760880704607, PySem.Str.ofString "_law_text", .ref 401),
  (2018005687988215966815, PySem.Str.ofString "_law_item", .ref 408),
  (549794069841888560639071, PySem.Str.ofString "_law_spelt", .ref 415),
  (121413912273686937779399775, PySem.Str.ofString "_law_is_end", .ref 422)]
noncomputable def glAt (x : Str) (k : Nat) : List (Nat × Str × SV) → Option SV
  | [] => Option.none
  | (c, y, v) :: r => if Nat.beq k c then (if x == y then some v else Option.none) else glAt x k r
noncomputable def glook (x : Str) : Option SV := glAt x (nmc x) gl
noncomputable def GOk (w : World) (p : Nat × Str × SV) : Prop := ∃ v, nsIn (Mine.kk.heap_1 w.params) mainGlobals p.2.1 = some (some v) ∧ p.2.2.Is v
theorem gok_int {w : World} {c : Nat} {x : Str} {n : Int} {t : Tok} (h : nsIn (Mine.kk.heap_1 w.params) mainGlobals x = some (some (.int n t))) : GOk w (c, x, .int n) := ⟨_, h, _, rfl⟩
theorem gok_str {w : World} {c : Nat} {x y : Str} {l : List Nat} {t : Tok} (h : nsIn (Mine.kk.heap_1 w.params) mainGlobals x = some (some (.str y t))) (e : y = tx l) : GOk w (c, x, .str l) := ⟨_, h, t, by rw [e]⟩
theorem gok_ref {w : World} {c : Nat} {x : Str} {a : Addr} (h : nsIn (Mine.kk.heap_1 w.params) mainGlobals x = some (some (.ref a))) : GOk w (c, x, .ref a) := ⟨_, h, rfl⟩
theorem gl_ok (w : World) : ∀ p ∈ gl, GOk w p := by
  unfold gl
  repeat (first | exact List.forall_mem_nil _ | (refine List.forall_mem_cons.mpr ⟨?_, ?_⟩; · first | exact gok_int (by k_is) | exact gok_ref (by k_is) | exact gok_str (by k_is) (by decide +kernel)))
theorem glAt_mem {x : Str} {k : Nat} {v : SV} : ∀ {l : List (Nat × Str × SV)}, glAt x k l = some v → ∃ c, (c, x, v) ∈ l
  | [], h => nomatch h
  | (c, y, u) :: r, h => by
    unfold glAt at h
    split at h
    · split at h
      · rename_i e
        obtain rfl := Option.some.inj h
        exact ⟨c, by rw [beq_iff_eq.mp e]; exact .head _⟩
      · exact nomatch h
    · obtain ⟨c', h'⟩ := glAt_mem h
      exact ⟨c', .tail _ h'⟩
theorem glook_ok {x : Str} {v : SV} (w : World) (h : glook x = some v) : ∃ u, nsIn (Mine.kk.heap_1 w.params) mainGlobals x = some (some u) ∧ v.Is u := by
  obtain ⟨c, hc⟩ := glAt_mem h
  exact gl_ok w _ hc
noncomputable def SVs : List SV → List Value → Prop
  | [], [] => True
  | x :: xs, v :: vs => x.Is v ∧ SVs xs vs
  | _, _ => False
theorem svsC {x : SV} {xs : List SV} {vs : List Value} (h : SVs (x :: xs) vs) : ∃ a r, vs = a :: r ∧ x.Is a ∧ SVs xs r := by
  induction vs with
  | nil => exact h.elim
  | cons a r => exact ⟨a, r, rfl, h.1, h.2⟩
theorem svsN {vs : List Value} (h : SVs [] vs) : vs = [] := by
  induction vs with
  | nil => rfl
  | cons a r => exact h.elim
theorem svs1 {x : SV} {vs : List Value} (h : SVs [x] vs) : ∃ a, vs = [a] ∧ x.Is a := by
  obtain ⟨a, r, rfl, ha, h⟩ := svsC h
  exact ⟨a, by rw [svsN h], ha⟩
theorem svs2 {x y : SV} {vs : List Value} (h : SVs [x, y] vs) : ∃ a b, vs = [a, b] ∧ x.Is a ∧ y.Is b := by
  obtain ⟨a, r, rfl, ha, h⟩ := svsC h
  obtain ⟨b, rfl, hb⟩ := svs1 h
  exact ⟨a, b, rfl, ha, hb⟩
theorem svs3 {x y z : SV} {vs : List Value} (h : SVs [x, y, z] vs) : ∃ a b c, vs = [a, b, c] ∧ x.Is a ∧ y.Is b ∧ z.Is c := by
  obtain ⟨a, r, rfl, ha, h⟩ := svsC h
  obtain ⟨b, c, rfl, hb, hc⟩ := svs2 h
  exact ⟨a, b, c, rfl, ha, hb, hc⟩
theorem svs4 {x y z u : SV} {vs : List Value} (h : SVs [x, y, z, u] vs) : ∃ a b c d, vs = [a, b, c, d] ∧ x.Is a ∧ y.Is b ∧ z.Is c ∧ u.Is d := by
  obtain ⟨a, r, rfl, ha, h⟩ := svsC h
  obtain ⟨b, c, d, rfl, hb, hc, hd⟩ := svs3 h
  exact ⟨a, b, c, d, rfl, ha, hb, hc, hd⟩
noncomputable abbrev Mp := List (Str × SV)
noncomputable abbrev Ld := List (Addr × Obj)
set_option genSizeOfSpec false in
set_option genInjectivity false in
structure Kx where
  prog : Program
  w : World
  A : Around
  env : Env
  g : Heap
  L : Addr
  s0 : Shared
  E : Value → Shared → Prop
noncomputable def Kx.st (κ : Kx) (h : Heap) (tk : Nat) : Shared := { κ.s0 with heap := h, toks := tk }
noncomputable def mget (x : Str) : Mp → Option SV
  | [] => Option.none
  | (y, v) :: r => match x == y with
    | true => some v
    | false => mget x r
noncomputable def isLoc (sc : Scope) (x : Str) : Bool := (match sc.names.lookup x with | some .local => true | _ => false) && !(x == PySem.Str.ofString "__debug__")
noncomputable def isGlb (sc : Scope) (x : Str) : Bool := (match sc.names.lookup x with | some .globalImplicit => true | _ => false) && !(x == PySem.Str.ofString "__debug__")
theorem isLoc_of {sc : Scope} {x : Str} (h : isLoc sc x = true) : sc.names.lookup x = some .local ∧ (x == ("__debug__" : Str)) = false := by
  obtain ⟨a, b⟩ := Bool.and_eq_true_iff.mp h
  refine ⟨?_, by simpa using b⟩
  revert a
  split
  · intro _; assumption
  · intro q; obtain ⟨⟩ := q
theorem isGlb_of {sc : Scope} {x : Str} (h : isGlb sc x = true) : sc.names.lookup x = some .globalImplicit ∧ (x == ("__debug__" : Str)) = false := by
  obtain ⟨a, b⟩ := Bool.and_eq_true_iff.mp h
  refine ⟨?_, by simpa using b⟩
  revert a
  split
  · intro _; assumption
  · intro q; obtain ⟨⟩ := q
noncomputable def Knows (sc : Scope) (m : Mp) (m' : Str → Option Value) : Prop := ∀ x v, mget x m = some v → isLoc sc x = true ∧ ∃ u, m' x = some u ∧ v.Is u
noncomputable def FrS (κ : Kx) (h : Heap) (m : Mp) : Prop := ∃ m', Fr κ.g κ.L h m' ∧ Knows κ.env.scope m m'
noncomputable abbrev NmC := Str × List (Str × Addr)
noncomputable abbrev envK (n : NmC) (sc : Scope) (L a : Addr) (cd : Value) : Env := envX n.1 sc L a cd n.2
structure KOk (κ : Kx) (sc : Scope) (dp un : Nat) : Prop where
  ok : ∃ (gd : Option (List Code)) (outer : List Env) (base : Heap) (mean : ExcName → Option Value) (mg mb : Str → Option Value) (nm : NmC) (a : Addr) (cd : Value), κ.A = (aT dp un gd outer).deeper κ.env ∧ κ.env = envK nm sc κ.L a cd ∧ Below (aT dp un gd outer) base outer κ.g ∧ (Mine.kk.heap_1 κ.w.params).In κ.g ∧ Top Mine.view (looseW Mine.view []) mean mg mb κ.g
  fn : sc.kind = .function
  pe : PassesOwn (model κ.prog κ.w) κ.A κ.env κ.E
noncomputable def Ev (κ : Kx) (m : Mp) (Z : Ld) (e : Expr) (K : SV → Ld → Prop) : Prop :=
  ∀ (h : Heap) (tk : Nat) (Q : Value → Shared → Prop), FrS κ h m → News κ.g κ.L h Z → (∀ v u Z' h' tk', K v Z' → v.Is u → FrS κ h' m → News κ.g κ.L h' Z' → Q u (κ.st h' tk')) →
    wpAny (model κ.prog κ.w) κ.A (eval e κ.env) Q κ.E (κ.st h tk)
noncomputable def Et (κ : Kx) (m : Mp) (Z : Ld) (e : Expr) (K : Bool → Ld → Prop) : Prop :=
  ∀ (h : Heap) (tk : Nat) (Q : Bool → Shared → Prop), FrS κ h m → News κ.g κ.L h Z → (∀ b Z' h' tk', K b Z' → FrS κ h' m → News κ.g κ.L h' Z' → Q b (κ.st h' tk')) →
    wpAny (model κ.prog κ.w) κ.A (isTrue e κ.env (eval e κ.env)) Q κ.E (κ.st h tk)
noncomputable def Ca (κ : Kx) (m : Mp) (Z : Ld) (f : Value) (xs : List SV) (K : SV → Ld → Prop) : Prop :=
  ∀ (vs : List Value) (h : Heap) (tk : Nat) (Q : Value → Shared → Prop), SVs xs vs → FrS κ h m → News κ.g κ.L h Z → (∀ v u Z' h' tk', K v Z' → v.Is u → FrS κ h' m → News κ.g κ.L h' Z' → Q u (κ.st h' tk')) →
    wpAny (model κ.prog κ.w) κ.A (call f vs) Q κ.E (κ.st h tk)
noncomputable def Es (κ : Kx) (m : Mp) (Z : Ld) (es : List Expr) (K : List SV → Ld → Prop) : Prop :=
  ∀ (p : Pos) (h : Heap) (tk : Nat) (Q : List Value → Shared → Prop), FrS κ h m → News κ.g κ.L h Z → (∀ xs vs Z' h' tk', K xs Z' → SVs xs vs → FrS κ h' m → News κ.g κ.L h' Z' → Q vs (κ.st h' tk')) →
    wpAny (model κ.prog κ.w) κ.A (spliced (backTo p (starEach es κ.env))) Q κ.E (κ.st h tk)
noncomputable def Op2 (κ : Kx) (m : Mp) (Z : Ld) (f : Value → Value → Sem Value) (a b : SV) (K : SV → Ld → Prop) : Prop :=
  ∀ (va vb : Value) (h : Heap) (tk : Nat) (Q : Value → Shared → Prop), a.Is va → b.Is vb → FrS κ h m → News κ.g κ.L h Z → (∀ v u Z' h' tk', K v Z' → v.Is u → FrS κ h' m → News κ.g κ.L h' Z' → Q u (κ.st h' tk')) →
    wpAny (model κ.prog κ.w) κ.A (f va vb) Q κ.E (κ.st h tk)
set_option genSizeOfSpec false in
set_option genInjectivity false in
inductive Fl where
  | next
  | brk
  | cont
  | ret (v : SV)
noncomputable def Fl.Is : Fl → Flow → Prop
  | .next, f => f = .next
  | .brk, f => f = .brk
  | .cont, f => f = .cont
  | .ret v, f => ∃ u, f = .ret u ∧ v.Is u
noncomputable def Ex (κ : Kx) (m : Mp) (Z : Ld) (ss : List Stmt) (K : Fl → Mp → Ld → Prop) : Prop :=
  ∀ (h : Heap) (tk : Nat) (Q : Flow → Shared → Prop), FrS κ h m → News κ.g κ.L h Z → (∀ fl f m' Z' h' tk', K fl m' Z' → fl.Is f → FrS κ h' m' → News κ.g κ.L h' Z' → Q f (κ.st h' tk')) →
    wpAny (model κ.prog κ.w) κ.A (execs ss κ.env) Q κ.E (κ.st h tk)
noncomputable def E1 (κ : Kx) (m : Mp) (Z : Ld) (t : Stmt) (K : Fl → Mp → Ld → Prop) : Prop :=
  ∀ (h : Heap) (tk : Nat) (Q : Flow → Shared → Prop), FrS κ h m → News κ.g κ.L h Z → (∀ fl f m' Z' h' tk', K fl m' Z' → fl.Is f → FrS κ h' m' → News κ.g κ.L h' Z' → Q f (κ.st h' tk')) →
    wpAny (model κ.prog κ.w) κ.A (exec t κ.env) Q κ.E (κ.st h tk)
theorem ev_mono {κ : Kx} {m : Mp} {Z : Ld} {e : Expr} {K K' : SV → Ld → Prop} (h : Ev κ m Z e K) (k : ∀ v Z', K v Z' → K' v Z') : Ev κ m Z e K' :=
  fun hp tk Q F N q => h hp tk Q F N fun v u Z' h' tk' x => q v u Z' h' tk' (k v Z' x)
theorem et_mono {κ : Kx} {m : Mp} {Z : Ld} {e : Expr} {K K' : Bool → Ld → Prop} (h : Et κ m Z e K) (k : ∀ v Z', K v Z' → K' v Z') : Et κ m Z e K' :=
  fun hp tk Q F N q => h hp tk Q F N fun v Z' h' tk' x => q v Z' h' tk' (k v Z' x)
theorem es_mono {κ : Kx} {m : Mp} {Z : Ld} {es : List Expr} {K K' : List SV → Ld → Prop} (h : Es κ m Z es K) (k : ∀ v Z', K v Z' → K' v Z') : Es κ m Z es K' :=
  fun p hp tk Q F N q => h p hp tk Q F N fun v u Z' h' tk' x => q v u Z' h' tk' (k v Z' x)
theorem e1_mono {κ : Kx} {m : Mp} {Z : Ld} {t : Stmt} {K K' : Fl → Mp → Ld → Prop} (h : E1 κ m Z t K) (k : ∀ f m' Z', K f m' Z' → K' f m' Z') : E1 κ m Z t K' :=
  fun hp tk Q F N q => h hp tk Q F N fun fl f m' Z' h' tk' x => q fl f m' Z' h' tk' (k fl m' Z' x)
theorem ex_nil {κ : Kx} {m : Mp} {Z : Ld} {K : Fl → Mp → Ld → Prop} (k : K .next m Z) : Ex κ m Z [] K :=
  fun h tk Q F N q => wpAny_execs_nil (q _ _ _ _ h tk k rfl F N)
noncomputable def Nxt (R : Mp → Ld → Prop) (K : Fl → Mp → Ld → Prop) : Fl → Mp → Ld → Prop
  | .next, m, Z => R m Z
  | fl, m, Z => K fl m Z
theorem ex_cons {κ : Kx} {m : Mp} {Z : Ld} {t : Stmt} {ss : List Stmt} {K : Fl → Mp → Ld → Prop} (h1 : E1 κ m Z t (Nxt (fun m' Z' => Ex κ m' Z' ss K) K)) : Ex κ m Z (t :: ss) K := by
  intro h tk Q F N q
  refine wpAny_execs_cons (h1 h tk _ F N fun fl f m' Z' h' tk' x y F' N' => ?_)
  induction fl with
  | next => obtain rfl := y; exact x h' tk' Q F' N' q
  | brk => obtain rfl := y; exact q _ _ _ _ h' tk' x rfl F' N'
  | cont => obtain rfl := y; exact q _ _ _ _ h' tk' x rfl F' N'
  | ret v => obtain ⟨u, rfl, hu⟩ := y; exact q _ _ _ _ h' tk' x ⟨_, rfl, hu⟩ F' N'
theorem e1_if {κ : Kx} {m : Mp} {Z : Ld} {e : Expr} {a b : List Stmt} {p : Pos} {K : Fl → Mp → Ld → Prop} (h : Et κ m Z e fun c Z' => (c = true → Ex κ m Z' a K) ∧ (c = false → Ex κ m Z' b K)) : E1 κ m Z (.If e a b p) K := by
  intro hp tk Q F N q
  refine wpAny_If (h hp tk _ F N fun c Z' h' tk' x F' N' => ?_)
  induction c
  · rw [if_neg (by decide)]; exact x.2 rfl h' tk' Q F' N' q
  · rw [if_pos rfl]; exact x.1 rfl h' tk' Q F' N' q
theorem e1_ret {κ : Kx} {m : Mp} {Z : Ld} {e : Expr} {p : Pos} {K : Fl → Mp → Ld → Prop} (h : Ev κ m Z e fun v Z' => K (.ret v) m Z') : E1 κ m Z (.Return (some e) p) K :=
  fun hp tk Q F N q => wpAny_Return_some (h hp tk _ F N fun v u Z' h' tk' x hu F' N' => q _ _ _ _ h' tk' x ⟨_, rfl, hu⟩ F' N')
noncomputable def mset (x : Str) (v : SV) : Mp → Mp
  | [] => [(x, v)]
  | (y, u) :: r => match x == y with
    | true => (x, v) :: r
    | false => (y, u) :: mset x v r
theorem mget_mset {x y : Str} {v w : SV} : ∀ {m : Mp}, mget y (mset x v m) = some w → (y = x ∧ w = v) ∨ (y ≠ x ∧ mget y m = some w)
  | [], h => by
    unfold mset mget at h
    split at h
    · rename_i e; obtain rfl := Option.some.inj h; exact .inl ⟨beq_iff_eq.mp e, rfl⟩
    · obtain ⟨⟩ := h
  | (z, u) :: r, h => by
    unfold mset at h
    split at h
    · rename_i e
      have e := beq_iff_eq.mp e
      subst e
      unfold mget at h ⊢
      split at h
      · rename_i e; obtain rfl := Option.some.inj h; exact .inl ⟨beq_iff_eq.mp e, rfl⟩
      · rename_i e
        exact .inr ⟨by simpa using e, h⟩
    · rename_i e
      unfold mget at h ⊢
      split at h
      · rename_i e2
        obtain rfl := Option.some.inj h
        have e2 := beq_iff_eq.mp e2
        subst e2
        have e3 : y ≠ x := fun q => by subst q; rw [beq_self_eq_true] at e; exact nomatch e
        exact .inr ⟨e3, rfl⟩
      · exact mget_mset h
noncomputable def mcan (sc : Scope) (x : Str) (m : Mp) : Bool := match mget x m with
  | some _ => true
  | Option.none => isLoc sc x
theorem frS_ins {κ : Kx} {sc : Scope} {h' : Heap} {m : Mp} {m' : Str → Option Value} {x : Str} {v : SV} {u : Value} (hE : κ.env.scope = sc) (hl : isLoc sc x = true) (F : Fr κ.g κ.L h' (fun y => if y = x then some u else m' y)) (hm : Knows sc m m') (hu : v.Is u) : FrS κ h' (mset x v m) := by
  subst hE
  refine ⟨_, F, fun y z hy => ?_⟩
  rcases mget_mset hy with ⟨rfl, rfl⟩ | ⟨hn, hy⟩
  · exact ⟨hl, u, by simp, hu⟩
  · obtain ⟨a, w, hw, hi⟩ := hm y z hy
    exact ⟨a, w, by simp [hn, hw], hi⟩
theorem mcan_loc {sc : Scope} {x : Str} {m : Mp} {m' : Str → Option Value} (h : mcan sc x m = true) (hm : Knows sc m m') : isLoc sc x = true := by
  unfold mcan at h
  split at h
  · exact (hm x _ (by assumption)).1
  · exact h
section
variable {κ : Kx} {sc : Scope} {dp un : Nat} {m : Mp} {Z : Ld}
theorem KOk.scp (O : KOk κ sc dp un) : κ.env.scope = sc := by
  obtain ⟨gd, outer, base, mean, mg, mb, nm, a, cd, hA, hE, B, X, T⟩ := O.ok
  rw [hE]
theorem ev_name {x : Str} {p : Pos} {v : SV} {K : SV → Ld → Prop} (O : KOk κ sc dp un) (h : mget x m = some v) (k : K v Z) : Ev κ m Z (.Name x p) K := by
  intro hp tk Q F N q
  have e := O.scp
  obtain ⟨gd, outer, base, mean, mg, mb, nm, a, cd, hA, hE, B, X, T⟩ := O.ok
  obtain ⟨m', F', hm⟩ := id F
  obtain ⟨hl, u, hu, hi⟩ := hm x v h
  rw [e] at hl
  obtain ⟨h1, h2⟩ := isLoc_of hl
  rw [hE]
  exact nameX_L (s := κ.st hp tk) F' hu (q v u Z hp tk k hi F N) O.fn h1 h2
theorem ev_glob {x : Str} {p : Pos} {v : SV} {K : SV → Ld → Prop} (O : KOk κ sc dp un) (h : glook x = some v) (hg : isGlb sc x = true) (k : K v Z) : Ev κ m Z (.Name x p) K := by
  intro hp tk Q F N q
  obtain ⟨gd, outer, base, mean, mg, mb, nm, a, cd, hA, hE, B, X, T⟩ := O.ok
  obtain ⟨m', F', hm⟩ := id F
  obtain ⟨u, hu, hi⟩ := glook_ok κ.w h
  obtain ⟨h1, h2⟩ := isGlb_of hg
  rw [hE]
  exact nameX_K (s := κ.st hp tk) F' X (topRead_of T) hu (q v u Z hp tk k hi F N) O.fn h1 h2
theorem ev_cint {i : Int} {k : Nat} {p : Pos} {K : SV → Ld → Prop} (h : K (.int i) Z) : Ev κ m Z (.Constant (.int i) k p) K := fun hp tk Q F N q => wpAny_Constant_int (q _ _ Z hp _ h ⟨_, rfl⟩ F N)
theorem ev_cbool {b : Bool} {k : Nat} {p : Pos} {K : SV → Ld → Prop} (h : K (.bool b) Z) : Ev κ m Z (.Constant (.bool b) k p) K := fun hp tk Q F N q => Constant_bool (q _ _ Z hp tk h rfl F N)
theorem ev_cnone {k : Nat} {p : Pos} {K : SV → Ld → Prop} (h : K .none Z) : Ev κ m Z (.Constant .none k p) K := fun hp tk Q F N q => wpAny_Constant_none (q _ _ Z hp tk h rfl F N)
theorem ev_cstr {x : Str} {k : Nat} {p : Pos} {K : SV → Ld → Prop} (h : K (.str x.cps.toList) Z) : Ev κ m Z (.Constant (.str x) k p) K := fun hp tk Q F N q => Calls.Constant_str (q _ _ Z hp _ h ⟨_, rfl⟩ F N)
theorem ev_bin {l r : Expr} {op : Operator} {p : Pos} {K : SV → Ld → Prop} (h : Ev κ m Z l fun a Z' => Ev κ m Z' r fun b Z'' => Op2 κ m Z'' (binaryOp op) a b K) : Ev κ m Z (.BinOp l op r p) K :=
  fun hp tk _ F N q => wpAny_BinOp (h hp tk _ F N fun a va _ h' tk' x ha F' N' => x h' tk' _ F' N' fun b vb _ h2 tk2 y hb F2 N2 => y va vb h2 tk2 _ ha hb F2 N2 q)
theorem ev_ifexp {t a b : Expr} {p : Pos} {K : SV → Ld → Prop} (h : Et κ m Z t fun c Z' => (c = true → Ev κ m Z' a K) ∧ (c = false → Ev κ m Z' b K)) : Ev κ m Z (.IfExp t a b p) K := by
  intro hp tk Q F N q
  refine IfExp_ (h hp tk _ F N fun c Z' h' tk' x F' N' => ?_)
  induction c
  · rw [if_neg (by decide)]; exact x.2 rfl h' tk' Q F' N' q
  · rw [if_pos rfl]; exact x.1 rfl h' tk' Q F' N' q
theorem nott {P : Prop} (h : false = true) : P := Bool.noConfusion h
noncomputable def xc (D : Prop) (bool : BoolOp → List Expr → Pos → Prop) (bin : Expr → Operator → Expr → Prop) (un : UnaryOp → Expr → Prop) (ife : Expr → Expr → Expr → Prop) (cmp : Expr → List CmpOp → List Expr → Prop) (call : Expr → List Expr → List Keyword → Prop) (cst : Const → Prop) (att : Expr → Str → Prop) (sub : Expr → Expr → Prop) (nam : Str → Prop) (tup : List Expr → Prop) (sl : Option Expr → Option Expr → Option Expr → Prop) (e : Expr) : Prop :=
  Expr.casesOn (motive_1 := fun _ => Prop) e bool (fun _ _ _ => D) (fun l o r _ => bin l o r) (fun o x _ => un o x) (fun _ _ _ _ => D) (fun t a b _ => ife t a b) (fun _ _ _ => D) (fun _ _ _ => D) (fun _ _ _ _ => D) (fun _ _ _ _ => D) (fun _ _ _ _ _ => D) (fun _ _ _ _ => D) (fun _ _ => D) (fun _ _ => D) (fun _ _ => D) (fun l o r _ => cmp l o r) (fun f es ks _ => call f es ks) (fun _ _ _ _ => D) (fun _ _ => D) (fun c _ _ => cst c) (fun o a _ => att o a) (fun o i _ => sub o i) (fun _ _ => D) (fun x _ => nam x) (fun _ _ => D) (fun es _ _ => tup es) (fun a b c _ => sl a b c)
noncomputable def plE (e : Expr) : Bool := !((Nat.ble 7 e.ctorIdx && Nat.ble e.ctorIdx 11) || Nat.beq e.ctorIdx 22 || Nat.beq e.ctorIdx 26)
noncomputable def stE (e : Expr) (es : List Expr) (env : Env) : List (Bool × Sem Value) := (false, eval e env) :: starEach es env
structure PlF (e : Expr) : Prop where
  star : ∀ es env, stE e es env = starEach (e :: es) env
  marks : ∀ op, false = behindInMarks op e
  swap : ∀ t l env, pure false = swapsWith e t l env
  sub : ∀ o i, operate [o, i] (getItem o i) = subscripted e false o i
  fold : ∀ env v, pure v = foldedSetIterable e env v
theorem pl_all {e : Expr} (h : plE e = true) : PlF e := by
  revert h
  rcases e with _ | _ | _ | _ | _ | _ | _ | _ | _ | _ | _ | _ | _ | _ | _ | _ | _ | _ | _ | _ | _ | _ | _ | _ | _ | _ | _ <;> intro h <;> first | exact ⟨fun _ _ => rfl, fun _ => rfl, fun _ _ _ => rfl, fun _ _ => rfl, fun _ _ => rfl⟩ | exact nott h
theorem pl_star {e : Expr} {es : List Expr} {env : Env} (h : plE e = true) : starEach (e :: es) env = (false, eval e env) :: starEach es env := ((pl_all h).star es env).symm
theorem pl_marks {op : CmpOp} {e : Expr} (h : plE e = true) : behindInMarks op e = false := ((pl_all h).marks op).symm
theorem pl_swap {e : Expr} {t : Option Expr} {l : Nat} {env : Env} (h : plE e = true) : swapsWith e t l env = pure false := ((pl_all h).swap t l env).symm
theorem pl_sub {e : Expr} {o i : Value} (h : plE e = true) : subscripted e false o i = operate [o, i] (getItem o i) := ((pl_all h).sub o i).symm
theorem pl_fold {e : Expr} {env : Env} {v : Value} (h : plE e = true) : foldedSetIterable e env v = pure v := ((pl_all h).fold env v).symm
theorem ev_cmp {l r : Expr} {op : CmpOp} {p : Pos} {K : SV → Ld → Prop} (hb : plE r = true) (h : Ev κ m Z l fun a Z' => Ev κ m Z' r fun b Z'' => Op2 κ m Z'' (compareOp op) a b K) : Ev κ m Z (.Compare l [op] [r] p) K :=
  fun hp tk _ F N q => wpAny_Compare1 (h hp tk _ F N fun a va _ h' tk' x ha F' N' => x h' tk' _ F' N' fun b vb _ h2 tk2 y hb F2 N2 => y va vb h2 tk2 _ ha hb F2 N2 q) (pl_marks hb)
theorem et_cmp {l r : Expr} {op : CmpOp} {p : Pos} {K : Bool → Ld → Prop} (hb : plE r = true) (h : Ev κ m Z l fun a Z' => Ev κ m Z' r fun b Z'' => Op2 κ m Z'' (compareOp op) a b fun v Z3 => ∃ c, v = .bool c ∧ K c Z3) : Et κ m Z (.Compare l [op] [r] p) K := by
  intro hp tk Q F N q
  refine wpAny_isTrue_Compare1 (h hp tk _ F N fun a va _ h' tk' x ha F' N' => x h' tk' _ F' N' fun b vb _ h2 tk2 y hb F2 N2 => y va vb h2 tk2 _ ha hb F2 N2 fun v u Z3 h3 tk3 k hu F3 N3 => ?_) (pl_marks hb)
  obtain ⟨c, rfl, k⟩ := k
  obtain rfl := hu
  exact wpAny_truthy_bool (q c Z3 h3 tk3 k F3 N3)
noncomputable def valE (e : Expr) : Bool := !(Nat.beq e.ctorIdx 0 || Nat.beq e.ctorIdx 3 || Nat.beq e.ctorIdx 5 || Nat.beq e.ctorIdx 15)
noncomputable def trV (w : Sem Value) (p : Pos) : Sem Bool := do let v ← w; standAt p; holding [v] (truthy v)
theorem val_tr {e : Expr} {env : Env} {w : Sem Value} (he : valE e = true) : trV w e.pos = isTrue e env w := by
  revert he
  rcases e with _ | _ | _ | _ | _ | _ | _ | _ | _ | _ | _ | _ | _ | _ | _ | _ | _ | _ | _ | _ | _ | _ | _ | _ | _ | _ | _ <;> intro he <;> first | rfl | exact nott he
theorem et_val {e : Expr} {K : Bool → Ld → Prop} (he : valE e = true) (h : Ev κ m Z e fun v Z' => ∃ c, v = .bool c ∧ K c Z') : Et κ m Z e K := by
  intro hp tk Q F N q
  refine wpAny_isTrue_value (h hp tk _ F N fun v u Z' h' tk' k hu F' N' => ?_) (val_tr he).symm
  obtain ⟨c, rfl, k⟩ := k
  obtain rfl := hu
  exact wpAny_truthy_bool (q c Z' h' tk' k F' N')
theorem et_not {x : Expr} {p : Pos} {K : Bool → Ld → Prop} (h : Et κ m Z x fun c Z' => K (!c) Z') : Et κ m Z (.UnaryOp .Not x p) K :=
  fun hp tk _ F N q => wpAny_isTrue_Not (h hp tk _ F N fun c Z' h' tk' k F' N' => q (!c) Z' h' tk' k F' N')
theorem et_and {x : Expr} {xs : List Expr} {p : Pos} {K : Bool → Ld → Prop} (h : Et κ m Z x fun c Z' => (c = true → Et κ m Z' (.BoolOp .And xs p) K) ∧ (c = false → K false Z')) : Et κ m Z (.BoolOp .And (x :: xs) p) K := by
  intro hp tk Q F N q
  refine isTrue_and (h hp tk _ F N fun c Z' h' tk' y F' N' => ?_)
  induction c
  · rw [if_neg (by decide)]; exact q _ _ h' tk' (y.2 rfl) F' N'
  · rw [if_pos rfl]; exact y.1 rfl h' tk' Q F' N' q
theorem et_and0 {p : Pos} {K : Bool → Ld → Prop} (k : K true Z) : Et κ m Z (.BoolOp .And [] p) K := fun hp tk Q F N q => isTrue_and_nil (q _ _ hp tk k F N)
theorem et_or {x : Expr} {xs : List Expr} {p : Pos} {K : Bool → Ld → Prop} (h : Et κ m Z x fun c Z' => (c = true → K true Z') ∧ (c = false → Et κ m Z' (.BoolOp .Or xs p) K)) : Et κ m Z (.BoolOp .Or (x :: xs) p) K := by
  intro hp tk Q F N q
  refine isTrue_or (h hp tk _ F N fun c Z' h' tk' y F' N' => ?_)
  induction c
  · rw [if_neg (by decide)]; exact y.2 rfl h' tk' Q F' N' q
  · rw [if_pos rfl]; exact q _ _ h' tk' (y.1 rfl) F' N'
theorem et_or0 {p : Pos} {K : Bool → Ld → Prop} (k : K false Z) : Et κ m Z (.BoolOp .Or [] p) K := fun hp tk Q F N q => isTrue_or_nil (q _ _ hp tk k F N)
theorem es_nil {K : List SV → Ld → Prop} (k : K [] Z) : Es κ m Z [] K := fun _ h tk _ F N q => args_nil (q [] [] Z h tk k trivial F N)
theorem es_cons {e : Expr} {es : List Expr} {K : List SV → Ld → Prop} (hst : plE e = true) (h : Ev κ m Z e fun x Z' => Es κ m Z' es fun xs Z'' => K (x :: xs) Z'') : Es κ m Z (e :: es) K :=
  fun p hp tk Q F N q => args_cons (h hp tk _ F N fun x v Z' h' tk' k hv F' N' => k p h' tk' _ F' N' fun xs vs Z'' h'' tk'' k2 hvs F2 N2 => q (x :: xs) (v :: vs) Z'' h'' tk'' k2 ⟨hv, hvs⟩ F2 N2) (pl_star hst)
theorem svs_len : ∀ {xs : List SV} {vs : List Value}, SVs xs vs → xs.length = vs.length
  | [], [], _ => rfl
  | [], _ :: _, h => h.elim
  | _ :: _, [], h => h.elim
  | _ :: xs, _ :: vs, h => by rw [List.length_cons, List.length_cons, svs_len h.2]
theorem svs_at : ∀ {xs : List SV} {vs : List Value} {i : Nat} {x : SV}, SVs xs vs → xs[i]? = some x → ∃ v, vs[i]? = some v ∧ x.Is v
  | [], _, i, x, _, h => by simp at h
  | _ :: _, [], _, _, h, _ => h.elim
  | y :: xs, v :: vs, 0, x, h, e => by obtain rfl := Option.some.inj e; exact ⟨v, rfl, h.1⟩
  | y :: xs, v :: vs, i + 1, x, h, e => svs_at (i := i) h.2 e
theorem ev_tuple {es : List Expr} {k : Nat} {p : Pos} {K : SV → Ld → Prop} (hl : es.length ≤ 8) (h : Es κ m Z es fun xs Z' => xs.length = es.length ∧ ∀ a vs ep, SVs xs vs → (ep = 0 ∧ ∀ p ∈ Z', @LT.lt Nat _ p.1 a) → K (.ref a) ((a, tupO vs ep) :: Z')) : Ev κ m Z (.Tuple es k p) K := by
  intro hp tk Q F N q
  refine Tuple_ (h p hp tk _ F N fun xs vs Z' h' tk' k hvs F' N' => ?_)
  obtain ⟨m', F2, hm⟩ := F'
  have hl2 := svs_len hvs
  exact kup_newTuple (s := κ.st h' tk') F2 N' (fun D h2 F3 N3 hD => q _ _ _ h2 tk' (k.2 D vs _ hvs ⟨rfl, hD⟩) rfl ⟨m', F3, hm⟩ N3) (by rw [sizeLine_eq]; have := k.1; (first | lia | omega))
noncomputable def fns : List Nat := [339, 92, 99, 106, 113, 120, 127, 134, 141, 148, 155, 162, 169, 176, 183, 190, 220, 227, 234, 241, 248, 255, 262, 269, 276, 283, 290, 297, 304, 311, 318, 375, 382, 389, 396, 401, 408, 415, 422]
theorem all_fn (w : World) : fns.all (fun a => keepIn (Mine.kk.heap_1 w.params) (.ref a)) = true := by kernel_rfl!
theorem pl_any {p : Pos} {env : Env} : ∀ {es : List Expr}, es.all plE = true → (backTo p (starEach es env)).any (·.1) = false
  | [], _ => rfl
  | e :: es, h => by
    rw [List.all_cons, Bool.and_eq_true] at h
    rw [pl_star h.1]
    show (false || (backTo p (starEach es env)).any (·.1)) = false
    rw [pl_any h.2]; rfl
theorem ev_call {fn : Str} {fa : Nat} {es : List Expr} {p p2 : Pos} {K : SV → Ld → Prop} (O : KOk κ sc dp un) (hf : glook fn = some (.ref fa)) (hg : isGlb sc fn = true) (hk : fns.contains fa = true) (hp : (es.all plE && !es.isEmpty) = true)
    (h : Es κ m Z es fun xs Z' => Ca κ m Z' (.ref fa) xs K) : Ev κ m Z (.Call (.Name fn p2) es [] p) K := by
  intro hp0 tk Q F N q
  obtain ⟨gd, outer, base, mean, mg, mb, nm, a, cd, hA, hE, B, X, T⟩ := O.ok
  obtain ⟨m', F', hm⟩ := id F
  obtain ⟨u, hu, hi⟩ := glook_ok κ.w hf
  obtain rfl := hi
  obtain ⟨h1, h2⟩ := isGlb_of hg
  have hx := h p hp0 tk
  rw [hE] at hx ⊢
  refine Call_ (nameX_K (s := κ.st hp0 tk) F' X (topRead_of T) hu ?_ O.fn h1 h2)
  obtain ⟨hp, hn⟩ := Bool.and_eq_true_iff.mp hp
  induction es with
  | nil => obtain ⟨⟩ := hn
  | cons e es =>
    rw [List.all_cons, Bool.and_eq_true] at hp
    have hk2 : keepIn (Mine.kk.heap_1 κ.w.params) (.ref fa) = true := List.all_eq_true.mp (all_fn κ.w) fa (List.contains_iff_mem.mp hk)
    refine callWith_K X hk2 (hx _ F N fun xs vs Z' h' tk' k hvs F2 N2 => ⟨?_, k vs h' tk' Q hvs F2 N2 q⟩) (pl_star hp.1) (pl_any hp.2)
    obtain ⟨m2, F3, _⟩ := F2
    exact Frag.In.keeps X F3.keep
end
end
section
open PySem PySem.W PySem.Calls PyProof.Rows
example : ∀ (w : World), (Mine.kk.heap_1 w.params).In default → PySem.Challenge.rw_no0260_01 = PySem.Challenge.rw_no0260_01 → True := by
  k_fill
  intros; trivial
noncomputable def lits : List (Nat × List Nat) := [(0, []), (10, [10]), (8202, [10, 32]), (11274, [10, 44]), (666634, [10, 44, 10]), (32, [32]), (2099744, [32, 10, 32]), (138179250720, [32, 10, 32, 44, 32]), (8224, [32, 32]), (11296, [32, 44]), (2108448, [32, 44, 32]), (12064, [32, 47]), (39, [39]), (10023, [39, 39]), (40, [40]), (41, [41]), (42, [42]), (43, [43]), (44, [44]), (2099756, [44, 10, 32]), (2016348716, [44, 10, 47, 120]), (8236, [44, 32]), (537534508, [44, 32, 10, 32]), (12076, [44, 47]), (45, [45]), (46, [46]), (13024072992638510, [46, 70, 65, 76, 83, 69, 46]), (50875319079982, [46, 84, 82, 85, 69, 46]), (47, [47]), (48, [48]), (270211885617516653982000, [48, 49, 50, 51, 52, 53, 54, 55, 56, 57]), (68, [68]), (69, [69]), (70, [70]), (30790, [70, 120]), (84, [84]), (202403227489, [97, 39, 44, 32, 47]), (1919508848, [112, 97, 105, 114]), (7239026, [114, 117, 110]), (1954047348, [116, 101, 120, 116])]
noncomputable def litAt (k : Nat) : List (Nat × List Nat) → Option (List Nat)
  | [] => none
  | (c, l) :: r => match Nat.beq k c with
    | true => some l
    | false => litAt k r
noncomputable def vLit (x : Str) (k : List Nat → Prop) : Prop := match litAt (nmc x) lits with
  | some l => (match l == x.cps.toList with | true => k l | false => k x.cps.toList)
  | none => k x.cps.toList
theorem vLit_of {x : Str} {k : List Nat → Prop} (h : vLit x k) : k x.cps.toList := by
  unfold vLit at h
  split at h
  · split at h
    · rename_i e; rw [← beq_iff_eq.mp e]; exact h
    · exact h
  · exact h
noncomputable def msetK (x : Str) (v : SV) : Mp → (Mp → Prop) → Prop
  | [], k => k [(x, v)]
  | (y, u) :: r, k => match x == y with
    | true => k ((x, v) :: r)
    | false => msetK x v r fun r' => k ((y, u) :: r')
theorem msetK_of {x : Str} {v : SV} : ∀ {m : Mp} {k : Mp → Prop}, msetK x v m k → k (mset x v m)
  | [], _, h => h
  | (y, u) :: r, k, h => by
    cases e : (x == y)
    · simp only [msetK, e] at h
      simp only [mset, e]
      exact msetK_of (k := fun r' => k ((y, u) :: r')) h
    · simp only [msetK, e] at h
      simp only [mset, e]
      exact h
noncomputable def bl : List (Nat × Str × Value) := [(7234924, PySem.Str.ofString "len", .builtin "len"), (7561825, PySem.Str.ofString "abs", .builtin "abs"), (7630441, PySem.Str.ofString "int", .type "int"), (7500915, PySem.Str.ofString "str", .type "str"), (7889261, PySem.Str.ofString "max", .builtin "max"), (110429740624228, PySem.Str.ofString "divmod", .builtin "divmod"), (435526984050, PySem.Str.ofString "range", .type "range"), (1871507261205758963301, PySem.Str.ofString "enumerate", .type "enumerate")]
noncomputable def blAt (k : Nat) (x : Str) : List (Nat × Str × Value) → Option Value
  | [] => none
  | (c, y, v) :: r => match Nat.beq k c with
    | true => (match x == y with | true => some v | false => none)
    | false => blAt k x r
noncomputable def BOk (w : World) (p : Nat × Str × Value) : Prop := nsIn (Mine.kk.heap_1 w.params) mainGlobals p.2.1 = some none ∧ bootBuiltins p.2.1 = some p.2.2 ∧ p.2.1 ≠ PySem.Str.ofString "__name__" ∧ ∀ a, p.2.2 ≠ .ref a
theorem bok {w : World} {c : Nat} {x : Str} {v : Value} (h1 : nsIn (Mine.kk.heap_1 w.params) mainGlobals x = some none) (h2 : bootBuiltins x = some v) (h3 : x ≠ PySem.Str.ofString "__name__") (h4 : ∀ a, v ≠ .ref a) : BOk w (c, x, v) := ⟨h1, h2, h3, h4⟩
theorem bl_ok (w : World) : ∀ p ∈ bl, BOk w p := by
  unfold bl
  repeat (first | exact List.forall_mem_nil _ | (refine List.forall_mem_cons.mpr ⟨bok (by k_is) (by boot_by_name) (by decide +kernel) (fun _ h => nomatch h), ?_⟩))
theorem blAt_mem {x : Str} {k : Nat} {v : Value} : ∀ {l : List (Nat × Str × Value)}, blAt k x l = some v → ∃ c, (c, x, v) ∈ l
  | [], h => nomatch h
  | (c, y, u) :: r, h => by
    unfold blAt at h
    split at h
    · split at h
      · rename_i e
        cases h
        exact ⟨c, by rw [beq_iff_eq.mp e]; exact .head _⟩
      · cases h
    · obtain ⟨c', h'⟩ := blAt_mem h
      exact ⟨c', .tail _ h'⟩
structure VIf (c : Bool) (A B : Prop) : Prop where
  t : c = true → A
  f : c = false → B
theorem ift {c : Bool} {A B : Prop} (h : c = true) (k : A) : VIf c A B := ⟨fun _ => k, fun q => absurd (h.symm.trans q) (by decide)⟩
theorem iff_ {c : Bool} {A B : Prop} (h : c = false) (k : B) : VIf c A B := ⟨fun q => absurd (h.symm.trans q) (by decide), fun _ => k⟩
noncomputable def At (κ : Kx) (Z : Ld) (a : Addr) (attr : Str) (v : SV) : Prop :=
  ∀ (m' : Str → Option Value) (h : Heap) (tk : Nat) (Q : Value → Shared → Prop), (Mine.kk.heap_1 κ.w.params).In κ.g → Fr κ.g κ.L h m' → News κ.g κ.L h Z → (∀ u tk', v.Is u → Q u (κ.st h tk')) →
    wpAny (model κ.prog κ.w) κ.A (getAttr (.ref a) attr true) Q κ.E (κ.st h tk)
noncomputable def Sa (κ : Kx) (Z : Ld) (a : Addr) (attr : Str) (v : SV) (K : Ld → Prop) : Prop :=
  ∀ (u : Value) (m' : Str → Option Value) (h : Heap) (tk : Nat) (Q : Unit → Shared → Prop), v.Is u → (Mine.kk.heap_1 κ.w.params).In κ.g → Fr κ.g κ.L h m' → News κ.g κ.L h Z → (∀ Z' h' tk', K Z' → Fr κ.g κ.L h' m' → News κ.g κ.L h' Z' → Q () (κ.st h' tk')) →
    wpAny (model κ.prog κ.w) κ.A (setAttr (.ref a) attr u) Q κ.E (κ.st h tk)
structure VAt (κ : Kx) (Z : Ld) (a : Addr) (attr : Str) (K : SV → Ld → Prop) : Prop where
  k : ∃ v, At κ Z a attr v ∧ K v Z
theorem vat {κ : Kx} {Z : Ld} {a : Addr} {attr : Str} {v : SV} {K : SV → Ld → Prop} (h : At κ Z a attr v) (k : K v Z) : VAt κ Z a attr K := ⟨v, h, k⟩
noncomputable def VTup (Z : Ld) (xs : List SV) (K : SV → Ld → Prop) : Prop := ∀ a vs ep, SVs xs vs → (ep = 0 ∧ ∀ p ∈ Z, @LT.lt Nat _ p.1 a) → K (.ref a) ((a, tupO vs ep) :: Z)
structure VIt (κ : Kx) (m : Mp) (Z : Ld) (e i : Expr) (a : Addr) (n : Int) (K : SV → Ld → Prop) : Prop where
  k : Op2 κ m Z (subscriptTail e i) (.ref a) (.int n) K
noncomputable def vEs (rE : Ld → Expr → (SV → Ld → Prop) → Prop) : List Expr → Ld → (List SV → Ld → Prop) → Prop
  | [], Z, K => K [] Z
  | e :: es, Z, K => rE Z e fun x Z' => vEs rE es Z' fun xs Z'' => K (x :: xs) Z''
noncomputable def SV.i (D : Prop) (k : Int → Prop) : SV → Prop
  | .int x => k x
  | _ => D
noncomputable def SV.s (D : Prop) (k : List Nat → Prop) : SV → Prop
  | .str x => k x
  | _ => D
noncomputable def SV.r (D : Prop) (k : Addr → Prop) : SV → Prop
  | .ref x => k x
  | _ => D
noncomputable def SV.b (D : Prop) (k : Bool → Prop) : SV → Prop
  | .bool x => k x
  | _ => D
noncomputable def SV.n (D A : Prop) : SV → Prop
  | .none => A
  | _ => D
theorem svI {D P : Prop} {k : Int → Prop} {a : SV} (h : a.i D k) (f : ∀ x, a = .int x → k x → P) (g : D → P) : P := by
  cases a <;> first | exact g h | exact f _ rfl h
theorem svS {D P : Prop} {k : List Nat → Prop} {a : SV} (h : a.s D k) (f : ∀ x, a = .str x → k x → P) (g : D → P) : P := by
  cases a <;> first | exact g h | exact f _ rfl h
theorem svR {D P : Prop} {k : Addr → Prop} {a : SV} (h : a.r D k) (f : ∀ x, a = .ref x → k x → P) (g : D → P) : P := by
  cases a <;> first | exact g h | exact f _ rfl h
theorem svB {D P : Prop} {k : Bool → Prop} {a : SV} (h : a.b D k) (f : ∀ x, a = .bool x → k x → P) (g : D → P) : P := by
  cases a <;> first | exact g h | exact f _ rfl h
theorem svN {D P A : Prop} {a : SV} (h : a.n D A) (f : a = .none → A → P) (g : D → P) : P := by
  cases a <;> first | exact g h | exact f rfl h
theorem svII {D P : Prop} {k : Int → Int → Prop} {a b : SV} (h : a.i D fun x => b.i D (k x)) (g : D → P) (f : ∀ x y, a = .int x → b = .int y → k x y → P) : P := svI h (fun x e h => svI h (fun y e2 h => f x y e e2 h) g) g
theorem svSS {D P : Prop} {k : List Nat → List Nat → Prop} {a b : SV} (h : a.s D fun x => b.s D (k x)) (g : D → P) (f : ∀ x y, a = .str x → b = .str y → k x y → P) : P := svS h (fun x e h => svS h (fun y e2 h => f x y e e2 h) g) g
theorem svIS {D P : Prop} {k : Int → Int → Prop} {l : List Nat → List Nat → Prop} {a b : SV} (h : a.i (a.s D fun x => b.s D (l x)) fun x => b.i D (k x)) (g : D → P) (f : ∀ x y, a = .int x → b = .int y → k x y → P) (f2 : ∀ x y, a = .str x → b = .str y → l x y → P) : P := svI h (fun x e h => svI h (fun y e2 h => f x y e e2 h) g) fun h => svSS h g f2
noncomputable def vBin (κ : Kx) (m : Mp) (Z : Ld) (op : Operator) (a b : SV) (K : SV → Ld → Prop) : Prop :=
  let D := Op2 κ m Z (binaryOp op) a b K
  match op with
  | .Add => a.i (a.s D fun x => b.s D fun y => x.length + y.length ≤ 8000000 ∧ K (.str (x ++ y)) Z) fun x => b.i D fun y => K (.int (x + y)) Z
  | .Sub => a.i D fun x => b.i D fun y => K (.int (x - y)) Z
  | .Mult => b.i D fun y => a.i (a.s D fun x => x.length = 1 ∧ (-1000 ≤ y ∧ y ≤ 1000) ∧ K (.str (List.replicate y.toNat (x.headD 0))) Z) fun x => IntMulOk x y ∧ K (.int (x * y)) Z
  | .FloorDiv => a.i D fun x => b.i D fun y => (y ≠ 0 ∧ y.natAbs < 1073741824) ∧ K (.int (x.fdiv y)) Z
  | .Mod => a.i D fun x => b.i D fun y => y ≠ 0 ∧ K (.int (x.fmod y)) Z
  | _ => D
noncomputable def vInp (κ : Kx) (m : Mp) (Z : Ld) (op : Operator) (a b : SV) (K : SV → Ld → Prop) : Prop :=
  let D := Op2 κ m Z (inplaceOp op) a b K
  match op with
  | .Add => a.i (a.s D fun x => b.s D fun y => x.length + y.length ≤ 8000000 ∧ K (.str (x ++ y)) Z) fun x => b.i D fun y => K (.int (x + y)) Z
  | .Sub => a.i D fun x => b.i D fun y => K (.int (x - y)) Z
  | .FloorDiv => a.i D fun x => b.i D fun y => (y ≠ 0 ∧ y.natAbs < 1073741824) ∧ K (.int (x.fdiv y)) Z
  | _ => D
noncomputable def vCmp (κ : Kx) (m : Mp) (Z : Ld) (op : CmpOp) (a b : SV) (K : Bool → Ld → Prop) : Prop :=
  let D := Op2 κ m Z (compareOp op) a b fun v Z' => ∃ c, v = .bool c ∧ K c Z'
  match op with
  | .Eq => a.i (a.s D fun x => b.s D fun y => K (x == y) Z) fun x => b.i D fun y => K (x == y) Z
  | .NotEq => a.i (a.s D fun x => b.s D fun y => K (x != y) Z) fun x => b.i D fun y => K (x != y) Z
  | .Lt => a.i D fun x => b.i D fun y => K (decide (x < y)) Z
  | .Gt => a.i D fun x => b.i D fun y => K (decide (y < x)) Z
  | .LtE => a.i D fun x => b.i D fun y => K (decide (x ≤ y)) Z
  | .GtE => a.i D fun x => b.i D fun y => K (decide (y ≤ x)) Z
  | .Is => b.n D (a.n (K false Z) (K true Z))
  | .NotIn => a.s D fun x => b.r D fun e => (e = 191 ∨ e = 192) ∧ K (!(endB e x)) Z
  | .In => a.s D fun x => b.s D fun y => (x.length = 1 ∧ y = [48, 49, 50, 51, 52, 53, 54, 55, 56, 57]) ∧ K (dig (x.headD 0)) Z
  | _ => D
section
variable {κ : Kx} {sc : Scope} {dp un : Nat} {m : Mp} {Z : Ld}
theorem hd1 {x : List Nat} (h : x.length = 1) : x = [x.headD 0] := by
  match x, h with
  | [_], _ => rfl
theorem op_ii {f : Value → Value → Sem Value} {a b : SV} {x y : Int} {K : SV → Ld → Prop} (ea : a = .int x) (eb : b = .int y)
    (h : ∀ t u hp tk Q, (∀ v w tk', K v Z → v.Is w → Q w (κ.st hp tk')) → wpAny (model κ.prog κ.w) κ.A (f (.int x t) (.int y u)) Q κ.E (κ.st hp tk)) : Op2 κ m Z f a b K := by
  subst ea eb
  rintro _ _ hp tk Q ⟨t, rfl⟩ ⟨u, rfl⟩ F N q
  exact h t u hp tk Q fun v w tk' k i => q v w Z hp tk' k i F N
theorem op_ss {f : Value → Value → Sem Value} {a b : SV} {x y : List Nat} {K : SV → Ld → Prop} (ea : a = .str x) (eb : b = .str y)
    (h : ∀ t u hp tk Q, (∀ v w tk', K v Z → v.Is w → Q w (κ.st hp tk')) → wpAny (model κ.prog κ.w) κ.A (f (.str (tx x) t) (.str (tx y) u)) Q κ.E (κ.st hp tk)) : Op2 κ m Z f a b K := by
  subst ea eb
  rintro _ _ hp tk Q ⟨t, rfl⟩ ⟨u, rfl⟩ F N q
  exact h t u hp tk Q fun v w tk' k i => q v w Z hp tk' k i F N
theorem vBin_of {op : Operator} {a b : SV} {K : SV → Ld → Prop} (h : vBin κ m Z op a b K) : Op2 κ m Z (binaryOp op) a b K := by
  cases op with
  | Add =>
    exact svIS h id (fun x y ea eb h => op_ii ea eb fun t u hp tk Q q => add_int (q _ _ _ h ⟨_, rfl⟩)) fun x y ea eb h => op_ss ea eb fun t u hp tk Q q => rl_add (s := κ.st hp tk) h.1 fun t' k' => q _ _ k' h.2 ⟨_, rfl⟩
  | Sub => exact svII h id (fun x y ea eb h => op_ii ea eb fun t u hp tk Q q => sub_int (q _ _ _ h ⟨_, rfl⟩))
  | Mult =>
    refine svI h (fun y eb h => svI h (fun x ea h => op_ii ea eb fun t u hp tk Q q => PyProof.Rows.mul_int (q _ _ _ h.2 ⟨_, rfl⟩) h.1) fun h => svS h (fun x ea h => ?_) id) id
    subst ea eb
    rintro _ _ hp tk Q ⟨t, rfl⟩ ⟨u, rfl⟩ F N q
    rw [hd1 h.1]
    exact rl_mul h.2.1.1 h.2.1.2 fun t' k' => q _ _ Z hp k' h.2.2 ⟨_, rfl⟩ F N
  | FloorDiv => exact svII h id (fun x y ea eb h => op_ii ea eb fun t u hp tk Q q => floordiv_int h.1.1 (q _ _ _ h.2 ⟨_, rfl⟩) (.inl (PyProof.noPylong_small h.1.2)))
  | Mod => exact svII h id (fun x y ea eb h => op_ii ea eb fun t u hp tk Q q => mod_int' h.1 (q _ _ _ h.2 ⟨_, rfl⟩))
  | _ => exact h
theorem vInp_of {op : Operator} {a b : SV} {K : SV → Ld → Prop} (h : vInp κ m Z op a b K) : Op2 κ m Z (inplaceOp op) a b K := by
  cases op with
  | Add =>
    exact svIS h id (fun x y ea eb h => op_ii ea eb fun t u hp tk Q q => iadd_int (q _ _ _ h ⟨_, rfl⟩)) fun x y ea eb h => op_ss ea eb fun t u hp tk Q q => rl_iadd (s := κ.st hp tk) h.1 fun t' k' => q _ _ k' h.2 ⟨_, rfl⟩
  | Sub => exact svII h id (fun x y ea eb h => op_ii ea eb fun t u hp tk Q q => isub_int (q _ _ _ h ⟨_, rfl⟩))
  | FloorDiv => exact svII h id (fun x y ea eb h => op_ii ea eb fun t u hp tk Q q => ifloordiv_int h.1.1 (q _ _ _ h.2 ⟨_, rfl⟩) (.inl (PyProof.noPylong_small h.1.2)))
  | _ => exact h
noncomputable abbrev KB (K : Bool → Ld → Prop) (v : SV) (Z : Ld) : Prop := ∃ c, v = .bool c ∧ K c Z
theorem cmp_ii {o : CmpOp} {a b : SV} {x y : Int} {c : Bool} {K : Bool → Ld → Prop} (h : K c Z) (hc : ∀ t u Q s, Q (.bool c) s → wpAny (model κ.prog κ.w) κ.A (compareOp o (.int x t) (.int y u)) Q κ.E s) (ea : a = .int x) (eb : b = .int y) : Op2 κ m Z (compareOp o) a b (KB K) :=
  op_ii ea eb fun t u hp tk Q q => hc t u Q _ (q (.bool c) _ tk ⟨c, rfl, h⟩ rfl)
theorem cmp_ss {o : CmpOp} {a b : SV} {x y : List Nat} {c : Bool} {K : Bool → Ld → Prop} (h : K c Z) (hc : ∀ t u Q s, Q (.bool c) s → wpAny (model κ.prog κ.w) κ.A (compareOp o (.str (tx x) t) (.str (tx y) u)) Q κ.E s) (ea : a = .str x) (eb : b = .str y) : Op2 κ m Z (compareOp o) a b (KB K) :=
  op_ss ea eb fun t u hp tk Q q => hc t u Q _ (q (.bool c) _ tk ⟨c, rfl, h⟩ rfl)
theorem cmp_is {a b : SV} {K : Bool → Ld → Prop} (h : a.n (K false Z) (K true Z)) (eb : b = .none) : Op2 κ m Z (compareOp .Is) a b (KB K) := by
  subst eb
  rintro va _ hp tk Q ha rfl F N q
  cases a with
  | none => cases ha; exact is_none_none (q (.bool true) _ Z hp _ ⟨_, rfl, h⟩ rfl F N)
  | ref a => cases ha; exact is_ref_none (q (.bool false) _ Z hp _ ⟨_, rfl, h⟩ rfl F N)
  | int n => obtain ⟨t, rfl⟩ := ha; exact is_int_none (q (.bool false) _ Z hp _ ⟨_, rfl, h⟩ rfl F N)
  | str l => obtain ⟨t, rfl⟩ := ha; exact is_str_none (q (.bool false) _ Z hp _ ⟨_, rfl, h⟩ rfl F N)
  | bool b => cases ha; exact is_bool_none (q (.bool false) _ Z hp _ ⟨_, rfl, h⟩ rfl F N)
theorem vCmp_of {op : CmpOp} {a b : SV} {K : Bool → Ld → Prop} (O : KOk κ sc dp un) (h : vCmp κ m Z op a b K) : Op2 κ m Z (compareOp op) a b (KB K) := by
  cases op with
  | Eq => exact svIS h id (fun x y ea eb h => cmp_ii h (fun _ _ _ _ => eq_int) ea eb) fun x y ea eb h => cmp_ss h (fun _ _ _ _ => rl_eq) ea eb
  | NotEq => exact svIS h id (fun x y ea eb h => cmp_ii h (fun _ _ _ _ => ne_int) ea eb) fun x y ea eb h => cmp_ss h (fun _ _ _ _ => rl_ne) ea eb
  | Lt => exact svII h id (fun x y ea eb h => cmp_ii h (fun _ _ _ _ => lt_int) ea eb)
  | Gt => exact svII h id (fun x y ea eb h => cmp_ii h (fun _ _ _ _ => gt_int) ea eb)
  | LtE => exact svII h id (fun x y ea eb h => cmp_ii h (fun _ _ _ _ => le_int) ea eb)
  | GtE => exact svII h id (fun x y ea eb h => cmp_ii h (fun _ _ _ _ => ge_int) ea eb)
  | Is => exact svN h (fun eb h => cmp_is h eb) id
  | NotIn =>
    refine svS h (fun x ea h => svR h (fun e eb h => ?_) id) id
    subst ea eb
    rintro _ _ hp tk Q ⟨t, rfl⟩ rfl F N q
    obtain ⟨gd, outer, base, mean, mg, mb, nm, a, cd, hA, hE, B, X, T⟩ := O.ok
    obtain ⟨m', F', hm⟩ := id F
    exact rl_end (s := κ.st hp tk) h.1 F' X (q (.bool _) _ Z hp _ ⟨_, rfl, h.2⟩ rfl F N)
  | In =>
    refine svSS h id (fun x y ea eb h => ?_)
    refine cmp_ss h.2 (fun _ _ _ _ k => ?_) ea eb
    rw [h.1.2, hd1 h.1.1, show tx [48, 49, 50, 51, 52, 53, 54, 55, 56, 57] = PySem.Str.ofString "0123456789" from by decide +kernel]
    exact rl_infig k
  | _ => exact h
theorem ev_callB {fn : Str} {f : Value} {es : List Expr} {p p2 : Pos} {K : SV → Ld → Prop} (O : KOk κ sc dp un) (hf : blAt (nmc fn) fn bl = some f) (hg : isGlb sc fn = true) (hp : (es.all plE && !es.isEmpty) = true)
    (h : Es κ m Z es fun xs Z' => Ca κ m Z' f xs K) : Ev κ m Z (.Call (.Name fn p2) es [] p) K := by
  intro hp0 tk Q F N q
  obtain ⟨gd, outer, base, mean, mg, mb, nm, a, cd, hA, hE, B, X, T⟩ := O.ok
  obtain ⟨m', F', hm⟩ := id F
  obtain ⟨c, hc⟩ := blAt_mem hf
  obtain ⟨b1, b2, b3, b4⟩ := bl_ok κ.w _ hc
  dsimp only at b1 b2 b3 b4
  obtain ⟨h1, h2⟩ := isGlb_of hg
  have hx := h p hp0 tk
  rw [hE] at hx ⊢
  refine Call_ (nameX_B (s := κ.st hp0 tk) F' X (topRead_of T) b1 b2 b3 ?_ O.fn h1 h2)
  obtain ⟨hp, hn⟩ := Bool.and_eq_true_iff.mp hp
  cases es with
  | nil => cases hn
  | cons e es =>
    rw [List.all_cons, Bool.and_eq_true] at hp
    rw [pl_star hp.1] at hx ⊢
    refine callWith_of (P := fun _ => True) ?_ (fun _ _ => ⟨.machine, .inr (.inl rfl), Looks.of_pure ?_⟩) (evalArgs_plain (hx _ F N fun xs vs Z' h' tk' k hvs F2 N2 => ⟨trivial, k vs h' tk' Q hvs F2 N2 q⟩))
    · show ((false || (backTo p (starEach es _)).any (·.1)) || false) = false
      rw [pl_any hp.2]; rfl
    · cases f <;> first | rfl | exact absurd rfl (b4 _)
end
end
section
open PySem PySem.W PySem.Calls PyProof.Rows
noncomputable def oc {α : Type} (D : Prop) (k : α → Prop) : Option α → Prop
  | some x => k x
  | none => D
noncomputable def bc (D A : Prop) : Bool → Prop
  | true => A
  | false => D
noncomputable def l1 {α : Type} (D : Prop) (k : α → Prop) : List α → Prop
  | [] => D
  | x :: r => (match r with
    | [] => k x
    | _ :: _ => D)
noncomputable def xView (D : Prop) (k : Str → Prop) (a : Expr → Str → Prop) (u : List Expr → Prop) (s : Option Expr → Option Expr → Option Expr → Prop) : Expr → Prop := xc D (fun _ _ _ => D) (fun _ _ _ => D) (fun _ _ => D) (fun _ _ _ => D) (fun _ _ _ => D) (fun _ _ _ => D) (fun _ => D) a (fun _ _ => D) k u s
noncomputable def xName (D : Prop) (k : Str → Prop) : Expr → Prop := xView D k (fun _ _ => D) (fun _ => D) fun _ _ _ => D
noncomputable def xSl (D : Prop) (k : Option Expr → Option Expr → Option Expr → Prop) : Expr → Prop := xView D (fun _ => D) (fun _ _ => D) (fun _ => D) k
theorem ocE {α : Type} {D P : Prop} {k : α → Prop} {o : Option α} (h : oc D k o) (f : ∀ x, o = some x → k x → P) (g : o = none → D → P) : P := by
  cases o with
  | none => exact g rfl h
  | some x => exact f x rfl h
theorem bcE {D A P : Prop} {b : Bool} (h : bc D A b) (f : b = true → A → P) (g : D → P) : P := by
  cases b with
  | true => exact f rfl h
  | false => exact g h
theorem l1E {α : Type} {D P : Prop} {k : α → Prop} {l : List α} (h : l1 D k l) (f : ∀ x, l = [x] → k x → P) (g : D → P) : P := by
  cases l with
  | nil => exact g h
  | cons x r =>
    cases r with
    | nil => exact f x rfl h
    | cons _ _ => exact g h
theorem xViewE {D P : Prop} {k : Str → Prop} {at_ : Expr → Str → Prop} {u : List Expr → Prop} {s : Option Expr → Option Expr → Option Expr → Prop} {e : Expr} (h : xView D k at_ u s e) (g : D → P) (f : ∀ x p, e = .Name x p → k x → P) (fa : ∀ o x p, e = .Attribute o x p → at_ o x → P) (fu : ∀ es n p, e = .Tuple es n p → u es → P) (fs : ∀ a b c p, e = .Slice a b c p → s a b c → P) : P := by
  rcases e with _ | _ | _ | _ | _ | _ | _ | _ | _ | _ | _ | _ | _ | _ | _ | _ | _ | _ | _ | _ | _ | _ | _ | _ | _ | _ | _ <;> first | exact g h | exact f _ _ rfl h | exact fa _ _ _ rfl h | exact fu _ _ _ rfl h | exact fs _ _ _ _ rfl h
theorem xNameE {D P : Prop} {k : Str → Prop} {e : Expr} (h : xName D k e) (f : ∀ x p, e = .Name x p → k x → P) (g : D → P) : P := xViewE h g f (fun _ _ _ _ => g) (fun _ _ _ _ => g) fun _ _ _ _ _ => g
theorem xSlE {D P : Prop} {k : Option Expr → Option Expr → Option Expr → Prop} {e : Expr} (h : xSl D k e) (f : ∀ a b c p, e = .Slice a b c p → k a b c → P) (g : D → P) : P := xViewE h g (fun _ _ _ => g) (fun _ _ _ _ => g) (fun _ _ _ _ => g) f
section
variable (κ : Kx) (sc : Scope) (m : Mp)
noncomputable abbrev RE := Ld → Expr → (SV → Ld → Prop) → Prop
noncomputable abbrev RT := Ld → Expr → (Bool → Ld → Prop) → Prop
noncomputable def vName (x : Str) (k : SV → Prop) (D : Prop) : Prop := oc (oc D (fun v => bc D (k v) (isGlb sc x)) (glook x)) k (mget x m)
noncomputable def vCst (Z : Ld) (e : Expr) (K : SV → Ld → Prop) : Const → Prop
  | .int i => K (.int i) Z
  | .bool b => K (.bool b) Z
  | .none => K .none Z
  | .str x => vLit x fun l => K (.str l) Z
  | _ => Ev κ m Z e K
noncomputable def vCpr (rE : RE) (Z : Ld) (l : Expr) (ops : List CmpOp) (rs : List Expr) (K : Bool → Ld → Prop) (D : Prop) : Prop :=
  l1 D (fun op => l1 D (fun r => bc D (rE Z l fun a Z' => rE Z' r fun b Z'' => vCmp κ m Z'' op a b K) (plE r)) rs) ops
noncomputable def vCall (rE : RE) (Z : Ld) (f : Expr) (es : List Expr) (ks : List Keyword) (K : SV → Ld → Prop) (D : Prop) : Prop := match ks with
  | _ :: _ => D
  | [] => xName D (fun fn => bc D (oc (oc D (fun f => vEs rE es Z fun xs Z' => Ca κ m Z' f xs K) (blAt (nmc fn) fn bl)) (fun v => v.r D fun fa => bc D (vEs rE es Z fun xs Z' => Ca κ m Z' (.ref fa) xs K) (fns.contains fa)) (glook fn)) (isGlb sc fn && (es.all plE && !es.isEmpty))) f
noncomputable def vAtt (Z : Ld) (o : Expr) (attr : Str) (K : SV → Ld → Prop) (D : Prop) : Prop :=
  xName D (fun x => oc D (fun v => v.r D fun a => VAt κ Z a attr K) (mget x m)) o
noncomputable def vSlc (rE : RE) (Z : Ld) (l : List Nat) (K : SV → Ld → Prop) : Option Expr → Option Expr → Prop
  | none, none => False
  | none, some u => rE Z u fun w Z' => w.i False fun n => (l.length ≤ 4000000 ∧ 0 ≤ n) ∧ K (.str (l.take n.toNat)) Z'
  | some u, none => rE Z u fun w Z' => w.i False fun n => (l.length ≤ 4000000 ∧ 0 ≤ n) ∧ K (.str (l.drop n.toNat)) Z'
  | some u, some u' => rE Z u fun w Z' => rE Z' u' fun w' Z'' => w.i False fun n => w'.i False fun n' => (l.length ≤ 4000000 ∧ 0 ≤ n ∧ n ≤ n') ∧ K (.str ((l.drop n.toNat).take (n' - n).toNat)) Z''
noncomputable def vSub (rE : RE) (Z : Ld) (o i : Expr) (K : SV → Ld → Prop) (D : Prop) : Prop :=
  bc (xSl D (fun a b c => oc (rE Z o fun v Z' => v.s False fun l => vSlc rE Z' l K a b) (fun _ => D) c) i)
    (rE Z o fun v Z' => rE Z' i fun w Z'' => w.i False fun n => v.s (v.r False fun a => VIt κ m Z'' o i a n K) fun l => (l.length ≤ 4000000 ∧ 0 ≤ n ∧ n < (l.length : Int)) ∧ K (.str [l.getD n.toNat 0]) Z'') (plE i)
noncomputable def vEstep (rE : RE) (rT : RT) (Z : Ld) (e : Expr) (K : SV → Ld → Prop) : Prop :=
  let D := Ev κ m Z e K
  xc D (fun _ _ _ => D)
    (fun l op r => rE Z l fun a Z' => rE Z' r fun b Z'' => vBin κ m Z'' op a b K)
    (fun op x => match op with
      | .USub => rE Z x fun v Z' => v.i False fun k => K (.int (-k)) Z'
      | _ => D)
    (fun t a b => rT Z t fun c Z' => VIf c (rE Z' a K) (rE Z' b K))
    (fun l ops rs => vCpr κ m rE Z l ops rs (fun c Z' => K (.bool c) Z') D)
    (fun f es ks => vCall κ sc m rE Z f es ks K D)
    (fun c => vCst κ m Z e K c)
    (fun o attr => vAtt κ m Z o attr K D)
    (fun o i => vSub κ m rE Z o i K D)
    (fun x => vName sc m x (fun v => K v Z) D)
    (fun es => bc D (vEs rE es Z fun xs Z' => VTup Z' xs K) (es.all plE && decide (es.length ≤ 8)))
    (fun _ _ _ => D) e
noncomputable def vTs (rE : RE) (rT : RT) (Z : Ld) (e : Expr) (K : Bool → Ld → Prop) : Prop :=
  let D := Et κ m Z e K
  xc D (fun op xs p => match op with
      | .And => (match xs with
        | [] => K true Z
        | x :: xs => rT Z x fun c Z' => VIf c (rT Z' (.BoolOp .And xs p) K) (K false Z'))
      | .Or => (match xs with
        | [] => K false Z
        | x :: xs => rT Z x fun c Z' => VIf c (K true Z') (rT Z' (.BoolOp .Or xs p) K)))
    (fun _ _ _ => D)
    (fun op x => match op with
      | .Not => rT Z x fun c Z' => K (!c) Z'
      | _ => D)
    (fun _ _ _ => D)
    (fun l ops rs => vCpr κ m rE Z l ops rs K D)
    (fun _ _ _ => D) (fun _ => D) (fun _ _ => D) (fun _ _ => D) (fun _ => D) (fun _ => D) (fun _ _ _ => D) e
noncomputable def vTstep (rE : RE) (rT : RT) (Z : Ld) (e : Expr) (K : Bool → Ld → Prop) : Prop :=
  bc (vTs κ m rE rT Z e K) (rE Z e fun v Z' => v.b False fun c => K c Z') (valE e)
noncomputable def vET : Nat → RE × RT
  | 0 => (Ev κ m, Et κ m)
  | n + 1 => (vEstep κ sc m (vET n).1 (vET n).2, vTstep κ m (vET n).1 (vET n).2)
end
section
variable {κ : Kx} {sc : Scope} {dp un : Nat} {m : Mp} {Z : Ld} {rE : RE} {rT : RT}
theorem vEs_of (hE : ∀ Z e K, rE Z e K → Ev κ m Z e K) : ∀ (es : List Expr) (Z : Ld) (K : List SV → Ld → Prop), es.all plE = true → vEs rE es Z K → Es κ m Z es fun xs Z' => xs.length = es.length ∧ K xs Z'
  | [], _, _, _, h => es_nil ⟨rfl, h⟩
  | e :: es, Z, K, hp, h => by
    rw [List.all_cons, Bool.and_eq_true] at hp
    exact es_cons hp.1 (ev_mono (hE Z e _ h) fun x Z' q => es_mono (vEs_of hE es Z' _ hp.2 q) fun xs Z'' k => ⟨congrArg Nat.succ k.1, k.2⟩)
theorem ltg_str' {e : Expr} {x : Str} {t : Tok} {r : Value} : pure () = letTemporaryGo e (.str x t) r := by rcases e with _ | _ | _ | _ | _ | _ | _ | _ | _ | _ | _ | _ | _ | _ | _ | _ | _ | _ | _ | _ | _ | _ | _ | _ | _ | _ | _ <;> rfl
theorem ltg_str {e : Expr} {x : Str} {t : Tok} {r : Value} : letTemporaryGo e (.str x t) r = pure () := ltg_str'.symm
theorem vName_of {x : Str} {p : Pos} {K : SV → Ld → Prop} (O : KOk κ sc dp un) (h : vName sc m x (fun v => K v Z) (Ev κ m Z (.Name x p) K)) : Ev κ m Z (.Name x p) K :=
  ocE h (fun _ hv k => ev_name O hv k) fun _ h => ocE h (fun _ hv h => bcE h (fun hg k => ev_glob O hv hg k) id) fun _ => id
theorem vCst_of {c : Const} {k : Nat} {p : Pos} {K : SV → Ld → Prop} (h : vCst κ m Z (.Constant c k p) K c) : Ev κ m Z (.Constant c k p) K := by
  cases c with
  | int i => exact ev_cint h
  | bool b => exact ev_cbool h
  | none => exact ev_cnone h
  | str x => exact ev_cstr (vLit_of (k := fun l => K (.str l) Z) h)
  | _ => exact h
theorem vCpr_of {l : Expr} {ops : List CmpOp} {rs : List Expr} {K : Bool → Ld → Prop} {D P : Prop} (O : KOk κ sc dp un) (hE : ∀ Z e K, rE Z e K → Ev κ m Z e K) (h : vCpr κ m rE Z l ops rs K D)
    (f : ∀ op r, ops = [op] → rs = [r] → plE r = true → (Ev κ m Z l fun a Z' => Ev κ m Z' r fun b Z'' => Op2 κ m Z'' (compareOp op) a b (KB K)) → P) (g : D → P) : P :=
  l1E h (fun op e1 h => l1E h (fun r e2 h => bcE h (fun hp h => f op r e1 e2 hp (ev_mono (hE _ _ _ h) fun _ _ q => ev_mono (hE _ _ _ q) fun _ _ q => vCmp_of O q)) g) g) g
theorem vCall_of {f : Expr} {es : List Expr} {ks : List Keyword} {p : Pos} {K : SV → Ld → Prop} (O : KOk κ sc dp un) (hE : ∀ Z e K, rE Z e K → Ev κ m Z e K) (h : vCall κ sc m rE Z f es ks K (Ev κ m Z (.Call f es ks p) K)) : Ev κ m Z (.Call f es ks p) K := by
  cases ks with
  | cons _ _ => exact h
  | nil =>
    refine xNameE h (fun fn p2 e h => bcE h (fun hb h => ?_) id) id
    obtain ⟨e1, e2⟩ := Bool.and_eq_true_iff.mp hb
    have e3 := (Bool.and_eq_true_iff.mp e2).1
    have gs : ∀ {xs Z' f}, (List.length xs = es.length ∧ Ca κ m Z' f xs K) → Ca κ m Z' f xs K := fun q => q.2
    refine ocE h (fun v hv h => svR h (fun fa ev h => bcE h (fun hk h5 => ?_) id) id) fun _ h => ocE h (fun f hf h5 => ?_) fun _ => id
    · subst e ev; exact ev_call O hv e1 hk e2 (es_mono (vEs_of hE _ _ _ e3 h5) fun _ _ => gs)
    · subst e; exact ev_callB O hf e1 e2 (es_mono (vEs_of hE _ _ _ e3 h5) fun _ _ => gs)
theorem ev_attr {x attr : Str} {p p2 : Pos} {a : Addr} {K : SV → Ld → Prop} (O : KOk κ sc dp un) (hx : mget x m = some (.ref a)) (h : VAt κ Z a attr K) : Ev κ m Z (.Attribute (.Name x p2) attr p) K := by
  intro hp tk Q F N q
  have es := O.scp
  obtain ⟨gd, outer, base, mean, mg, mb, nm, a', cd, hA, hE', B, X, T⟩ := O.ok
  obtain ⟨m', F', hm⟩ := id F
  obtain ⟨hl, u, hu, hi⟩ := hm _ _ hx
  rw [es] at hl
  obtain ⟨h1, h2⟩ := isLoc_of hl
  cases hi
  obtain ⟨v, ha, k⟩ := VAt.k h
  refine Attribute_Name_ ?_
  rw [hE']
  exact nameX_L (s := κ.st hp tk) F' hu (ha m' hp tk _ X F' N fun u tk' hu => q v u Z hp tk' k hu F N) O.fn h1 h2
theorem vAtt_of {o : Expr} {attr : Str} {p : Pos} {K : SV → Ld → Prop} (O : KOk κ sc dp un) (h : vAtt κ m Z o attr K (Ev κ m Z (.Attribute o attr p) K)) : Ev κ m Z (.Attribute o attr p) K :=
  xNameE h (fun _ _ e h => ocE h (fun _ hv h => svR h (fun _ ev h => e ▸ ev_attr O (ev ▸ hv) h) id) fun _ => id) id
theorem vSlc_of {o : Expr} {a b : Option Expr} {p p2 : Pos} {K : SV → Ld → Prop} (hE : ∀ Z e K, rE Z e K → Ev κ m Z e K) (h : rE Z o fun v Z' => v.s False fun l => vSlc rE Z' l K a b) : Ev κ m Z (.Subscript o (.Slice a b none p2) p) K := by
  intro hp tk Q F N q
  refine Subscript_ (hE _ _ _ h hp tk _ F N fun v u1 Z' h' tk' k hu F2 N2 => svS k (fun l e k => ?_) False.elim)
  subst e
  obtain ⟨t, rfl⟩ := hu
  refine wpAny_Slice ?_
  cases a with
  | none =>
    cases b with
    | none => exact k.elim
    | some u =>
      refine evalPart_none_step (evalPart_some_step (hE _ _ _ k h' tk' _ F2 N2 fun w u2 Z'' h2 tk2 k2 hu2 F3 N3 => evalPart_none_step (svI k2 (fun n e k2 => ?_) False.elim)))
      subst e
      obtain ⟨t2, rfl⟩ := hu2
      obtain ⟨m', F', hm⟩ := F3
      exact rl_to (s := κ.st h2 tk2) F' N3 k2.1.2 k2.1.1 (fun h3 t' k' F4 N4 => q _ _ Z'' h3 k' k2.2 ⟨_, rfl⟩ ⟨m', F4, hm⟩ N4) (ht := fun _ => ltg_str)
  | some u =>
    cases b with
    | none =>
      refine evalPart_some_step (hE _ _ _ k h' tk' _ F2 N2 fun w u2 Z'' h2 tk2 k2 hu2 F3 N3 => evalPart_none_step (evalPart_none_step (svI k2 (fun n e k2 => ?_) False.elim)))
      subst e
      obtain ⟨t2, rfl⟩ := hu2
      obtain ⟨m', F', hm⟩ := F3
      exact rl_from (s := κ.st h2 tk2) F' N3 k2.1.2 k2.1.1 (fun h3 t' k' F4 N4 => q _ _ Z'' h3 k' k2.2 ⟨_, rfl⟩ ⟨m', F4, hm⟩ N4) (ht := fun _ => ltg_str)
    | some u' =>
      refine evalPart_some_step (hE _ _ _ k h' tk' _ F2 N2 fun w u2 Z'' h2 tk2 k2 hu2 F3 N3 => evalPart_some_step (hE _ _ _ k2 h2 tk2 _ F3 N3 fun y u3 Z3 h3 tk3 k3 hu3 F4 N4 => evalPart_none_step (svI k3 (fun n e k3 => svI k3 (fun n' e' k3 => ?_) False.elim) False.elim)))
      subst e e'
      obtain ⟨t2, rfl⟩ := hu2
      obtain ⟨t3, rfl⟩ := hu3
      obtain ⟨m', F', hm⟩ := F4
      exact rl_ab (s := κ.st h3 tk3) F' N4 k3.1.2.1 k3.1.2.2 k3.1.1 (fun h4 t' k' F5 N5 => q _ _ Z3 h4 k' k3.2 ⟨_, rfl⟩ ⟨m', F5, hm⟩ N5) (ht := fun _ => ltg_str)
theorem ev_sub {o i : Expr} {p : Pos} {K : SV → Ld → Prop} (hE : ∀ Z e K, rE Z e K → Ev κ m Z e K) (hi : plE i = true) (h : rE Z o fun v Z' => rE Z' i fun w Z'' => w.i False fun n => v.s (v.r False fun a => VIt κ m Z'' o i a n K) fun l => (l.length ≤ 4000000 ∧ 0 ≤ n ∧ n < (l.length : Int)) ∧ K (.str [l.getD n.toNat 0]) Z'') : Ev κ m Z (.Subscript o i p) K := by
  intro hp tk Q F N q
  refine Subscript_ (hE _ _ _ h hp tk _ F N fun v u1 Z' h' tk' k hu F2 N2 => hE _ _ _ k h' tk' _ F2 N2 fun w u2 Z'' h2 tk2 k2 hu2 F3 N3 => svI k2 (fun n e k2 => svS k2 (fun l e' k2 => ?_) fun k2 => svR k2 (fun a e' k2 => ?_) False.elim) False.elim)
  · subst e e'
    obtain ⟨t, rfl⟩ := hu
    obtain ⟨t2, rfl⟩ := hu2
    exact rl_item (s := κ.st h2 tk2) k2.1.2.1 k2.1.2.2 k2.1.1 (fun t' k' => q _ _ Z'' h2 k' k2.2 ⟨_, rfl⟩ F3 N3) (pl_sub hi) (fun _ => ltg_str)
  · subst e e'
    exact VIt.k k2 u1 u2 h2 tk2 Q hu hu2 F3 N3 q
theorem vSub_of {o i : Expr} {p : Pos} {K : SV → Ld → Prop} (hE : ∀ Z e K, rE Z e K → Ev κ m Z e K) (h : vSub κ m rE Z o i K (Ev κ m Z (.Subscript o i p) K)) : Ev κ m Z (.Subscript o i p) K :=
  bcE h (fun hi h => ev_sub hE hi h) fun h => xSlE h (fun _ _ c _ e h => ocE h (fun _ _ => id) fun ec h => by subst e ec; exact vSlc_of hE h) id
theorem ev_neg {x : Expr} {p : Pos} {K : SV → Ld → Prop} (h : Ev κ m Z x fun v Z' => v.i False fun k => K (.int (-k)) Z') : Ev κ m Z (.UnaryOp .USub x p) K := by
  intro hp tk Q F N q
  refine wpAny_UnaryOp (h hp tk _ F N fun v u Z' h' tk' k hu F2 N2 => svI k (fun n e k => ?_) False.elim)
  subst e
  obtain ⟨t, rfl⟩ := hu
  exact neg_int (q _ _ Z' h' _ k ⟨_, rfl⟩ F2 N2)
theorem vEstep_of (O : KOk κ sc dp un) (hE : ∀ Z e K, rE Z e K → Ev κ m Z e K) (hT : ∀ Z e K, rT Z e K → Et κ m Z e K) (Z : Ld) (e : Expr) (K : SV → Ld → Prop) (h : vEstep κ sc m rE rT Z e K) : Ev κ m Z e K := by
  cases e with
  | Name x p => exact vName_of O h
  | Constant c k p => exact vCst_of h
  | BinOp l op r p => exact ev_bin (ev_mono (hE _ _ _ h) fun a Z' q => ev_mono (hE _ _ _ q) fun b Z'' q => vBin_of q)
  | Compare l ops rs p =>
    refine vCpr_of O hE h (fun op r e1 e2 hp h5 => ?_) id
    subst e1 e2
    exact ev_cmp hp (ev_mono h5 fun a Z' q => ev_mono q fun b Z'' q va vb hp tk Q ha hb F N k => q va vb hp tk Q ha hb F N fun v u Z3 h3 tk3 q3 => k v u Z3 h3 tk3 (by obtain ⟨c, rfl, q3⟩ := q3; exact q3))
  | IfExp t a b p => exact ev_ifexp (et_mono (hT _ _ _ h) fun c Z' q => ⟨fun hc => hE _ _ _ (q.t hc), fun hc => hE _ _ _ (q.f hc)⟩)
  | Tuple es k p => exact bcE h (fun e h => ev_tuple (of_decide_eq_true (Bool.and_eq_true_iff.mp e).2) (vEs_of hE _ _ _ (Bool.and_eq_true_iff.mp e).1 h)) id
  | Call f es ks p => exact vCall_of O hE h
  | Attribute o attr p => exact vAtt_of O h
  | Subscript o i p => exact vSub_of hE h
  | UnaryOp op x p =>
    cases op with
    | USub => exact ev_neg (hE _ _ _ h)
    | _ => exact h
  | _ => exact h
theorem vTs_of (O : KOk κ sc dp un) (hE : ∀ Z e K, rE Z e K → Ev κ m Z e K) (hT : ∀ Z e K, rT Z e K → Et κ m Z e K) (Z : Ld) (e : Expr) (K : Bool → Ld → Prop) (h : vTs κ m rE rT Z e K) : Et κ m Z e K := by
  cases e with
  | Compare l ops rs p =>
    refine vCpr_of O hE h (fun op r e1 e2 hp h5 => ?_) id
    subst e1 e2
    exact et_cmp hp h5
  | BoolOp op xs p =>
    cases op with
    | And =>
      cases xs with
      | nil => exact et_and0 h
      | cons x xs => exact et_and (et_mono (hT _ _ _ h) fun c Z' q => ⟨fun hc => hT _ _ _ (q.t hc), q.f⟩)
    | Or =>
      cases xs with
      | nil => exact et_or0 h
      | cons x xs => exact et_or (et_mono (hT _ _ _ h) fun c Z' q => ⟨q.t, fun hc => hT _ _ _ (q.f hc)⟩)
  | UnaryOp op x p =>
    cases op with
    | Not => exact et_not (hT _ _ _ h)
    | _ => exact h
  | _ => exact h
theorem vTstep_of (O : KOk κ sc dp un) (hE : ∀ Z e K, rE Z e K → Ev κ m Z e K) (hT : ∀ Z e K, rT Z e K → Et κ m Z e K) (Z : Ld) (e : Expr) (K : Bool → Ld → Prop) (h : vTstep κ m rE rT Z e K) : Et κ m Z e K :=
  bcE h (fun he h => et_val he (ev_mono (hE _ _ _ h) fun v Z' q => svB q (fun c e k => ⟨c, e, k⟩) False.elim)) (vTs_of O hE hT Z e K)
theorem vET_of (O : KOk κ sc dp un) : ∀ n, (∀ Z e K, (vET κ sc m n).1 Z e K → Ev κ m Z e K) ∧ ∀ Z e K, (vET κ sc m n).2 Z e K → Et κ m Z e K
  | 0 => ⟨fun _ _ _ h => h, fun _ _ _ h => h⟩
  | n + 1 => ⟨vEstep_of O (vET_of O n).1 (vET_of O n).2, vTstep_of O (vET_of O n).1 (vET_of O n).2⟩
end
end
open PySem PySem.W PySem.Calls PyProof.Rows
local macro_rules | `(tactic| tm_at "O") => `(tactic| (first | lia | omega))
local macro_rules | `(tactic| tm_at "M pre") => `(tactic| ((case k1 => assumption); (case k2 => assumption); (case k6 => k_is); (case k7 => k_is); (case k8 => (dsimp only; tm_at "O")); (case k9 => exact BindsTo.of_eq rfl); (case kB => exact locs rfl); (case c2 => exact rfl); (case c3 => exact rfl); (case c4 => exact rfl); (case c5 => decide); k_whole))
local macro_rules | `(tactic| tm_at "M pre0") => `(tactic| (refine' call_M0 ?k1 ?k2 ?k6 ?k7 ?k8 ?k9 ?kB ?_ ?c2 ?c3 ?c4 ?c5; tm_at "M pre"))
local macro_rules | `(tactic| tm_at "M preX") => `(tactic| (refine' call_M ?k1 ?k2 ?k6 ?k7 ?k8 ?k9 ?kB ?_ ?c2 ?c3 ?c4 ?c5; tm_at "M pre"))
local macro_rules | `(tactic| tm_at "M preL") => `(tactic| (refine' call_ML ?k1 ?k2 (by assumption) ?k6 ?k7 ?k8 ?k9 ?kB ?_ ?c2 ?c3 ?c4 ?c5; tm_at "M pre"))
local macro_rules | `(tactic| tm_at "M enter0") => `(tactic| (tm_at "M pre0"; intro L' h' F' N' l1 B' X' T'; (try simp only [List.reverse_cons, List.reverse_nil, List.nil_append, List.cons_append] at F'); (try k_lt l1); (try dsimp only); (try k_fold)))
local macro_rules | `(tactic| tm_at "M led") => `(tactic| first | exact List.forall_mem_nil _ | (refine List.forall_mem_cons.mpr ⟨by k_mem, ?_⟩; tm_at "M led"))
local macro_rules | `(tactic| tm_at "M partsX") => `(tactic| ((case kB => assumption); (case kF => k_asm); (case kN => k_asm); (case kX => assumption); (case kT => assumption); (case ks => ((try unfold RC.led); (try unfold RC.src); tm_at "M led")); (case kd => tm_at "O"); (case ku => tm_at "O")))
local macro_rules | `(tactic| tm_at "M parts") => `(tactic| (tm_at "M partsX"; (case kr => tm_at "M rst")))
local macro_rules | `(tactic| walk_at "call builtin:divmod") => `(tactic| (k_here; (with_reducible show wpAny _ _ (call (Value.builtin _) [Value.int _ _, Value.int _ _]) _ _ _); (rename News _ _ _ _ => nF'); refine lt_now nF' ?_; intro l1; k_lt l1; refine divmod_N (by assumption) (by assumption) (by tm_at "O") ?_; intro h' F' N'; (try k_sweep)))
local macro_rules | `(tactic| walk_at "call builtin:len") => `(tactic| (k_here; (with_reducible show wpAny _ _ (call (Value.builtin "len") [Value.ref _]) _ _ _); (refine' rl_listLen ?N ?hm ?hn ?_; (case N => k_asm); (case hm => k_mem); (case hn => tm_at "M num"); k_whole; intro _ _)))
local macro_rules | `(tactic| walk_at "exec For Name Subscript cons nil") => `(tactic| (k_here; (with_reducible rename Fr _ _ _ _ => lF'); (with_unfolding_all refine' For_invVF lF' ?k1 ?k2 ?_; (case k1 => exact rfl); (case k2 => exact rfl); k_whole)))
local macro_rules | `(tactic| walk_at "pyIter ref") => `(tactic| (k_here; (with_reducible show wpAny _ _ (pyIter _) (fun it s₂ => LoopAtV _ _ _ _ _ _ _ _ _ it s₂) _ _); refine hold_i ?_))
local macro_rules | `(tactic| tm_at "M num") => `(tactic| first | tm_at "O" | (simp only [List.length_cons, List.length_nil, List.length_append, List.length_take, List.length_drop, List.length_replicate] at *; tm_at "O"))
local macro_rules | `(tactic| tm_at "M off") => `(tactic| (dsimp only [OffL]; (repeat' (first | exact True.intro | refine And.intro ?_ ?_)); all_goals tm_at "O"))
local macro_rules | `(tactic| tm_at "M rst") => `(tactic| first | exact Rst.nil | (refine' Rst.skip ?a ?b; (case a => k_mem); (case b => tm_at "M rst")) | (refine' Rst.keep' ?a ?b; (case a => tm_at "M off"); (case b => tm_at "M rst")) | (refine' Rst.drop ?b; (case b => tm_at "M rst")))
local macro_rules | `(tactic| tm_at "M swp") => `(tactic| ((try simp only [List.cons_append, List.nil_append] at N'); (try k_sweep)))
local macro_rules | `(tactic| walk_at "call builtin:Exception.__init__") => `(tactic| tm_at "L call builtin:Exception.__init__")
local macro_rules | `(tactic| walk_at "call ref") => `(tactic| tm_at "L call ref")
local macro_rules | `(tactic| walk_at "exec Raise some none") => `(tactic| tm_at "L exec Raise some none")
local macro_rules | `(tactic| walk_at "execs cons") => `(tactic| tm_at "L execs cons")
local macro_rules | `(tactic| walk_at "getAttr ref") => `(tactic| tm_at "L getAttr ref")
local macro_rules | `(tactic| walk_at "getMethod type:Exception") => `(tactic| tm_at "L getMethod type:Exception")
local macro_rules | `(tactic| walk_at "noteFrame ref") => `(tactic| tm_at "L noteFrame ref")
local macro_rules | `(tactic| walk_at "setAttr ref") => `(tactic| tm_at "L setAttr ref")
local macro_rules | `(tactic| k_room) => `(tactic| ((simp only [depth_under_make, depth_under_kw]); (try simp only [depth_in1, depth_deeper]); (try dsimp only); tm_at "O"))
section
local macro_rules | `(tactic| k_handed) => `(tactic| assumption)
theorem getA_source {prog : Program} {w : World} {A : Around} {E : Value → Shared → Prop} {s : Shared} {g : Heap} {L : Addr} {m : Str → Option Value} {news : List (Addr × Obj)} {c : RC} {σ : RS} {Q : Value → Shared → Prop} (F : Fr g L s.heap m) (X : (Mine.kk.heap_1 w.params).In g) (N : News g L s.heap news) (hs : ∀ p ∈ c.led w σ, p ∈ news) (k : ∀ tk, Q (.ref c.sr) { s with toks := tk }) :
    wpAny (model prog w) A (getAttr (.ref c.r) (PySem.Str.ofString "source") true) Q E s := by
  have N2 : News g L s.heap (c.led w σ) := fun p hp => N p (hs p hp)
  unfold RC.led at N2
  clear N hs
  k_steps
  exact k _
theorem getA_record {prog : Program} {w : World} {A : Around} {E : Value → Shared → Prop} {s : Shared} {g : Heap} {L : Addr} {m : Str → Option Value} {news : List (Addr × Obj)} {c : RC} {σ : RS} {Q : Value → Shared → Prop} (F : Fr g L s.heap m) (X : (Mine.kk.heap_1 w.params).In g) (N : News g L s.heap news) (hs : ∀ p ∈ c.led w σ, p ∈ news) (k : ∀ tk, Q (.str (tx σ.record) σ.trec) { s with toks := tk }) :
    wpAny (model prog w) A (getAttr (.ref c.r) (PySem.Str.ofString "record") true) Q E s := by
  have N2 : News g L s.heap (c.led w σ) := fun p hp => N p (hs p hp)
  unfold RC.led at N2
  clear N hs
  k_steps
  exact k _
theorem getA_col {prog : Program} {w : World} {A : Around} {E : Value → Shared → Prop} {s : Shared} {g : Heap} {L : Addr} {m : Str → Option Value} {news : List (Addr × Obj)} {c : RC} {σ : RS} {Q : Value → Shared → Prop} (F : Fr g L s.heap m) (X : (Mine.kk.heap_1 w.params).In g) (N : News g L s.heap news) (hs : ∀ p ∈ c.led w σ, p ∈ news) (k : ∀ tk, Q (.int σ.col σ.tcol) { s with toks := tk }) :
    wpAny (model prog w) A (getAttr (.ref c.r) (PySem.Str.ofString "col") true) Q E s := by
  have N2 : News g L s.heap (c.led w σ) := fun p hp => N p (hs p hp)
  unfold RC.led at N2
  clear N hs
  k_steps
  exact k _
theorem getA_left {prog : Program} {w : World} {A : Around} {E : Value → Shared → Prop} {s : Shared} {g : Heap} {L : Addr} {m : Str → Option Value} {news : List (Addr × Obj)} {c : RC} {σ : RS} {Q : Value → Shared → Prop} (F : Fr g L s.heap m) (X : (Mine.kk.heap_1 w.params).In g) (N : News g L s.heap news) (hs : ∀ p ∈ c.led w σ, p ∈ news) (k : ∀ tk, Q (.int σ.left σ.tleft) { s with toks := tk }) :
    wpAny (model prog w) A (getAttr (.ref c.r) (PySem.Str.ofString "left") true) Q E s := by
  have N2 : News g L s.heap (c.led w σ) := fun p hp => N p (hs p hp)
  unfold RC.led at N2
  clear N hs
  k_steps
  exact k _
theorem getA_held {prog : Program} {w : World} {A : Around} {E : Value → Shared → Prop} {s : Shared} {g : Heap} {L : Addr} {m : Str → Option Value} {news : List (Addr × Obj)} {c : RC} {σ : RS} {Q : Value → Shared → Prop} (F : Fr g L s.heap m) (X : (Mine.kk.heap_1 w.params).In g) (N : News g L s.heap news) (hs : ∀ p ∈ c.led w σ, p ∈ news) (hh : handedIn σ.held = true) (k : ∀ tk, Q (σ.held) { s with toks := tk }) :
    wpAny (model prog w) A (getAttr (.ref c.r) (PySem.Str.ofString "held") true) Q E s := by
  have N2 : News g L s.heap (c.led w σ) := fun p hp => N p (hs p hp)
  unfold RC.led at N2
  clear N hs
  k_steps
  exact k _
theorem getA_beh {prog : Program} {w : World} {A : Around} {E : Value → Shared → Prop} {s : Shared} {g : Heap} {L : Addr} {m : Str → Option Value} {news : List (Addr × Obj)} {c : RC} {σ : RS} {Q : Value → Shared → Prop} (F : Fr g L s.heap m) (X : (Mine.kk.heap_1 w.params).In g) (N : News g L s.heap news) (hs : ∀ p ∈ c.led w σ, p ∈ news) (k : ∀ tk, Q (.bool σ.beh) { s with toks := tk }) :
    wpAny (model prog w) A (getAttr (.ref c.r) (PySem.Str.ofString "is_behind") true) Q E s := by
  have N2 : News g L s.heap (c.led w σ) := fun p hp => N p (hs p hp)
  unfold RC.led at N2
  clear N hs
  k_steps
  exact k _
theorem getA_don {prog : Program} {w : World} {A : Around} {E : Value → Shared → Prop} {s : Shared} {g : Heap} {L : Addr} {m : Str → Option Value} {news : List (Addr × Obj)} {c : RC} {σ : RS} {Q : Value → Shared → Prop} (F : Fr g L s.heap m) (X : (Mine.kk.heap_1 w.params).In g) (N : News g L s.heap news) (hs : ∀ p ∈ c.led w σ, p ∈ news) (k : ∀ tk, Q (.bool σ.don) { s with toks := tk }) :
    wpAny (model prog w) A (getAttr (.ref c.r) (PySem.Str.ofString "is_done") true) Q E s := by
  have N2 : News g L s.heap (c.led w σ) := fun p hp => N p (hs p hp)
  unfold RC.led at N2
  clear N hs
  k_steps
  exact k _
theorem getA_records {prog : Program} {w : World} {A : Around} {E : Value → Shared → Prop} {s : Shared} {g : Heap} {L : Addr} {m : Str → Option Value} {news : List (Addr × Obj)} {c : RC} {a : Int} {t : Tok} {Q : Value → Shared → Prop} (F : Fr g L s.heap m) (X : (Mine.kk.heap_1 w.params).In g) (N : News g L s.heap news) (hs : ∀ p ∈ c.src w a t, p ∈ news) (k : ∀ tk, Q (.ref c.lst) { s with toks := tk }) :
    wpAny (model prog w) A (getAttr (.ref c.sr) (PySem.Str.ofString "records") true) Q E s := by
  have N2 : News g L s.heap (c.src w a t) := fun p hp => N p (hs p hp)
  unfold RC.src at N2
  clear N hs
  k_steps
  exact k _
theorem getA_at {prog : Program} {w : World} {A : Around} {E : Value → Shared → Prop} {s : Shared} {g : Heap} {L : Addr} {m : Str → Option Value} {news : List (Addr × Obj)} {c : RC} {a : Int} {t : Tok} {Q : Value → Shared → Prop} (F : Fr g L s.heap m) (X : (Mine.kk.heap_1 w.params).In g) (N : News g L s.heap news) (hs : ∀ p ∈ c.src w a t, p ∈ news) (k : ∀ tk, Q (.int a t) { s with toks := tk }) :
    wpAny (model prog w) A (getAttr (.ref c.sr) (PySem.Str.ofString "at") true) Q E s := by
  have N2 : News g L s.heap (c.src w a t) := fun p hp => N p (hs p hp)
  unfold RC.src at N2
  clear N hs
  k_steps
  exact k _
theorem getA_width {prog : Program} {w : World} {A : Around} {E : Value → Shared → Prop} {s : Shared} {g : Heap} {L : Addr} {m : Str → Option Value} {news : List (Addr × Obj)} {lm : LM} {Q : Value → Shared → Prop} (F : Fr g L s.heap m) (X : (Mine.kk.heap_1 w.params).In g) (N : News g L s.heap news) (hs : ∀ p ∈ lm.led w, p ∈ news) (k : ∀ tk, Q (.int 16 (lm.vt 0)) { s with toks := tk }) :
    wpAny (model prog w) A (getAttr (.ref lm.a) (PySem.Str.ofString "width") true) Q E s := by
  have N2 : News g L s.heap (lm.led w) := fun p hp => N p (hs p hp)
  unfold LM.led at N2
  clear N hs
  k_steps
  exact k _
theorem getA_real_digits {prog : Program} {w : World} {A : Around} {E : Value → Shared → Prop} {s : Shared} {g : Heap} {L : Addr} {m : Str → Option Value} {news : List (Addr × Obj)} {lm : LM} {Q : Value → Shared → Prop} (F : Fr g L s.heap m) (X : (Mine.kk.heap_1 w.params).In g) (N : News g L s.heap news) (hs : ∀ p ∈ lm.led w, p ∈ news) (k : ∀ tk, Q (.int 9 (lm.vt 1)) { s with toks := tk }) :
    wpAny (model prog w) A (getAttr (.ref lm.a) (PySem.Str.ofString "real_digits") true) Q E s := by
  have N2 : News g L s.heap (lm.led w) := fun p hp => N p (hs p hp)
  unfold LM.led at N2
  clear N hs
  k_steps
  exact k _
theorem getA_double_digits {prog : Program} {w : World} {A : Around} {E : Value → Shared → Prop} {s : Shared} {g : Heap} {L : Addr} {m : Str → Option Value} {news : List (Addr × Obj)} {lm : LM} {Q : Value → Shared → Prop} (F : Fr g L s.heap m) (X : (Mine.kk.heap_1 w.params).In g) (N : News g L s.heap news) (hs : ∀ p ∈ lm.led w, p ∈ news) (k : ∀ tk, Q (.int 12 (lm.vt 2)) { s with toks := tk }) :
    wpAny (model prog w) A (getAttr (.ref lm.a) (PySem.Str.ofString "double_digits") true) Q E s := by
  have N2 : News g L s.heap (lm.led w) := fun p hp => N p (hs p hp)
  unfold LM.led at N2
  clear N hs
  k_steps
  exact k _
theorem getA_top_exponent {prog : Program} {w : World} {A : Around} {E : Value → Shared → Prop} {s : Shared} {g : Heap} {L : Addr} {m : Str → Option Value} {news : List (Addr × Obj)} {lm : LM} {Q : Value → Shared → Prop} (F : Fr g L s.heap m) (X : (Mine.kk.heap_1 w.params).In g) (N : News g L s.heap news) (hs : ∀ p ∈ lm.led w, p ∈ news) (k : ∀ tk, Q (.int 99 (lm.vt 3)) { s with toks := tk }) :
    wpAny (model prog w) A (getAttr (.ref lm.a) (PySem.Str.ofString "top_exponent") true) Q E s := by
  have N2 : News g L s.heap (lm.led w) := fun p hp => N p (hs p hp)
  unfold LM.led at N2
  clear N hs
  k_steps
  exact k _
end
section
local macro_rules | `(tactic| k_all) => `(tactic| assumption)
theorem setA_col {prog : Program} {w : World} {A : Around} {E : Value → Shared → Prop} {s : Shared} {g : Heap} {L : Addr} {m : Str → Option Value} {R : List (Addr × Obj)} {c : RC} {σ : RS} {Q : Unit → Shared → Prop} {n : Int} {t : Tok} (F : Fr g L s.heap m) (X : (Mine.kk.heap_1 w.params).In g) (N : News g L s.heap (c.led w σ ++ R)) (ho : c.lst < c.dsr ∧ c.dsr < c.sr ∧ c.sr < c.dr ∧ c.dr < c.r) (hR : ∀ p ∈ R, @Ne Nat p.1 c.dr) (k : ∀ h' tk, Fr g L h' m → News g L h' (c.led w { σ with col := n, tcol := t } ++ R) → Q () { s with heap := h', toks := tk }) :
    wpAny (model prog w) A (setAttr (.ref c.r) (PySem.Str.ofString "col") (.int n t)) Q E s := by
  obtain ⟨o1, o2, o3, o4⟩ := ho
  unfold RC.led at N
  simp only [List.cons_append, List.nil_append] at N
  k_steps
  exact k _ _ (by assumption) (by assumption)
theorem setA_record {prog : Program} {w : World} {A : Around} {E : Value → Shared → Prop} {s : Shared} {g : Heap} {L : Addr} {m : Str → Option Value} {R : List (Addr × Obj)} {c : RC} {σ : RS} {Q : Unit → Shared → Prop} {l : List Nat} {t : Tok} (F : Fr g L s.heap m) (X : (Mine.kk.heap_1 w.params).In g) (N : News g L s.heap (c.led w σ ++ R)) (ho : c.lst < c.dsr ∧ c.dsr < c.sr ∧ c.sr < c.dr ∧ c.dr < c.r) (hR : ∀ p ∈ R, @Ne Nat p.1 c.dr) (k : ∀ h' tk, Fr g L h' m → News g L h' (c.led w { σ with record := l, trec := t } ++ R) → Q () { s with heap := h', toks := tk }) :
    wpAny (model prog w) A (setAttr (.ref c.r) (PySem.Str.ofString "record") (.str (tx l) t)) Q E s := by
  obtain ⟨o1, o2, o3, o4⟩ := ho
  unfold RC.led at N
  simp only [List.cons_append, List.nil_append] at N
  k_steps
  exact k _ _ (by assumption) (by assumption)
theorem setA_left {prog : Program} {w : World} {A : Around} {E : Value → Shared → Prop} {s : Shared} {g : Heap} {L : Addr} {m : Str → Option Value} {R : List (Addr × Obj)} {c : RC} {σ : RS} {Q : Unit → Shared → Prop} {n : Int} {t : Tok} (F : Fr g L s.heap m) (X : (Mine.kk.heap_1 w.params).In g) (N : News g L s.heap (c.led w σ ++ R)) (ho : c.lst < c.dsr ∧ c.dsr < c.sr ∧ c.sr < c.dr ∧ c.dr < c.r) (hR : ∀ p ∈ R, @Ne Nat p.1 c.dr) (k : ∀ h' tk, Fr g L h' m → News g L h' (c.led w { σ with left := n, tleft := t } ++ R) → Q () { s with heap := h', toks := tk }) :
    wpAny (model prog w) A (setAttr (.ref c.r) (PySem.Str.ofString "left") (.int n t)) Q E s := by
  obtain ⟨o1, o2, o3, o4⟩ := ho
  unfold RC.led at N
  simp only [List.cons_append, List.nil_append] at N
  k_steps
  exact k _ _ (by assumption) (by assumption)
theorem setA_heldN {prog : Program} {w : World} {A : Around} {E : Value → Shared → Prop} {s : Shared} {g : Heap} {L : Addr} {m : Str → Option Value} {R : List (Addr × Obj)} {c : RC} {σ : RS} {Q : Unit → Shared → Prop}  (F : Fr g L s.heap m) (X : (Mine.kk.heap_1 w.params).In g) (N : News g L s.heap (c.led w σ ++ R)) (ho : c.lst < c.dsr ∧ c.dsr < c.sr ∧ c.sr < c.dr ∧ c.dr < c.r) (hR : ∀ p ∈ R, @Ne Nat p.1 c.dr) (k : ∀ h' tk, Fr g L h' m → News g L h' (c.led w { σ with held := .none } ++ R) → Q () { s with heap := h', toks := tk }) :
    wpAny (model prog w) A (setAttr (.ref c.r) (PySem.Str.ofString "held") (.none)) Q E s := by
  obtain ⟨o1, o2, o3, o4⟩ := ho
  unfold RC.led at N
  simp only [List.cons_append, List.nil_append] at N
  k_steps
  exact k _ _ (by assumption) (by assumption)
theorem setA_heldR {prog : Program} {w : World} {A : Around} {E : Value → Shared → Prop} {s : Shared} {g : Heap} {L : Addr} {m : Str → Option Value} {R : List (Addr × Obj)} {c : RC} {σ : RS} {Q : Unit → Shared → Prop} {a : Addr} (F : Fr g L s.heap m) (X : (Mine.kk.heap_1 w.params).In g) (N : News g L s.heap (c.led w σ ++ R)) (ho : c.lst < c.dsr ∧ c.dsr < c.sr ∧ c.sr < c.dr ∧ c.dr < c.r) (hR : ∀ p ∈ R, @Ne Nat p.1 c.dr) (k : ∀ h' tk, Fr g L h' m → News g L h' (c.led w { σ with held := .ref a } ++ R) → Q () { s with heap := h', toks := tk }) :
    wpAny (model prog w) A (setAttr (.ref c.r) (PySem.Str.ofString "held") (.ref a)) Q E s := by
  obtain ⟨o1, o2, o3, o4⟩ := ho
  unfold RC.led at N
  simp only [List.cons_append, List.nil_append] at N
  k_steps
  exact k _ _ (by assumption) (by assumption)
theorem setA_beh {prog : Program} {w : World} {A : Around} {E : Value → Shared → Prop} {s : Shared} {g : Heap} {L : Addr} {m : Str → Option Value} {R : List (Addr × Obj)} {c : RC} {σ : RS} {Q : Unit → Shared → Prop} {b : Bool} (F : Fr g L s.heap m) (X : (Mine.kk.heap_1 w.params).In g) (N : News g L s.heap (c.led w σ ++ R)) (ho : c.lst < c.dsr ∧ c.dsr < c.sr ∧ c.sr < c.dr ∧ c.dr < c.r) (hR : ∀ p ∈ R, @Ne Nat p.1 c.dr) (k : ∀ h' tk, Fr g L h' m → News g L h' (c.led w { σ with beh := b } ++ R) → Q () { s with heap := h', toks := tk }) :
    wpAny (model prog w) A (setAttr (.ref c.r) (PySem.Str.ofString "is_behind") (.bool b)) Q E s := by
  obtain ⟨o1, o2, o3, o4⟩ := ho
  unfold RC.led at N
  simp only [List.cons_append, List.nil_append] at N
  k_steps
  exact k _ _ (by assumption) (by assumption)
theorem setA_don {prog : Program} {w : World} {A : Around} {E : Value → Shared → Prop} {s : Shared} {g : Heap} {L : Addr} {m : Str → Option Value} {R : List (Addr × Obj)} {c : RC} {σ : RS} {Q : Unit → Shared → Prop} {b : Bool} (F : Fr g L s.heap m) (X : (Mine.kk.heap_1 w.params).In g) (N : News g L s.heap (c.led w σ ++ R)) (ho : c.lst < c.dsr ∧ c.dsr < c.sr ∧ c.sr < c.dr ∧ c.dr < c.r) (hR : ∀ p ∈ R, @Ne Nat p.1 c.dr) (k : ∀ h' tk, Fr g L h' m → News g L h' (c.led w { σ with don := b } ++ R) → Q () { s with heap := h', toks := tk }) :
    wpAny (model prog w) A (setAttr (.ref c.r) (PySem.Str.ofString "is_done") (.bool b)) Q E s := by
  obtain ⟨o1, o2, o3, o4⟩ := ho
  unfold RC.led at N
  simp only [List.cons_append, List.nil_append] at N
  k_steps
  exact k _ _ (by assumption) (by assumption)
theorem setA_at {prog : Program} {w : World} {A : Around} {E : Value → Shared → Prop} {s : Shared} {g : Heap} {L : Addr} {m : Str → Option Value} {R : List (Addr × Obj)} {c : RC} {a n : Int} {t t2 : Tok} {Q : Unit → Shared → Prop}  (F : Fr g L s.heap m) (X : (Mine.kk.heap_1 w.params).In g) (N : News g L s.heap (c.src w a t ++ R)) (ho : c.lst < c.dsr ∧ c.dsr < c.sr) (hR : ∀ p ∈ R, @Ne Nat p.1 c.dsr) (k : ∀ h' tk, Fr g L h' m → News g L h' (c.src w n t2 ++ R) → Q () { s with heap := h', toks := tk }) :
    wpAny (model prog w) A (setAttr (.ref c.sr) (PySem.Str.ofString "at") (.int n t2)) Q E s := by
  obtain ⟨o1, o2⟩ := ho
  unfold RC.src at N
  simp only [List.cons_append, List.nil_append] at N
  k_steps
  exact k _ _ (by assumption) (by assumption)
end
section
theorem getM_next {prog : Program} {w : World} {A : Around} {E : Value → Shared → Prop} {s : Shared} {g : Heap} {L : Addr} {m : Str → Option Value} {news : List (Addr × Obj)} {c : RC} {a : Int} {t : Tok} {pl : Sem Bool} {Q : Value × List Value → Shared → Prop} (F : Fr g L s.heap m) (X : (Mine.kk.heap_1 w.params).In g) (N : News g L s.heap news) (hs : ∀ p ∈ c.src w a t, p ∈ news) (k : Q (.ref 339, [.ref c.sr]) s) :
    wpAny (model prog w) A (getMethod (.ref c.sr) (PySem.Str.ofString "next_record") pl) Q E s := by
  have N2 : News g L s.heap (c.src w a t) := fun p hp => N p (hs p hp)
  unfold RC.src at N2
  clear N hs
  k_steps
  exact k
end
section
open PySem PySem.W PySem.Calls PyProof.Rows
noncomputable def Nms : List Expr → List Str → Prop
  | [], [] => True
  | e :: es, x :: xs => (∃ p, e = .Name x p) ∧ Nms es xs
  | _, _ => False
noncomputable def vNms (D : Prop) : List Expr → (List Str → Prop) → Prop
  | [], k => k []
  | e :: es, k => xName D (fun x => vNms D es fun xs => k (x :: xs)) e
theorem vNmsE {D P : Prop} : ∀ {es : List Expr} {k : List Str → Prop}, vNms D es k → (∀ xs, Nms es xs → k xs → P) → (D → P) → P
  | [], _, h, f, _ => f [] trivial h
  | _ :: _, _, h, f, g => xNameE h (fun x p e h => vNmsE h (fun xs hn hk => f (x :: xs) ⟨⟨p, e⟩, hn⟩ hk) g) g
noncomputable def isCall (e : Expr) : Bool := Nat.beq e.ctorIdx 16
theorem call_is {e : Expr} (h : isCall e = true) : ∃ f es ks p, e = .Call f es ks p := by
  revert h
  rcases e with _ | _ | _ | _ | _ | _ | _ | _ | _ | _ | _ | _ | _ | _ | _ | _ | _ | _ | _ | _ | _ | _ | _ | _ | _ | _ | _ <;> intro h <;> first | exact nott h | exact ⟨_, _, _, _, rfl⟩
noncomputable def TupAt (κ : Kx) (Z : Ld) (a : Addr) (xs : List SV) : Prop := ∀ (h : Heap) (m' : Str → Option Value), (Mine.kk.heap_1 κ.w.params).In κ.g → Fr κ.g κ.L h m' → News κ.g κ.L h Z → ∃ vs, IsTup h a vs.toArray ∧ SVs xs vs
theorem tup_mem {κ : Kx} {Z : Ld} {a : Addr} {vs : List Value} {ep : Nat} {xs : List SV} (hv : SVs xs vs) (hm : (a, tupO vs ep) ∈ Z) : TupAt κ Z a xs := fun _ _ _ _ N => ⟨vs, News.isTup N hm, hv⟩
theorem tup_85 {κ : Kx} {Z : Ld} : TupAt κ Z 85 [.int 0, .int 0] := fun h _ X F _ => by
  obtain ⟨t0, t1, ep, sl, q⟩ := c85 κ.w
  exact ⟨[.int 0 t0, .int 0 t1], ⟨_, F.keep _ _ (X _ _ q), rfl, ep, rfl⟩, ⟨_, rfl⟩, ⟨_, rfl⟩, trivial⟩
theorem tup_two {κ : Kx} {Z nx : Ld} {a : Nat} {m e : Int} (h : Two (.ref a) m e nx) (hm : ∀ p ∈ nx, p ∈ Z) : TupAt κ Z a [.int m, .int e] := by
  rcases h with ⟨rfl, rfl, e, rfl⟩ | ⟨_, a', t1, t2, ep, e, rfl⟩
  · obtain ⟨⟩ := e; exact tup_85
  · obtain ⟨⟩ := e
    exact tup_mem (vs := [.int m t1, .int _ t2]) (ep := ep) ⟨⟨_, rfl⟩, ⟨_, rfl⟩, trivial⟩ (hm _ (.head _))
structure VUn (κ : Kx) (Z : Ld) (a : Addr) (n : Nat) (K : List SV → Prop) : Prop where
  k : ∃ xs, TupAt κ Z a xs ∧ n = xs.length ∧ K xs
theorem vun {κ : Kx} {Z : Ld} {a : Addr} {n : Nat} {K : List SV → Prop} {xs : List SV} (hT : TupAt κ Z a xs) (hn : n = xs.length) (k : K xs) : VUn κ Z a n K := ⟨xs, hT, hn, k⟩
noncomputable def msetL : List Str → List SV → Mp → Mp
  | x :: xs, v :: vs, m => msetL xs vs (mset x v m)
  | _, _, m => m
noncomputable def msetLK : List Str → List SV → Mp → (Mp → Prop) → Prop
  | x :: xs, v :: vs, m, k => msetK x v m fun m' => msetLK xs vs m' k
  | _, _, m, k => k m
theorem msetLK_of : ∀ {xs : List Str} {vs : List SV} {m : Mp} {k : Mp → Prop}, msetLK xs vs m k → k (msetL xs vs m)
  | [], _, _, _, h => h
  | _ :: _, [], _, _, h => h
  | x :: xs, v :: vs, m, k, h => msetLK_of (xs := xs) (vs := vs) (msetK_of h)
section
variable (κ : Kx) (sc : Scope)
noncomputable abbrev vE (m : Mp) : Ld → Expr → (SV → Ld → Prop) → Prop := (vET κ sc m 12).1
noncomputable abbrev vT (m : Mp) : Ld → Expr → (Bool → Ld → Prop) → Prop := (vET κ sc m 12).2
noncomputable def sx (D : Prop) (asg : List Expr → Expr → Prop) (aug : Expr → Operator → Expr → Prop) (iff : Expr → List Stmt → List Stmt → Prop) (ret : Option Expr → Prop) (ex : Expr → Prop) (t : Stmt) : Prop :=
  Stmt.casesOn (motive_2 := fun _ => Prop) t (fun _ _ _ _ _ _ _ _ _ _ => D) (fun _ _ _ _ _ _ _ _ _ _ => D) (fun _ _ _ _ _ _ _ _ _ _ _ => D) (fun e _ => ret e) (fun _ _ => D) (fun ts e _ => asg ts e) (fun _ _ _ _ _ _ _ => D) (fun t o e _ => aug t o e) (fun _ _ _ _ _ => D) (fun _ _ _ _ _ => D) (fun _ _ _ _ _ => D) (fun _ _ _ _ => D) (fun e a b _ => iff e a b) (fun _ _ _ => D) (fun _ _ _ => D) (fun _ _ _ => D) (fun _ _ _ => D) (fun _ _ _ _ _ => D) (fun _ _ _ _ _ => D) (fun _ _ _ => D) (fun _ _ => D) (fun _ _ _ _ => D) (fun _ _ => D) (fun _ _ => D) (fun e _ => ex e) (fun _ => D) (fun _ => D) (fun _ => D)
theorem sxE {D P : Prop} {asg : List Expr → Expr → Prop} {aug : Expr → Operator → Expr → Prop} {iff : Expr → List Stmt → List Stmt → Prop} {ret : Option Expr → Prop} {ex : Expr → Prop} {t : Stmt} (h : sx D asg aug iff ret ex t) (g : D → P) (fa : ∀ ts e p, t = .Assign ts e p → asg ts e → P) (fu : ∀ tg o e p, t = .AugAssign tg o e p → aug tg o e → P) (fi : ∀ e a b p, t = .If e a b p → iff e a b → P) (fr : ∀ e p, t = .Return e p → ret e → P) (fe : ∀ e p, t = .Expr e p → ex e → P) : P := by
  rcases t with _ | _ | _ | _ | _ | _ | _ | _ | _ | _ | _ | _ | _ | _ | _ | _ | _ | _ | _ | _ | _ | _ | _ | _ | _ | _ | _ | _ <;> first | exact g h | exact fa _ _ _ rfl h | exact fu _ _ _ _ rfl h | exact fi _ _ _ _ rfl h | exact fr _ _ rfl h | exact fe _ _ rfl h
noncomputable def vAsg (m : Mp) (Z : Ld) (e : Expr) (K : Fl → Mp → Ld → Prop) (D : Prop) : Expr → Prop := xView D
  (fun x => bc D (vE κ sc m Z e fun v Z' => msetK x v m fun m' => K .next m' Z') (mcan sc x m && plE e))
  (fun o attr => xName D (fun x => bc D (oc D (fun v => v.r D fun a => vE κ sc m Z e fun v Z' => Sa κ Z' a attr v fun Z'' => K .next m Z'') (mget x m)) (plE e)) o)
  (fun ns => vNms D ns fun xs => bc D (vE κ sc m Z e fun v Z' => v.r False fun a => VUn κ Z' a xs.length fun vs => msetLK xs vs m fun m' => K .next m' Z') (isCall e && xs.all (fun x => mcan sc x m)))
  (fun _ _ _ => D)
noncomputable def vS (rX : Mp → Ld → List Stmt → (Fl → Mp → Ld → Prop) → Prop) (m : Mp) (Z : Ld) (t : Stmt) (K : Fl → Mp → Ld → Prop) : Prop :=
  let D := E1 κ m Z t K
  sx D (fun ts e => l1 D (vAsg κ sc m Z e K D) ts)
    (fun tg op e => xName D (fun x => oc D (fun v0 => vE κ sc m Z e fun v Z' => vInp κ m Z' op v0 v fun c Z'' => msetK x c m fun m' => K .next m' Z'') (mget x m)) tg)
    (fun e a b => vT κ sc m Z e fun c Z' => VIf c (rX m Z' a K) (rX m Z' b K))
    (oc D fun e => vE κ sc m Z e fun v Z' => K (.ret v) m Z')
    (fun e => bc D (vE κ sc m Z e fun _ Z' => K .next m Z') (plE e)) t
noncomputable def vX : Nat → Mp → Ld → List Stmt → (Fl → Mp → Ld → Prop) → Prop
  | 0, m, Z, ss, K => Ex κ m Z ss K
  | n + 1, m, Z, ss, K => (match ss with
    | [] => K .next m Z
    | t :: ss => vS κ sc (vX n) m Z t (Nxt (fun m' Z' => vX n m' Z' ss K) K))
end
section
variable {κ : Kx} {sc : Scope} {dp un : Nat} {m : Mp} {Z : Ld}
theorem vE_of (O : KOk κ sc dp un) {e : Expr} {K : SV → Ld → Prop} (h : vE κ sc m Z e K) : Ev κ m Z e K := (vET_of O 12).1 Z e K h
theorem vT_of (O : KOk κ sc dp un) {e : Expr} {K : Bool → Ld → Prop} (h : vT κ sc m Z e K) : Et κ m Z e K := (vET_of O 12).2 Z e K h
theorem e1_assign {x : Str} {p p2 : Pos} {e : Expr} {K : Fl → Mp → Ld → Prop} (O : KOk κ sc dp un) (hl : mcan sc x m = true) (hw : plE e = true) (h : Ev κ m Z e fun v Z' => K .next (mset x v m) Z') : E1 κ m Z (.Assign [.Name x p] e p2) K := by
  intro hp tk Q F N q
  have es := O.scp
  obtain ⟨gd, outer, base, mean, mg, mb, nm, a, cd, hA, hE, B, X, T⟩ := O.ok
  refine wpAny_Assign_Name (h hp tk _ F N fun v u Z' h' tk' k hu F' N' => ?_) (pl_swap hw)
  obtain ⟨m', F1, hm⟩ := F'
  rw [es] at hm
  have hl := mcan_loc hl hm
  obtain ⟨h1, h2⟩ := isLoc_of hl
  rw [hE]
  exact storeX_L (s := κ.st h' tk') F1 N' (fun h2 F2 N2 => q .next .next _ Z' h2 (tk' + 1) k rfl (frS_ins es hl F2 hm hu) N2) O.fn h1
theorem e1_aug {x : Str} {v0 : SV} {op : Operator} {p p2 : Pos} {e : Expr} {K : Fl → Mp → Ld → Prop} (O : KOk κ sc dp un) (hx : mget x m = some v0)
    (h : Ev κ m Z e fun v Z' => Op2 κ m Z' (inplaceOp op) v0 v fun c Z'' => K .next (mset x c m) Z'') : E1 κ m Z (.AugAssign (.Name x p) op e p2) K := by
  intro hp tk Q F N q
  have es := O.scp
  obtain ⟨gd, outer, base, mean, mg, mb, nm, a, cd, hA, hE, B, X, T⟩ := O.ok
  obtain ⟨m', F', hm⟩ := id F
  rw [es] at hm
  obtain ⟨hl, u0, hu0, hi0⟩ := hm x v0 hx
  obtain ⟨h1, h2⟩ := isLoc_of hl
  have hx := h hp tk
  rw [hE] at hx ⊢
  refine wpAny_AugAssign_Name (wpAny_loadName_local (s := κ.st hp tk) O.fn h1 F'.ns hu0 (hx _ F N fun v u Z' h' tk' k hu F2 N2 => ?_))
  refine k u0 u h' tk' _ hi0 hu F2 N2 fun c w Z2 h2 tk2 kc hw F3 N3 => ?_
  obtain ⟨m2, F4, hm2⟩ := F3
  rw [es] at hm2
  exact storeX_L (s := κ.st h2 tk2) F4 N3 (fun h3 F5 N5 => q .next .next _ Z2 h3 (tk2 + 1) kc rfl (frS_ins es hl F5 hm2 hw) N5) O.fn h1
theorem e1_setattr {x attr : Str} {p p2 p3 : Pos} {e : Expr} {a : Addr} {K : Fl → Mp → Ld → Prop} (O : KOk κ sc dp un) (hx : mget x m = some (.ref a)) (hw : plE e = true)
    (h : Ev κ m Z e fun v Z' => Sa κ Z' a attr v fun Z'' => K .next m Z'') : E1 κ m Z (.Assign [.Attribute (.Name x p) attr p2] e p3) K := by
  intro hp0 tk Q F N q
  have es := O.scp
  obtain ⟨gd, outer, base, mean, mg, mb, nm, a', cd, hA, hE, B, X, T⟩ := O.ok
  refine plainObj_wpAny_Assign_Attribute (h hp0 tk _ F N fun v u Z' h' tk' k hu F2 N2 => ?_) (pl_swap hw)
  obtain ⟨m', F', hm⟩ := id F2
  obtain ⟨hl, u0, hu0, hi⟩ := hm x _ hx
  rw [es] at hl
  obtain ⟨h1, h2⟩ := isLoc_of hl
  obtain rfl := hi
  rw [hE]
  exact nameX_L (s := κ.st h' tk') F' hu0 (k u m' h' tk' _ hu X F' N2 fun Z2 h2 tk2 k2 F3 N3 => q .next .next m Z2 h2 tk2 k2 rfl ⟨m', F3, hm⟩ N3) O.fn h1 h2
theorem e1_expr {e : Expr} {p : Pos} {K : Fl → Mp → Ld → Prop} (O : KOk κ sc dp un) (hw : plE e = true) (h : Ev κ m Z e fun _ Z' => K .next m Z') : E1 κ m Z (.Expr e p) K := by
  intro hp tk Q F N q
  refine wpAny_Expr_any (h hp tk _ F N fun _ _ Z' h' tk' x _ F' N' => q .next .next m Z' h' tk' x rfl F' N') ?_ (pl_swap hw)
  obtain ⟨gd, outer, base, mean, mg, mb, nm, a, cd, hA, hE, B, X, T⟩ := O.ok
  rw [hE]
  show (_ && _) = false
  simp [O.fn]
theorem as_name {x : Str} {p : Pos} {v : SV} {u : Value} {h : Heap} {tk : Nat} {Q : Unit → Shared → Prop} (O : KOk κ sc dp un) (hl : isLoc sc x = true) (hu : v.Is u) (F : FrS κ h m) (N : News κ.g κ.L h Z)
    (q : ∀ h' tk', FrS κ h' (mset x v m) → News κ.g κ.L h' Z → Q () (κ.st h' tk')) : wpAny (model κ.prog κ.w) κ.A (assign (.Name x p) κ.env u) Q κ.E (κ.st h tk) := by
  have es2 := O.scp
  obtain ⟨gd, outer, base, mean, mg, mb, nm, a, cd, hA, hE, B, X, T⟩ := O.ok
  obtain ⟨m', F', hm⟩ := id F
  rw [es2] at hm
  refine wpAny_assign_Name ?_
  rw [hE]
  exact storeX_L (s := κ.st h tk) F' N (fun h2 F4 N4 => q h2 (tk + 1) (frS_ins es2 hl F4 hm hu) N4) O.fn (isLoc_of hl).1
theorem as_names (O : KOk κ sc dp un) : ∀ (es : List Expr) (ns : List Str) (xs : List SV) (vs : List Value) (m : Mp) (h : Heap) (tk : Nat) (Q : Unit → Shared → Prop), Nms es ns → (∀ x ∈ ns, isLoc sc x = true) → ns.length = xs.length → SVs xs vs → FrS κ h m → News κ.g κ.L h Z →
    (∀ h' tk', FrS κ h' (msetL ns xs m) → News κ.g κ.L h' Z → Q () (κ.st h' tk')) → wpAny (model κ.prog κ.w) κ.A (assignInOrder ((assignEach es κ.env).map (·.2)) vs) Q κ.E (κ.st h tk)
  | [], [], [], [], m, h, tk, Q, _, _, _, _, F, N, q => wpAny_assignInOrder_none (q h tk F N)
  | [], _ :: _, _, _, _, _, _, _, hn, _, _, _, _, _, _ => hn.elim
  | _ :: _, [], _, _, _, _, _, _, hn, _, _, _, _, _, _ => hn.elim
  | [], [], _ :: _, _, _, _, _, _, _, _, hn, _, _, _, _ => Nat.noConfusion hn
  | [], [], [], _ :: _, _, _, _, _, _, _, _, h, _, _, _ => h.elim
  | _ :: _, _ :: _, [], _, _, _, _, _, _, _, hn, _, _, _, _ => Nat.noConfusion hn
  | _ :: _, _ :: _, _ :: _, [], _, _, _, _, _, _, _, h, _, _, _ => h.elim
  | _ :: es, x :: ns, v :: xs, u :: vs, m, h, tk, Q, ⟨⟨_, rfl⟩, hn⟩, hl, hc, hvs, F, N, q =>
    wpAny_assignInOrder_more (as_name O (hl x (.head _)) hvs.1 F N fun h2 tk2 F4 N4 => as_names O es ns xs vs (mset x v m) h2 tk2 Q hn (fun p hp => hl p (.tail _ hp)) (Nat.succ.inj hc) hvs.2 F4 N4 q)
theorem names_len {env : Env} : ∀ {es : List Expr} {ns : List Str}, Nms es ns → (assignEach es env).length = ns.length ∧ (assignEach es env).findIdx? (·.1) = none
  | [], [], _ => ⟨rfl, rfl⟩
  | [], _ :: _, h => h.elim
  | _ :: _, [], h => h.elim
  | _ :: es, x :: ns, ⟨⟨_, rfl⟩, hn⟩ => by
    obtain ⟨i1, i2⟩ := names_len (env := env) hn
    refine ⟨congrArg Nat.succ i1, ?_⟩
    show List.findIdx? _ ((false, _) :: _) = none
    rw [List.findIdx?_cons, i2]; rfl
theorem as_tup {es : List Expr} {ns : List Str} {k : Nat} {tp : Pos} {a : Addr} {xs : List SV} {h : Heap} {tk : Nat} {Q : Unit → Shared → Prop} (O : KOk κ sc dp un) (hns : Nms es ns) (hl : ∀ x ∈ ns, isLoc sc x = true) (hT : TupAt κ Z a xs) (hn : ns.length = xs.length) (F : FrS κ h m) (N : News κ.g κ.L h Z)
    (q : ∀ h' tk', FrS κ h' (msetL ns xs m) → News κ.g κ.L h' Z → Q () (κ.st h' tk')) : wpAny (model κ.prog κ.w) κ.A (assign (.Tuple es k tp) κ.env (.ref a)) Q κ.E (κ.st h tk) := by
  obtain ⟨m', F', hmm⟩ := id F
  obtain ⟨vs, hm, hvs⟩ := hT h m' (by obtain ⟨gd, outer, base, mean, mg, mb, nm, a', cd, hA, hE, B, X, T⟩ := O.ok; exact X) F' N
  refine unpackN_ (s := κ.st h tk) F' N hm ?_ ?_ (names_len hns).2 fun h2 F3 N3 => ?_
  · obtain ⟨gd, outer, base, mean, mg, mb, nm, a, cd, hA, -⟩ := O.ok
    rw [hA]; rfl
  · rw [(names_len hns).1, hn, svs_len hvs, List.size_toArray]
  · exact as_names O es ns xs vs m h2 tk _ hns hl hn hvs ⟨m', F3, hmm⟩ N3 q
theorem e1_unpack {es : List Expr} {ns : List Str} {k : Nat} {tp p3 : Pos} {e : Expr} {K : Fl → Mp → Ld → Prop} (O : KOk κ sc dp un) (hns : Nms es ns) (hl : ns.all (fun x => mcan sc x m) = true) (hc : isCall e = true)
    (h : Ev κ m Z e fun v Z' => v.r False fun a => VUn κ Z' a ns.length fun xs => K .next (msetL ns xs m) Z') : E1 κ m Z (.Assign [.Tuple es k tp] e p3) K := by
  obtain ⟨f, es2, ks, p, rfl⟩ := call_is hc
  intro hp tk Q F N q
  refine Assign_Tuple (h hp tk _ F N fun v u Z' h' tk' kk hu F2 N2 => svR kk (fun a ea kk => ?_) False.elim) rfl rfl
  subst ea
  obtain rfl := hu
  obtain ⟨xs, hT, hn, kk⟩ := kk
  refine as_tup O hns (fun x hx => ?_) hT hn F2 N2 fun h4 tk4 F4 N4 => q .next .next _ Z' h4 tk4 kk rfl F4 N4
  obtain ⟨m', F', hmm⟩ := F2
  exact mcan_loc (List.all_eq_true.mp hl x hx) (O.scp ▸ hmm)
theorem and_l {a b : Bool} (h : (a && b) = true) : a = true := (Bool.and_eq_true_iff.mp h).1
theorem and_r {a b : Bool} (h : (a && b) = true) : b = true := (Bool.and_eq_true_iff.mp h).2
theorem vAsg_of {tg e : Expr} {p : Pos} {K : Fl → Mp → Ld → Prop} (O : KOk κ sc dp un) (h : vAsg κ sc m Z e K (E1 κ m Z (.Assign [tg] e p) K) tg) : E1 κ m Z (.Assign [tg] e p) K :=
  xViewE h id
    (fun x _ et h => bcE h (fun hb h => et ▸ e1_assign O (and_l hb) (and_r hb) (ev_mono (vE_of O h) fun v Z' q => msetK_of (k := fun m' => K .next m' Z') q)) id)
    (fun o attr _ et h => xNameE h (fun x _ eo h => bcE h (fun hp h => ocE h (fun v hv h => svR h (fun a ev h => by subst et eo ev; exact e1_setattr O hv hp (vE_of O h)) id) fun _ => id) id) id)
    (fun ns _ _ et h => vNmsE h (fun xs hx h => bcE h (fun hb h => et ▸ e1_unpack O hx (and_r hb) (and_l hb) (ev_mono (vE_of O h) fun v Z' q => svR q (fun a ev q => by subst ev; exact ⟨q.k.choose, q.k.choose_spec.1, q.k.choose_spec.2.1, msetLK_of (k := fun m' => K .next m' Z') q.k.choose_spec.2.2⟩) False.elim)) id) id)
    (fun _ _ _ _ _ => id)
theorem vS_of {rX : Mp → Ld → List Stmt → (Fl → Mp → Ld → Prop) → Prop} (O : KOk κ sc dp un) (hX : ∀ m Z ss K, rX m Z ss K → Ex κ m Z ss K) (t : Stmt) (K : Fl → Mp → Ld → Prop) (h : vS κ sc rX m Z t K) : E1 κ m Z t K :=
  sxE h id
    (fun ts e _ et h => l1E h (fun tg e1 h => by subst et e1; exact vAsg_of O h) id)
    (fun tg op e _ et h => xNameE h (fun x _ e1 h => ocE h (fun v hv h9 => by subst et e1; exact e1_aug O hv (ev_mono (vE_of O h9) fun v Z' q va vb hp tk Q ha hb F N k => vInp_of q va vb hp tk Q ha hb F N fun c u Z2 h2 tk2 kc => k c u Z2 h2 tk2 (msetK_of (k := fun m' => K .next m' Z2) kc))) fun _ => id) id)
    (fun e a b _ et h => et ▸ e1_if (et_mono (vT_of O h) fun c Z' q => ⟨fun hc => hX _ _ _ _ (q.t hc), fun hc => hX _ _ _ _ (q.f hc)⟩))
    (fun eo _ et h => ocE h (fun e e1 h => by subst et e1; exact e1_ret (vE_of O h)) fun _ => id)
    (fun e _ et h => bcE h (fun hp h => et ▸ e1_expr O hp (vE_of O h)) id)
theorem vX_of (O : KOk κ sc dp un) : ∀ (n : Nat) (m : Mp) (Z : Ld) (ss : List Stmt) (K : Fl → Mp → Ld → Prop), vX κ sc n m Z ss K → Ex κ m Z ss K
  | 0, _, _, _, _, h => h
  | n + 1, m, Z, ss, K, h => by
    unfold vX at h
    split at h
    · exact ex_nil h
    · refine ex_cons (e1_mono (vS_of O (vX_of O n) _ _ h) fun fl m' Z' q => ?_)
      induction fl
      · exact vX_of O n m' Z' _ K q
      · exact q
      · exact q
      · exact q
end
end
section
open PySem PySem.W PySem.Calls PyProof.Rows
section
variable {κ : Kx} {sc : Scope} {dp un : Nat} {m : Mp} {Z : Ld} {c : RC} {σ : RS} {lm : LM}
theorem at_source (hs : ∀ p ∈ c.led κ.w σ, p ∈ Z) : At κ Z c.r (PySem.Str.ofString "source") (.ref c.sr) := fun _ h tk Q X F N q => getA_source (s := κ.st h tk) F X N hs fun tk' => q _ tk' rfl
theorem at_record (hs : ∀ p ∈ c.led κ.w σ, p ∈ Z) : At κ Z c.r (PySem.Str.ofString "record") (.str σ.record) := fun _ h tk Q X F N q => getA_record (s := κ.st h tk) F X N hs fun tk' => q _ tk' ⟨_, rfl⟩
theorem at_col (hs : ∀ p ∈ c.led κ.w σ, p ∈ Z) : At κ Z c.r (PySem.Str.ofString "col") (.int σ.col) := fun _ h tk Q X F N q => getA_col (s := κ.st h tk) F X N hs fun tk' => q _ tk' ⟨_, rfl⟩
theorem at_left (hs : ∀ p ∈ c.led κ.w σ, p ∈ Z) : At κ Z c.r (PySem.Str.ofString "left") (.int σ.left) := fun _ h tk Q X F N q => getA_left (s := κ.st h tk) F X N hs fun tk' => q _ tk' ⟨_, rfl⟩
theorem at_beh (hs : ∀ p ∈ c.led κ.w σ, p ∈ Z) : At κ Z c.r (PySem.Str.ofString "is_behind") (.bool σ.beh) := fun _ h tk Q X F N q => getA_beh (s := κ.st h tk) F X N hs fun tk' => q _ tk' rfl
theorem at_don (hs : ∀ p ∈ c.led κ.w σ, p ∈ Z) : At κ Z c.r (PySem.Str.ofString "is_done") (.bool σ.don) := fun _ h tk Q X F N q => getA_don (s := κ.st h tk) F X N hs fun tk' => q _ tk' rfl
theorem at_heldN (hs : ∀ p ∈ c.led κ.w σ, p ∈ Z) (hh : σ.held = .none) : At κ Z c.r (PySem.Str.ofString "held") .none := fun _ h tk Q X F N q => getA_held (s := κ.st h tk) F X N hs (by rw [hh]; rfl) fun tk' => q _ tk' hh
theorem at_heldR {a : Addr} (hs : ∀ p ∈ c.led κ.w σ, p ∈ Z) (hh : σ.held = .ref a) : At κ Z c.r (PySem.Str.ofString "held") (.ref a) := fun _ h tk Q X F N q => getA_held (s := κ.st h tk) F X N hs (by rw [hh]; rfl) fun tk' => q _ tk' hh
theorem at_width (hs : ∀ p ∈ lm.led κ.w, p ∈ Z) : At κ Z lm.a (PySem.Str.ofString "width") (.int 16) := fun _ h tk Q X F N q => getA_width (s := κ.st h tk) F X N hs fun tk' => q _ tk' ⟨_, rfl⟩
theorem at_rdig (hs : ∀ p ∈ lm.led κ.w, p ∈ Z) : At κ Z lm.a (PySem.Str.ofString "real_digits") (.int 9) := fun _ h tk Q X F N q => getA_real_digits (s := κ.st h tk) F X N hs fun tk' => q _ tk' ⟨_, rfl⟩
theorem at_ddig (hs : ∀ p ∈ lm.led κ.w, p ∈ Z) : At κ Z lm.a (PySem.Str.ofString "double_digits") (.int 12) := fun _ h tk Q X F N q => getA_double_digits (s := κ.st h tk) F X N hs fun tk' => q _ tk' ⟨_, rfl⟩
theorem at_top (hs : ∀ p ∈ lm.led κ.w, p ∈ Z) : At κ Z lm.a (PySem.Str.ofString "top_exponent") (.int 99) := fun _ h tk Q X F N q => getA_top_exponent (s := κ.st h tk) F X N hs fun tk' => q _ tk' ⟨_, rfl⟩
noncomputable def OrdC (c : RC) : Prop := c.lst < c.dsr ∧ c.dsr < c.sr ∧ c.sr < c.dr ∧ c.dr < c.r
theorem sa_col {n : Int} {R : Ld} {K : Ld → Prop} (ho : OrdC c) (hR : ∀ p ∈ R, @Ne Nat p.1 c.dr) (k : ∀ t, K (c.led κ.w { σ with col := n, tcol := t } ++ R)) : Sa κ (c.led κ.w σ ++ R) c.r (PySem.Str.ofString "col") (.int n) K := by
  rintro u m' h tk Q ⟨t, rfl⟩ X F N q
  exact setA_col (s := κ.st h tk) F X N ho hR fun h' tk' F' N' => q _ h' tk' (k t) F' N'
theorem sa_record {l : List Nat} {R : Ld} {K : Ld → Prop} (ho : OrdC c) (hR : ∀ p ∈ R, @Ne Nat p.1 c.dr) (k : ∀ t, K (c.led κ.w { σ with record := l, trec := t } ++ R)) : Sa κ (c.led κ.w σ ++ R) c.r (PySem.Str.ofString "record") (.str l) K := by
  rintro u m' h tk Q ⟨t, rfl⟩ X F N q
  exact setA_record (s := κ.st h tk) F X N ho hR fun h' tk' F' N' => q _ h' tk' (k t) F' N'
theorem sa_left {n : Int} {R : Ld} {K : Ld → Prop} (ho : OrdC c) (hR : ∀ p ∈ R, @Ne Nat p.1 c.dr) (k : ∀ t, K (c.led κ.w { σ with left := n, tleft := t } ++ R)) : Sa κ (c.led κ.w σ ++ R) c.r (PySem.Str.ofString "left") (.int n) K := by
  rintro u m' h tk Q ⟨t, rfl⟩ X F N q
  exact setA_left (s := κ.st h tk) F X N ho hR fun h' tk' F' N' => q _ h' tk' (k t) F' N'
theorem sa_beh {b : Bool} {R : Ld} {K : Ld → Prop} (ho : OrdC c) (hR : ∀ p ∈ R, @Ne Nat p.1 c.dr) (k : K (c.led κ.w { σ with beh := b } ++ R)) : Sa κ (c.led κ.w σ ++ R) c.r (PySem.Str.ofString "is_behind") (.bool b) K := by
  rintro u m' h tk Q rfl X F N q
  exact setA_beh (s := κ.st h tk) F X N ho hR fun h' tk' F' N' => q _ h' tk' k F' N'
theorem sa_don {b : Bool} {R : Ld} {K : Ld → Prop} (ho : OrdC c) (hR : ∀ p ∈ R, @Ne Nat p.1 c.dr) (k : K (c.led κ.w { σ with don := b } ++ R)) : Sa κ (c.led κ.w σ ++ R) c.r (PySem.Str.ofString "is_done") (.bool b) K := by
  rintro u m' h tk Q rfl X F N q
  exact setA_don (s := κ.st h tk) F X N ho hR fun h' tk' F' N' => q _ h' tk' k F' N'
theorem sa_heldN {R : Ld} {K : Ld → Prop} (ho : OrdC c) (hR : ∀ p ∈ R, @Ne Nat p.1 c.dr) (k : K (c.led κ.w { σ with held := .none } ++ R)) : Sa κ (c.led κ.w σ ++ R) c.r (PySem.Str.ofString "held") .none K := by
  rintro u m' h tk Q rfl X F N q
  exact setA_heldN (s := κ.st h tk) F X N ho hR fun h' tk' F' N' => q _ h' tk' k F' N'
theorem sa_heldR {a : Addr} {R : Ld} {K : Ld → Prop} (ho : OrdC c) (hR : ∀ p ∈ R, @Ne Nat p.1 c.dr) (k : K (c.led κ.w { σ with held := .ref a } ++ R)) : Sa κ (c.led κ.w σ ++ R) c.r (PySem.Str.ofString "held") (.ref a) K := by
  rintro u m' h tk Q rfl X F N q
  exact setA_heldR (s := κ.st h tk) F X N ho hR fun h' tk' F' N' => q _ h' tk' k F' N'
end
noncomputable def ConT (prog : Program) (w : World) (f : Addr) (xs : List SV) (dq uq : Nat) (muts : Ld) (S : (SV → Ld → Prop) → Prop) : Prop :=
  ∀ vs, SVs xs vs → ∀ K : SV → Ld → Prop, S K → Con prog w f vs dq uq muts (fun _ => True) (fun v z _ => ∃ x, SV.Is x v ∧ K x z)
noncomputable def Rt (K : SV → Ld → Prop) : Fl → Mp → Ld → Prop
  | .ret v, _, Z => K v Z
  | .next, _, Z => K .none Z
  | _, _, _ => False
noncomputable def nodupB : List Str → Bool
  | [] => true
  | x :: xs => !(xs.contains x) && nodupB xs
theorem zip_none {x : Str} : ∀ {ns : List Str} {vs : List Value}, x ∉ ns → (ns.zip vs).reverse.lookup x = none
  | [], _, _ => rfl
  | _ :: _, [], _ => rfl
  | n :: ns, v :: vs, h => by
    rw [List.zip_cons_cons, List.reverse_cons, List.lookup_append, zip_none (fun q => h (.tail _ q)), Option.none_or, List.lookup_cons]
    rw [show (x == n) = false from by simpa using fun q : x = n => h (q ▸ .head _)]; rfl
theorem knows_zip {sc : Scope} : ∀ {ns : List Str} {xs : List SV} {vs : List Value}, SVs xs vs → ns.all (isLoc sc) = true → nodupB ns = true → Knows sc (ns.zip xs) (fun y => (ns.zip vs).reverse.lookup y)
  | [], _, _, _, _, _, _, _, h => nomatch h
  | _ :: _, [], _, _, _, _, _, _, h => nomatch h
  | _ :: _, _ :: _, [], h, _, _, _, _, _ => h.elim
  | n :: ns, x :: xs, v :: vs, ⟨hx, hr⟩, hl, hd, y, w, h => by
    rw [List.all_cons, Bool.and_eq_true] at hl
    obtain ⟨hd1, hd2⟩ := Bool.and_eq_true_iff.mp (show (!(ns.contains n) && nodupB ns) = true from hd)
    have hn : n ∉ ns := by simpa using hd1
    show _ ∧ ∃ u, (List.zip (n :: ns) (v :: vs)).reverse.lookup y = some u ∧ _
    rw [List.zip_cons_cons, List.reverse_cons, List.lookup_append]
    unfold List.zip List.zipWith mget at h
    split at h
    · rename_i e
      obtain rfl := Option.some.inj h
      rw [beq_iff_eq.mp e, zip_none hn, Option.none_or, List.lookup_cons, beq_self_eq_true]
      exact ⟨hl.1, v, rfl, hx⟩
    · obtain ⟨h1, u, h2, h3⟩ := knows_zip hr hl.2 hd2 y w h
      have h2 : (ns.zip vs).reverse.lookup y = some u := h2
      exact ⟨h1, u, by rw [h2]; rfl, h3⟩
noncomputable def zipK : List Str → List SV → (Mp → Prop) → Prop
  | x :: xs, v :: vs, k => zipK xs vs fun m => k ((x, v) :: m)
  | _, _, k => k []
theorem zipK_of : ∀ {xs : List Str} {vs : List SV} {k : Mp → Prop}, zipK xs vs k → k (xs.zip vs)
  | [], _, _, h => h
  | _ :: _, [], _, h => h
  | x :: xs, v :: vs, k, h => zipK_of (xs := xs) (vs := vs) (k := fun m => k ((x, v) :: m)) h
theorem conT_v {prog : Program} {w : World} {name qual : Str} {params : Arguments} {body : List Stmt} {scope : Scope} {dV kV doc pm cdv ct oc : Value} {an od : Option Addr} {osl : Array (Option Value)} {f : Addr} {xs : List SV} {ns : List Str} {dq uq : Nat} {muts : Ld} {S : (SV → Ld → Prop) → Prop}
    (ho : (Mine.kk.heap_1 w.params).lookup f = some ⟨oc, od, .func (fnOf name qual params body scope dV kV doc pm an cdv ct), osl⟩) (hcd : codeIn (Mine.kk.heap_1 w.params) cdv qual = true)
    (hbind : ∀ vs, SVs xs vs → ∀ s, BindsTo s (fnOf name qual params body scope dV kV doc pm an cdv ct) ⟨vs, []⟩ (ns.zip vs))
    (hok : (ns.all (isLoc scope) && nodupB ns && Nat.blt 0 dq && !scope.isCoroutine && !scope.isGenerator && scope.kind == .function && scope.names.all (fun x => x.2 != .cell)) = true)
    (hb : ∀ (κ : Kx) (dp un : Nat) (K : SV → Ld → Prop), κ.prog = prog → κ.w = w → KOk κ scope dp un → (∀ e s, ¬ κ.E e s) → dp + dq < recursionLimit → un + uq < cLine → S K → zipK ns xs fun m0 => vX κ scope 60 m0 muts body (Rt K)) :
    ConT prog w f xs dq uq muts S := by
  simp only [Bool.and_eq_true, Bool.not_eq_true', beq_iff_eq] at hok
  obtain ⟨⟨⟨⟨⟨⟨h1, h2⟩, h3⟩, h4⟩, h5⟩, h6⟩, h7⟩ := hok
  have h3 : 0 < dq := Nat.le_of_ble_eq_true h3
  intro vs hvs K hS mean mg mb dp un gd base g outer s R C N _ hd hu ret
  refine call_M0 (A := aT dp un gd outer) C N ho hcd (show dp < _ by (first | lia | omega)) (hbind vs hvs s) (fun y hy => (isLoc_of (List.all_eq_true.mp h1 y.1 (List.of_mem_zip hy).1)).1) (fun L' h₁ F N' _ B X T => ?_) h4 h5 h6 (fun x hx => by simpa using List.all_eq_true.mp h7 x hx)
  have hx := hb ⟨prog, w, (aT dp un gd outer).deeper (envOf qual scope L' f cdv), envOf qual scope L' f cdv, g, L', s, fun _ _ => False⟩ dp un K rfl rfl ⟨⟨gd, outer, base, mean, mg, mb, (qual, []), f, cdv, rfl, rfl, B, X, T⟩, h6, by passes_own⟩ (fun _ _ q => q) hd hu hS
  have O : KOk (⟨prog, w, (aT dp un gd outer).deeper (envOf qual scope L' f cdv), envOf qual scope L' f cdv, g, L', s, fun _ _ => False⟩ : Kx) scope dp un := ⟨⟨gd, outer, base, mean, mg, mb, (qual, []), f, cdv, rfl, rfl, B, X, T⟩, h6, by passes_own⟩
  refine vX_of O 60 _ _ _ _ (zipK_of (k := fun m0 => vX _ scope 60 m0 muts body (Rt K)) hx) h₁ (s.toks + (ns.zip vs).length) _ ⟨_, F, knows_zip hvs h1 h2⟩ N' fun fl fw m' Z' h' tk' k hfl F' N2 => ?_
  obtain ⟨m2, F2, _⟩ := F'
  have hl : Led g h' Z' := fun p hp => ⟨(N2 p hp).1, (N2 p hp).2.2⟩
  induction fl with
  | ret v =>
    obtain ⟨u, rfl, hu⟩ := hfl
    exact ret u h' tk' Z' F2.keep hl ⟨v, hu, k⟩
  | next =>
    obtain rfl := hfl
    exact ret .none h' tk' Z' F2.keep hl ⟨.none, rfl, k⟩
  | brk => exact k.elim
  | cont => exact k.elim
noncomputable def SubK (K : SV → Ld → Prop) (v : SV) (Z : Ld) : Prop := ∃ z, (∀ p ∈ z, p ∈ Z) ∧ K v z
theorem conT_sub {prog : Program} {w : World} {f : Addr} {xs : List SV} {dq uq : Nat} {muts : Ld} {S : (SV → Ld → Prop) → Prop} (h : ConT prog w f xs dq uq muts (fun K' => ∃ K, S K ∧ K' = SubK K)) : ConT prog w f xs dq uq muts S := by
  intro vs hvs K hS mean mg mb dp un gd base g outer s R C N hr hd hu ret
  refine h vs hvs (SubK K) ⟨K, hS, rfl⟩ mean mg mb dp un gd base g outer s R C N hr hd hu fun v h' tk' Z' a b q => ?_
  obtain ⟨x, hx, z, hz, k⟩ := q
  exact ret v h' tk' z a (fun p hp => b p (hz p hp)) ⟨x, hx, k⟩
section
variable {n1 n2 n3 n4 n5 n6 : Str} {x1 x2 x3 x4 x5 x6 : SV} {fd : FuncData}
theorem b1 (h : ∀ v s, BindsTo s fd ⟨[v], []⟩ [(n1, v)]) : ∀ vs, SVs [x1] vs → ∀ s, BindsTo s fd ⟨vs, []⟩ ([n1].zip vs) := by
  intro vs hv s
  obtain ⟨a, r, rfl, -, hv⟩ := svsC hv
  obtain rfl := svsN hv
  exact h _ s
theorem b2 (h : ∀ v1 v2 s, BindsTo s fd ⟨[v1, v2], []⟩ [(n1, v1), (n2, v2)]) : ∀ vs, SVs [x1, x2] vs → ∀ s, BindsTo s fd ⟨vs, []⟩ ([n1, n2].zip vs) := by
  intro vs hv s
  obtain ⟨a, vs, rfl, -, hv⟩ := svsC hv
  obtain ⟨b, r, rfl, -, hv⟩ := svsC hv
  obtain rfl := svsN hv
  exact h _ _ s
theorem b3 (h : ∀ v1 v2 v3 s, BindsTo s fd ⟨[v1, v2, v3], []⟩ [(n1, v1), (n2, v2), (n3, v3)]) : ∀ vs, SVs [x1, x2, x3] vs → ∀ s, BindsTo s fd ⟨vs, []⟩ ([n1, n2, n3].zip vs) := by
  intro vs hv s
  obtain ⟨a, vs, rfl, -, hv⟩ := svsC hv
  obtain ⟨b, vs, rfl, -, hv⟩ := svsC hv
  obtain ⟨c, r, rfl, -, hv⟩ := svsC hv
  obtain rfl := svsN hv
  exact h _ _ _ s
theorem b4 (h : ∀ v1 v2 v3 v4 s, BindsTo s fd ⟨[v1, v2, v3, v4], []⟩ [(n1, v1), (n2, v2), (n3, v3), (n4, v4)]) : ∀ vs, SVs [x1, x2, x3, x4] vs → ∀ s, BindsTo s fd ⟨vs, []⟩ ([n1, n2, n3, n4].zip vs) := by
  intro vs hv s
  obtain ⟨a, vs, rfl, -, hv⟩ := svsC hv
  obtain ⟨b, vs, rfl, -, hv⟩ := svsC hv
  obtain ⟨c, vs, rfl, -, hv⟩ := svsC hv
  obtain ⟨d, r, rfl, -, hv⟩ := svsC hv
  obtain rfl := svsN hv
  exact h _ _ _ _ s
theorem b6 (h : ∀ v1 v2 v3 v4 v5 v6 s, BindsTo s fd ⟨[v1, v2, v3, v4, v5, v6], []⟩ [(n1, v1), (n2, v2), (n3, v3), (n4, v4), (n5, v5), (n6, v6)]) : ∀ vs, SVs [x1, x2, x3, x4, x5, x6] vs → ∀ s, BindsTo s fd ⟨vs, []⟩ ([n1, n2, n3, n4, n5, n6].zip vs) := by
  intro vs hv s
  obtain ⟨a, vs, rfl, -, hv⟩ := svsC hv
  obtain ⟨b, vs, rfl, -, hv⟩ := svsC hv
  obtain ⟨c, vs, rfl, -, hv⟩ := svsC hv
  obtain ⟨d, vs, rfl, -, hv⟩ := svsC hv
  obtain ⟨e, vs, rfl, -, hv⟩ := svsC hv
  obtain ⟨f, r, rfl, -, hv⟩ := svsC hv
  obtain rfl := svsN hv
  exact h _ _ _ _ _ _ s
end
theorem lim {a b dp D : Nat} (h : dp + D < b) (e : Nat.ble a D = true) : dp + a < b := Nat.lt_of_le_of_lt (Nat.add_le_add_left (Nat.le_of_ble_eq_true e) dp) h
section
variable {κ : Kx} {sc : Scope} {dp un : Nat} {m : Mp} {Z : Ld}
theorem ca_con {f : Addr} {xs : List SV} {K : SV → Ld → Prop} {dq uq D U : Nat} {muts rest : Ld} {S : (SV → Ld → Prop) → Prop} (O : KOk κ sc dp un) (hD : dp + D < recursionLimit) (hU : un + U < cLine) (C : ConT κ.prog κ.w f xs dq uq muts S) (e : (Nat.ble (1 + dq) D && Nat.ble (3 + uq) U) = true)
    (hs : ∀ p ∈ muts, p ∈ Z) (hr : ∀ p ∈ rest, p ∈ Z ∧ p ∉ muts) (k : S fun x z => K x (z ++ rest)) : Ca κ m Z (.ref f) xs K := by
  intro vs h tk Q hvs F N q
  obtain ⟨e1, e2⟩ := Bool.and_eq_true_iff.mp e
  obtain ⟨gd, outer, base, mean, mg, mb, nm, a, cd, hA, hE, B, X, T⟩ := O.ok
  obtain ⟨m', F', hm⟩ := id F
  rw [hA]
  refine con_callR (s := κ.st h tk) (C vs hvs _ k) B F' N X T hs (fun p hp => ⟨(hr p hp).1, fun hq => ?_⟩) (fun _ _ _ _ => trivial) (by have := lim hD e1; (first | lia | omega)) (by have := lim hU e2; (first | lia | omega)) (fun v h2 tk2 z pz F2 N2 => ?_) (by rw [hE]) (by rw [hE]; exact O.fn)
  · obtain ⟨q0, hq0, hq1⟩ := List.mem_map.mp hq
    have g1 := (N p (hr p hp).1).1
    have g2 := (N q0 (hs q0 hq0)).1
    rw [hq1, g1] at g2
    have e3 : p = q0 := Prod.ext hq1.symm (Option.some.inj g2)
    exact (hr p hp).2 (e3 ▸ hq0)
  · obtain ⟨x, hx, pz⟩ := pz
    exact q x v _ h2 tk2 pz hx ⟨m', F2, hm⟩ N2
theorem ca_all {f : Addr} {xs : List SV} {K : SV → Ld → Prop} {dq uq D U : Nat} {S : (SV → Ld → Prop) → Prop} (O : KOk κ sc dp un) (hD : dp + D < recursionLimit) (hU : un + U < cLine) (C : ConT κ.prog κ.w f xs dq uq Z S) (e : (Nat.ble (1 + dq) D && Nat.ble (3 + uq) U) = true) (k : S K) : Ca κ m Z (.ref f) xs K := by
  refine ca_con (rest := []) (S := S) O hD hU C e (fun _ h => h) (fun _ h => nomatch h) ?_
  simpa only [List.append_nil] using k
theorem ca_nil {f : Addr} {xs : List SV} {K : SV → Ld → Prop} {dq uq D U : Nat} {S : (SV → Ld → Prop) → Prop} (O : KOk κ sc dp un) (hD : dp + D < recursionLimit) (hU : un + U < cLine) (C : ConT κ.prog κ.w f xs dq uq [] S) (e : (Nat.ble (1 + dq) D && Nat.ble (3 + uq) U) = true) (k : S fun x z => K x (z ++ Z)) : Ca κ m Z (.ref f) xs K :=
  ca_con (rest := Z) O hD hU C e (fun _ h => nomatch h) (fun _ h => ⟨h, List.not_mem_nil⟩) k
theorem mget_mem {x : Str} {v : SV} : ∀ {l : Mp}, mget x l = some v → (x, v) ∈ l
  | [], h => nomatch h
  | (y, w) :: l, h => by
    unfold mget at h
    split at h
    · rename_i e
      obtain rfl := Option.some.inj h
      rw [beq_iff_eq.mp e]
      exact .head _
    · exact .tail _ (mget_mem h)
noncomputable def subM : Mp → Mp → Prop
  | [], _ => True
  | (x, v) :: r, m => mget x m = some v ∧ subM r m
theorem subM_of {x : Str} {v : SV} : ∀ {m2 m : Mp}, subM m2 m → mget x m2 = some v → mget x m = some v
  | [], _, _, h => nomatch h
  | (y, w) :: r, m, hs, h => by
    unfold mget at h
    split at h
    · rename_i e
      obtain rfl := Option.some.inj h
      rw [beq_iff_eq.mp e]
      exact hs.1
    · exact subM_of hs.2 h
theorem knows_sub {sc : Scope} {m m2 : Mp} {m' : Str → Option Value} (hs : subM m2 m) (h : Knows sc m m') : Knows sc m2 m' := fun x v q => h x v (subM_of hs q)
theorem e1_while {test : Expr} {body : List Stmt} {pos : Pos} {K : Fl → Mp → Ld → Prop} (O : KOk κ sc dp un) (J : Nat → Mp → Ld → Prop) {m₀ : Mp} {n₀ : Nat} (hJ : J n₀ m₀ Z) (hs : subM m₀ m)
    (turn : ∀ n m₁ Z₁ (Kb : Fl → Mp → Ld → Prop), (∀ n' m' mj Z', n' < n → J n' mj Z' → subM mj m' → Kb .next m' Z') → (∀ m' Z', K .next m' Z' → Kb .brk m' Z') → (∀ v m' Z', K (.ret v) m' Z' → Kb (.ret v) m' Z') → J n m₁ Z₁ → vT κ sc m₁ Z₁ test fun b Z₂ => VIf b (vX κ sc 60 m₁ Z₂ body Kb) (K .next m₁ Z₂)) : E1 κ m Z (.While test body [] pos) K := by
  intro h tk Q F N q
  obtain ⟨m', F', hm⟩ := F
  refine While_inv2 (s := κ.st h tk) (fun n m' Z' => ∃ m, J n m Z' ∧ Knows κ.env.scope m m') F' N ⟨m₀, hJ, knows_sub hs hm⟩ ?_ O.pe
  rintro n m₁' Z₁ h₁ tk₁ F₁ N₁ ⟨m₁, hJ₁, hm₁⟩
  refine vT_of O (turn n m₁ Z₁ (fun fl m₃ Z₃ => match fl with | .next => ∃ n' mj, n' < n ∧ subM mj m₃ ∧ J n' mj Z₃ | .cont => False | .brk => K .next m₃ Z₃ | .ret v => K (.ret v) m₃ Z₃) (fun n' _ mj _ a b c => ⟨n', mj, a, c, b⟩) (fun _ _ a => a) (fun _ _ _ a => a) hJ₁) h₁ tk₁ _ ⟨_, F₁, hm₁⟩ N₁ fun b Z₂ h₂ tk₂ k F₂ N₂ => ?_
  induction b
  · rw [if_neg (by decide)]
    exact q .next .next m₁ Z₂ h₂ tk₂ (k.f rfl) rfl F₂ N₂
  · rw [if_pos rfl]
    refine vX_of O 60 _ _ _ _ (k.t rfl) h₂ tk₂ _ F₂ N₂ fun fl f m₃ Z₃ h₃ tk₃ y hf F₃ N₃ => ?_
    obtain ⟨m₃', F₃', hm₃⟩ := id F₃
    induction fl with
    | next =>
      obtain rfl := hf
      obtain ⟨n', mj, hn, hsj, hJ'⟩ := y
      exact ⟨h₃, tk₃, m₃', Z₃, n', rfl, F₃', N₃, hn, mj, hJ', knows_sub hsj hm₃⟩
    | cont => exact y.elim
    | brk =>
      obtain rfl := hf
      exact q .next .next m₃ Z₃ h₃ tk₃ y rfl F₃ N₃
    | ret v =>
      obtain ⟨u, rfl, hu⟩ := hf
      exact q (.ret v) (.ret u) m₃ Z₃ h₃ tk₃ y ⟨u, rfl, hu⟩ F₃ N₃
theorem KOk.loc (O : KOk κ sc dp un) : κ.env.locals = κ.L ∧ (κ.env.scope.kind == .class || (κ.env.scope.kind == .module && κ.env.locals != κ.env.globals)) = false ∧ κ.A.handled = none := by
  obtain ⟨gd, outer, base, mean, mg, mb, nm, a, cd, hA, hE, B, X, T⟩ := O.ok
  rw [hA, hE]
  refine ⟨rfl, ?_, rfl⟩
  show (sc.kind == .class || (sc.kind == .module && _)) = false
  rw [O.fn]; rfl
noncomputable def LpK (J : Nat → Mp → Ld → Prop) (i : Nat) (I : Addr) (oI : Obj) (K : Fl → Mp → Ld → Prop) : Fl → Mp → Ld → Prop
  | .next, m', Z' => ∃ mj Z₂, J (i + 1) mj Z₂ ∧ subM mj m' ∧ Z' = Z₂ ++ [(I, oI)] ∧ (∀ p ∈ Z₂, @Ne Nat p.1 I)
  | .ret v, m', Z' => K (.ret v) m' Z'
  | _, _, _ => False
theorem lpk_post {J : Nat → Mp → Ld → Prop} {i : Nat} {I : Addr} {oI : Obj} {K : Fl → Mp → Ld → Prop} {h : Heap} {tk : Nat} {Q : Flow → Shared → Prop} (hL : κ.env.locals = κ.L) {m : Mp} {Z : Ld} {body : List Stmt} (O : KOk κ sc dp un) (hx : vX κ sc 60 m Z body (LpK J i I oI K)) (F : FrS κ h m) (N : News κ.g κ.L h Z)
    (q : ∀ fl f m' Z' h' tk', K fl m' Z' → fl.Is f → FrS κ h' m' → News κ.g κ.L h' Z' → Q f (κ.st h' tk')) :
    wpAny (model κ.prog κ.w) κ.A (execs body κ.env) (PostM κ.g κ.env.locals (fun m' Z' => ∃ m, J (i + 1) m Z' ∧ Knows κ.env.scope m m') I oI (κ.st h tk) Q) κ.E (κ.st h tk) := by
  refine vX_of O 60 _ _ _ _ hx h tk _ F N fun fl f m₃ Z₃ h₃ tk₃ y hf F₃ N₃ => ?_
  obtain ⟨m₃', F₃', hm₃⟩ := id F₃
  induction fl with
  | next =>
    obtain rfl := hf
    obtain ⟨mj, Z₂, hj', hsj, rfl, ha⟩ := y
    rw [← hL] at F₃' N₃
    exact ⟨h₃, tk₃, m₃', Z₂, rfl, F₃', N₃, ha, mj, hj', knows_sub hsj hm₃⟩
  | cont => exact y.elim
  | brk => exact y.elim
  | ret v =>
    obtain ⟨u, rfl, hu⟩ := hf
    exact q (.ret v) (.ret u) m₃ Z₃ h₃ tk₃ y ⟨u, rfl, hu⟩ F₃ N₃
theorem e1_forStr {x : Str} {px p : Pos} {it : Expr} {body : List Stmt} {K : Fl → Mp → Ld → Prop} {l : List Nat} {m₀ : Mp} (O : KOk κ sc dp un) (J : Nat → Mp → Ld → Prop) (hx : (isLoc sc x && plE it) = true)
    (hit : vE κ sc m Z it fun v Z' => v = .str l ∧ J 0 m₀ Z') (hs : subM m₀ m)
    (turn : ∀ i c m₁ Z₁ I oI, l[i]? = some c → (∀ p ∈ Z₁, @Ne Nat p.1 I) → J i m₁ Z₁ → msetK x (.str [c]) m₁ fun m₂ => vX κ sc 60 m₂ (Z₁ ++ [(I, oI)]) body (LpK J i I oI K))
    (done : ∀ m₁ Z₁, J l.length m₁ Z₁ → K .next m₁ Z₁) : E1 κ m Z (.For (.Name x px) it body [] p) K := by
  intro hp tk Q F N q
  obtain ⟨hx1, hx2⟩ := Bool.and_eq_true_iff.mp hx
  obtain ⟨hL, hcl, hh⟩ := O.loc
  have es := O.scp
  refine For_invV κ.g (by show κ.env.scope.names.lookup x = _; rw [es]; exact (isLoc_of hx1).1) hcl (vE_of O hit hp tk _ F N fun v u Z' h' tk' k hu F2 N2 => ?_) (fun _ => pl_fold hx2) O.pe
  obtain ⟨rfl, j0⟩ := k
  obtain ⟨t, rfl⟩ := hu
  obtain ⟨m2, F2, hm2⟩ := F2
  rw [← hL] at F2 N2
  refine for_str (s := κ.st h' tk') (fun i m' nx => ∃ m, J i m nx ∧ Knows κ.env.scope m m') hh F2 N2 ⟨m₀, j0, knows_sub hs hm2⟩ ?_ ?_
  · rintro i c tt m₁' Z₁ h₁ tk₁ I oI hc hoff - ⟨m₁, hj, hm₁⟩ F₁ N₁
    rw [hL] at F₁ N₁
    rw [es] at hm₁
    exact lpk_post (κ := κ) hL O (msetK_of (turn i c m₁ Z₁ I oI hc hoff hj)) (frS_ins es hx1 F₁ hm₁ ⟨_, rfl⟩) N₁ q
  · rintro m₁' Z₁ h₁ tk₁ ⟨m₁, hj, hm₁⟩ F₁ N₁
    rw [hL] at F₁ N₁
    exact q .next .next m₁ Z₁ h₁ tk₁ (done m₁ Z₁ hj) rfl ⟨m₁', F₁, hm₁⟩ N₁
theorem e1_try {body : List Stmt} {h₀ : ExceptHandler} {hs : List ExceptHandler} {pos : Pos} {K : Fl → Mp → Ld → Prop} (O : KOk κ sc dp un) (hE : ∀ e s, ¬ κ.E e s) (h : vX κ sc 60 m Z body K) : E1 κ m Z (.Try body (h₀ :: hs) [] [] pos) K := by
  intro hp tk Q F N q
  refine wpAny_Try_except (wpAny_mono (vX_of O 60 _ _ _ _ h hp tk (fun f s₁ => Q f s₁) F N q) (fun f s₁ x => ?_) fun e s x => (hE e s x).elim)
  induction f with
  | next => exact wpAny_execs_nil x
  | _ => exact x
theorem ev_chain {l r1 r2 : Expr} {o1 o2 : CmpOp} {p : Pos} {K : SV → Ld → Prop} (O : KOk κ sc dp un) (hp : (plE r1 && plE r2) = true)
    (h : vE κ sc m Z l fun a Z' => vE κ sc m Z' r1 fun b Z2 => vCmp κ m Z2 o1 a b fun c Z3 => VIf c (vE κ sc m Z3 r2 fun d Z4 => vCmp κ m Z4 o2 b d fun c2 Z5 => K (.bool c2) Z5) (K (.bool false) Z3)) : Ev κ m Z (.Compare l [o1, o2] [r1, r2] p) K := by
  intro hp0 tk Q F N q
  obtain ⟨hp1, hp2⟩ := Bool.and_eq_true_iff.mp hp
  refine Compare_chain (vE_of O h hp0 tk _ F N fun a va Z' h' tk' x ha F' N' => chain_link (vE_of O x h' tk' _ F' N' fun b vb Z2 h2 tk2 y hb F2 N2 => vCmp_of O y va vb h2 tk2 _ ha hb F2 N2 fun v u Z3 h3 tk3 z hu F3 N3 => ?_)) (pl_marks hp2)
  obtain ⟨c, rfl, z⟩ := z
  obtain rfl := hu
  refine wpAny_truthy_bool ?_
  induction c
  · rw [if_neg (by decide)]; exact q _ _ Z3 h3 tk3 (z.f rfl) rfl F3 N3
  · rw [if_pos rfl]
    refine chain_last (vE_of O (z.t rfl) h3 tk3 _ F3 N3 fun d vd Z4 h4 tk4 z4 hd F4 N4 => vCmp_of O z4 vb vd h4 tk4 _ hb hd F4 N4 fun v u Z5 h5 tk5 z5 hu F5 N5 => ?_)
    obtain ⟨c2, rfl, z5⟩ := z5
    exact q _ u Z5 h5 tk5 z5 hu F5 N5
theorem op_shl {a n : Int} {K : SV → Ld → Prop} (h : (0 ≤ n ∧ n ≤ 1000) ∧ a.natAbs < 1000000) (k : K (.int (a * 2 ^ n.toNat)) Z) : Op2 κ m Z (binaryOp .LShift) (.int a) (.int n) K := by
  rintro _ _ hp tk Q ⟨t, rfl⟩ ⟨u, rfl⟩ F N q
  exact lshift_int_small h.1.1 (by (first | lia | omega)) (by (first | lia | omega)) (q _ _ Z hp _ k ⟨_, rfl⟩ F N)
theorem ca_len {l : List Nat} {K : SV → Ld → Prop} (hl : l.length ≤ 4000000) (k : K (.int l.length) Z) : Ca κ m Z (.builtin "len") [.str l] K := by
  intro vs h tk Q hvs F N q
  obtain ⟨_, rfl, ⟨t, rfl⟩⟩ := svs1 hvs
  exact rl_len (s := κ.st h tk) hl fun t' k' => q _ _ Z h k' k ⟨_, rfl⟩ F N
theorem ca_abs {n : Int} {K : SV → Ld → Prop} (k : K (.int (if n < 0 then -n else n)) Z) : Ca κ m Z (.builtin "abs") [.int n] K := by
  intro vs h tk Q hvs F N q
  obtain ⟨_, rfl, ⟨t, rfl⟩⟩ := svs1 hvs
  exact call_abs_int (s := κ.st h tk) fun t' k' => q _ _ Z h k' k ⟨_, rfl⟩ F N
theorem ca_str {n : Int} {K : SV → Ld → Prop} (hn : -1000 < n ∧ n < 1000) (k : (strI n).length ≤ 4 → K (.str (strI n)) Z) : Ca κ m Z (.type "str") [.int n] K := by
  intro vs h tk Q hvs F N q
  obtain ⟨_, rfl, ⟨t, rfl⟩⟩ := svs1 hvs
  exact rl_str (s := κ.st h tk) hn fun t' k' hl => q _ _ Z h k' (k hl) ⟨_, rfl⟩ F N
theorem ca_int {b : Bool} {K : SV → Ld → Prop} (k : K (.int (if b = true then 1 else 0)) Z) : Ca κ m Z (.type "int") [.bool b] K := by
  intro vs h tk Q hvs F N q
  obtain ⟨_, rfl, rfl⟩ := svs1 hvs
  exact call_int_bool (s := κ.st h tk) (q _ _ Z h _ k ⟨_, rfl⟩ F N)
theorem ca_max {a b : Int} {K : SV → Ld → Prop} (O : KOk κ sc dp un) (k : K (.int (if b > a then b else a)) Z) : Ca κ m Z (.builtin "max") [.int a, .int b] K := by
  intro vs h tk Q hvs F N q
  obtain ⟨m', F', hm⟩ := F
  obtain ⟨_, _, rfl, ⟨t, rfl⟩, ⟨u, rfl⟩⟩ := svs2 hvs
  exact max_two_N (s := κ.st h tk) O.loc.2.2 F' N fun h' k' F2 N2 => q _ _ Z h' k' k ⟨_, rfl⟩ ⟨m', F2, hm⟩ N2
theorem vit_tup {e i : Expr} {a : Addr} {n : Int} {x : SV} {xs : List SV} {K : SV → Ld → Prop} (O : KOk κ sc dp un) (hi : plE i = true) (hT : TupAt κ Z a xs) (h0 : 0 ≤ n ∧ n < 2 ^ 63) (hx : xs[n.toNat]? = some x) (k : K x Z) : VIt κ m Z e i a n K := by
  refine ⟨fun va vb h tk Q ha hb F N q => ?_⟩
  obtain rfl := ha
  obtain ⟨t, rfl⟩ := hb
  obtain ⟨m', F', hm⟩ := id F
  obtain ⟨gd, outer, base, mean, mg, mb, nm, a', cd, hA, hE, B, X, T⟩ := O.ok
  obtain ⟨vs, ht, hv⟩ := hT h m' X F' N
  obtain ⟨u, hu, hi2⟩ := svs_at hv hx
  have hlt : n.toNat < vs.length := by
    rcases Nat.lt_or_ge n.toNat vs.length with q | q
    · exact q
    · rw [List.getElem?_eq_none q] at hu; exact nomatch hu
  exact tail_any ht.typeIs slot_tuple_getitem.lookup (getItem_tuple (items := vs.toArray) ht (by (first | lia | omega)) h0.2 (seqIndex_of h0.1 (by rw [List.size_toArray]; (first | lia | omega))) (x := u) (by simpa using hu) (q x u Z h tk k hi2 F N)) (pl_sub hi)
theorem vit_list {e i : Expr} {a : Addr} {n : Int} {x : SV} {v : Value} {vs : List Value} {ep : Nat} {K : SV → Ld → Prop} (hi : plE i = true) (hm : (a, listOf vs.toArray ep) ∈ Z) (h0 : 0 ≤ n ∧ n < 2 ^ 63) (hx : vs[n.toNat]? = some v) (hv : x.Is v) (k : K x Z) : VIt κ m Z e i a n K := by
  refine ⟨fun va vb h tk Q ha hb F N q => ?_⟩
  obtain rfl := ha
  obtain ⟨t, rfl⟩ := hb
  exact rl_listItem (s := κ.st h tk) N hm h0.1 hx h0.2 (q x v Z h tk k hv F N) (pl_sub hi)
open PySem.Builtin.Str in
theorem ev_find {x : Str} {p0 : Pos} {a : Expr} {p p2 : Pos} {K : SV → Ld → Prop} (O : KOk κ sc dp un) (ha : plE a = true)
    (h : vE κ sc m Z (.Name x p0) fun v Z' => ∃ l, v = .str l ∧ vE κ sc m Z' a fun w Z'' => ∃ r, w = .str r ∧ K (.int (Txt.find (tx l) (tx r))) Z'') (he : ∀ env, ∃ pl, eval (.Call (.Attribute (.Name x p0) (PySem.Str.ofString "find") p) [a] [] p2) env = (do
      let ov ← eval (.Name x p0) env
      standAt p.atName
      let (f, first) ← holding [ov] (getMethod ov (PySem.Str.ofString "find") pl)
      callWith p2 f first (backTo p2 (starEach [a] env)) []) := by exact fun _ => ⟨_, rfl⟩) : Ev κ m Z (.Call (.Attribute (.Name x p0) (PySem.Str.ofString "find") p) [a] [] p2) K := by
  intro hp tk Q F N q
  obtain ⟨pl, he⟩ := he κ.env
  refine MethodCall_ (vE_of O h hp tk _ F N fun v u Z' h' tk' k hu F2 N2 => ?_) he
  obtain ⟨l, rfl, k⟩ := k
  obtain ⟨t, rfl⟩ := hu
  refine GM.find ?_
  have es : Es κ m Z' [a] (fun xs Z'' => ∃ r, xs = [.str r] ∧ K (.int (Txt.find (tx l) (tx r))) Z'') := es_cons ha (ev_mono (vE_of O k) fun v Z'' q => by obtain ⟨r, e, q⟩ := q; exact es_nil ⟨r, by rw [e], q⟩)
  refine callWith_method1 (es p2 h' tk' _ F2 N2 fun xs vs Z'' h2 tk2 k2 hvs F3 N3 => ?_) (pl_star ha) rfl
  obtain ⟨r, rfl, k2⟩ := k2
  obtain ⟨_, rfl, ⟨t2, rfl⟩⟩ := svs1 hvs
  exact rl_find (s := κ.st h2 tk2) rfl fun t' k' => q _ _ Z'' h2 k' k2 ⟨_, rfl⟩ F3 N3
theorem e1_forRange {x : Str} {px p p2 p3 : Pos} {e : Expr} {body : List Stmt} {K : Fl → Mp → Ld → Prop} {n : Nat} {m₀ : Mp} (O : KOk κ sc dp un) (J : Nat → Mp → Ld → Prop) (hx : (isLoc sc x && isGlb sc (PySem.Str.ofString "range") && plE e) = true) (hn : n ≤ 1000000)
    (hit : vE κ sc m Z e fun v Z' => v = .int (n : Int) ∧ J 0 m₀ Z') (hs : subM m₀ m)
    (turn : ∀ i m₁ Z₁ I oI, i < n → (∀ p ∈ Z₁, @Ne Nat p.1 I) → J i m₁ Z₁ → msetK x (.int (i : Int)) m₁ fun m₂ => vX κ sc 60 m₂ (Z₁ ++ [(I, oI)]) body (LpK J i I oI K))
    (done : ∀ m₁ Z₁, J n m₁ Z₁ → K .next m₁ Z₁) : E1 κ m Z (.For (.Name x px) (.Call (.Name (PySem.Str.ofString "range") p2) [e] [] p3) body [] p) K := by
  intro hp tk Q F N q
  simp only [Bool.and_eq_true] at hx
  obtain ⟨⟨hx1, hx2⟩, hx3⟩ := hx
  obtain ⟨hL, hcl, hh⟩ := O.loc
  have es := O.scp
  refine For_invV κ.g (by show κ.env.scope.names.lookup x = _; rw [es]; exact (isLoc_of hx1).1) hcl ?_ (fun _ => rfl) O.pe
  obtain ⟨gd, outer, base, mean, mg, mb, nm, a, cd, hA, hE, B, X, T⟩ := O.ok
  obtain ⟨m', F', hm⟩ := id F
  obtain ⟨c, hc⟩ := blAt_mem (show blAt (nmc (PySem.Str.ofString "range")) (PySem.Str.ofString "range") bl = some (Value.type "range") by kernel_rfl!)
  obtain ⟨b1, b2, b3, b4⟩ := bl_ok κ.w _ hc
  dsimp only at b1 b2 b3 b4
  obtain ⟨h1, h2⟩ := isGlb_of hx2
  have hes : Es κ m Z [e] (fun xs Z' => xs = [.int (n : Int)] ∧ J 0 m₀ Z') := es_cons hx3 (ev_mono (vE_of O hit) fun v Z' q => es_nil ⟨by rw [q.1], q.2⟩)
  have hx := hes p3 hp tk
  have key : ∀ (Q2 : Value → Shared → Prop), (∀ vs h' tk' Z', SVs [.int (n : Int)] vs → J 0 m₀ Z' → FrS κ h' m → News κ.g κ.L h' Z' → wpAny (model κ.prog κ.w) κ.A (call (.type "range") vs) Q2 κ.E (κ.st h' tk')) → wpAny (model κ.prog κ.w) κ.A (eval (.Call (.Name (PySem.Str.ofString "range") p2) [e] [] p3) κ.env) Q2 κ.E (κ.st hp tk) := by
    intro Q2 k
    rw [hE] at hx ⊢
    refine Call_ (nameX_B (s := κ.st hp tk) F' X (topRead_of T) b1 b2 b3 ?_ O.fn h1 h2)
    rw [pl_star hx3] at hx ⊢
    refine callWith_of (P := fun _ => True) rfl (fun _ _ => ⟨.machine, .inr (.inl rfl), Looks.of_pure rfl⟩) (evalArgs_plain (hx _ F N fun xs vs Z' h' tk' kk hvs F2 N2 => ⟨trivial, ?_⟩))
    obtain ⟨rfl, kk⟩ := kk
    exact k vs h' tk' Z' hvs kk F2 N2
  refine key _ fun vs h' tk' Z' hvs j0 F2 N2 => ?_
  obtain ⟨_, rfl, ⟨t, rfl⟩⟩ := svs1 hvs
  obtain ⟨m2, F2, hm2⟩ := F2
  rw [← hL] at F2 N2
  refine range1_rows (s := κ.st h' tk') F2 N2 fun h3 tk3 t₁ u₁ v₁ hr F3 N3 _ => ?_
  refine for_range (s := κ.st h3 tk3) (fun i m' nx => ∃ m, J i m nx ∧ Knows κ.env.scope m m') hh hr (rs_small hn) (rs_size n) F3 N3 ⟨m₀, j0, knows_sub hs hm2⟩ ?_ ?_
  · rintro i tt m₁' Z₁ h₁ tk₁ I oI hi hoff - ⟨m₁, hj, hm₁⟩ F₁ N₁
    rw [hL] at F₁ N₁
    rw [es] at hm₁
    rw [Int.zero_add] at F₁
    exact lpk_post (κ := κ) hL O (msetK_of (turn i m₁ Z₁ I oI hi hoff hj)) (frS_ins es hx1 F₁ hm₁ ⟨_, rfl⟩) N₁ q
  · rintro m₁' Z₁ h₁ tk₁ ⟨m₁, hj, hm₁⟩ F₁ N₁
    rw [hL] at F₁ N₁
    exact q .next .next m₁ Z₁ h₁ tk₁ (done m₁ Z₁ hj) rfl ⟨m₁', F₁, hm₁⟩ N₁
end
end
section
open PySem PySem.W PySem.Calls PyProof.Rows
section
variable {κ : Kx} {sc : Scope} {dp un : Nat} {m : Mp} {Z : Ld} {c : RC} {σ : RS}
theorem at_records {a : Int} {t : Tok} (hs : ∀ p ∈ c.src κ.w a t, p ∈ Z) : At κ Z c.sr (PySem.Str.ofString "records") (.ref c.lst) := fun _ h tk Q X F N q => getA_records (s := κ.st h tk) F X N hs fun tk' => q _ tk' rfl
theorem at_at {a : Int} {t : Tok} (hs : ∀ p ∈ c.src κ.w a t, p ∈ Z) : At κ Z c.sr (PySem.Str.ofString "at") (.int a) := fun _ h tk Q X F N q => getA_at (s := κ.st h tk) F X N hs fun tk' => q _ tk' ⟨_, rfl⟩
theorem sa_at {a n : Int} {t : Tok} {R : Ld} {K : Ld → Prop} (ho : c.lst < c.dsr ∧ c.dsr < c.sr) (hR : ∀ p ∈ R, @Ne Nat p.1 c.dsr) (k : ∀ t2, K (c.src κ.w n t2 ++ R)) : Sa κ (c.src κ.w a t ++ R) c.sr (PySem.Str.ofString "at") (.int n) K := by
  rintro u m' h tk Q ⟨t2, rfl⟩ X F N q
  exact setA_at (s := κ.st h tk) F X N ho hR fun h' tk' F' N' => q _ h' tk' (k t2) F' N'
theorem sa_e {T : Type} {f : T → Ld} {L : Ld} {a : Addr} {attr : Str} {v : SV} {K : Ld → Prop} (h : ∀ K' : Ld → Prop, (∀ t, K' (f t ++ [])) → Sa κ (L ++ []) a attr v K') (k : ∀ t, K (f t)) : Sa κ L a attr v K := by
  have := h K (fun t => by rw [List.append_nil]; exact k t)
  rwa [List.append_nil] at this
theorem sa_e0 {f L : Ld} {a : Addr} {attr : Str} {v : SV} {K : Ld → Prop} (h : ∀ K' : Ld → Prop, K' (f ++ []) → Sa κ (L ++ []) a attr v K') (k : K f) : Sa κ L a attr v K := by
  have := h K (by rw [List.append_nil]; exact k)
  rwa [List.append_nil] at this
theorem sa_sub {L : Ld} {a : Addr} {attr : Str} {v : SV} {K : Ld → Prop} (hs : ∀ p ∈ L, p ∈ Z) (h : Sa κ L a attr v K) : Sa κ Z a attr v K := fun u m' h' tk Q hv X F N q => h u m' h' tk Q hv X F (fun p hp => N p (hs p hp)) q
noncomputable def Gm (κ : Kx) (Z : Ld) (a : Addr) (name : Str) (f : Addr) : Prop := ∀ (m' : Str → Option Value) (h : Heap) (tk : Nat) (pl : Sem Bool) (Q : Value × List Value → Shared → Prop), (Mine.kk.heap_1 κ.w.params).In κ.g → Fr κ.g κ.L h m' → News κ.g κ.L h Z → Q (.ref f, [.ref a]) (κ.st h tk) →
  wpAny (model κ.prog κ.w) κ.A (getMethod (.ref a) name pl) Q κ.E (κ.st h tk)
theorem gm_next {a : Int} {t : Tok} (hs : ∀ p ∈ c.src κ.w a t, p ∈ Z) : Gm κ Z c.sr (PySem.Str.ofString "next_record") 339 := fun _ h tk pl Q X F N q => getM_next (s := κ.st h tk) F X N hs q
theorem ev_meth0 {o : Expr} {name : Str} {p p2 : Pos} {f : Nat} {K : SV → Ld → Prop} (O : KOk κ sc dp un) (hk : fns.contains f = true)
    (h : Ev κ m Z o fun v Z' => ∃ a, v = .ref a ∧ Gm κ Z' a name f ∧ Ca κ m Z' (.ref f) [.ref a] K) (he : ∀ env, ∃ pl, eval (.Call (.Attribute o name p) [] [] p2) env = (do
      let ov ← eval o env
      standAt p.atName
      let (f, first) ← holding [ov] (getMethod ov name pl)
      callWith p2 f first (backTo p2 (starEach [] env)) []) := by exact fun _ => ⟨_, rfl⟩) : Ev κ m Z (.Call (.Attribute o name p) [] [] p2) K := by
  intro hp tk Q F N q
  obtain ⟨pl, he⟩ := he κ.env
  refine MethodCall_ (h hp tk _ F N fun v u Z' h' tk' k hu F2 N2 => ?_) he
  obtain ⟨a, rfl, g, k⟩ := k
  cases hu
  obtain ⟨m', F', hm⟩ := id F2
  obtain ⟨gd, outer, base, mean, mg, mb, nm, a', cd, hA, hE, B, X, T⟩ := O.ok
  refine g m' h' tk' pl _ X F' N2 ?_
  exact callWith_K0 (X.keeps F'.keep) (List.all_eq_true.mp (all_fn κ.w) f (List.contains_iff_mem.mp hk)) (k [.ref a] h' tk' Q ⟨rfl, trivial⟩ F2 N2 q)
theorem e1_augattr {x attr : Str} {p p2 p3 : Pos} {op : Operator} {e : Expr} {a : Addr} {v0 : SV} {K : Fl → Mp → Ld → Prop} (O : KOk κ sc dp un) (hx : mget x m = some (.ref a)) (ha : At κ Z a attr v0)
    (h : vE κ sc m Z e fun v Z' => vInp κ m Z' op v0 v fun c Z'' => Sa κ Z'' a attr c fun Z3 => K .next m Z3) : E1 κ m Z (.AugAssign (.Attribute (.Name x p) attr p2) op e p3) K := by
  intro hp0 tk Q F N q
  have es := O.scp
  have hx2 := vE_of O h hp0
  obtain ⟨gd, outer, base, mean, mg, mb, nm, a', cd, hA, hE, B, X, T⟩ := O.ok
  obtain ⟨m', F', hm⟩ := id F
  obtain ⟨hl, u0, hu0, hi⟩ := hm x _ hx
  rw [es] at hl
  obtain ⟨h1, h2⟩ := isLoc_of hl
  cases hi
  refine wpAny_AugAssign_AttributeAny ?_
  rw [hE]
  refine nameX_L (s := κ.st hp0 tk) F' hu0 (ha m' hp0 tk _ X F' N fun u tk' hu => ?_) O.fn h1 h2
  rw [← hE]
  refine hx2 tk' _ F N fun v w Z' h' tk2 k hw F2 N2 => vInp_of k u w h' tk2 _ hu hw F2 N2 fun c w2 Z2 h3 tk3 k3 hw3 F3 N3 => ?_
  obtain ⟨m3, F3, hm3⟩ := F3
  exact k3 w2 m3 h3 tk3 _ hw3 X F3 N3 fun Z4 h4 tk4 k4 F4 N4 => q .next .next m Z4 h4 tk4 k4 rfl ⟨m3, F4, hm3⟩ N4
theorem ca_lenL {a : Addr} {vs : List Value} {ep : Nat} {K : SV → Ld → Prop} (hm : (a, listOf vs.toArray ep) ∈ Z) (hl : vs.length ≤ 4000000) (k : K (.int vs.length) Z) : Ca κ m Z (.builtin "len") [.ref a] K := by
  intro us h tk Q hvs F N q
  obtain ⟨_, rfl, rfl⟩ := svs1 hvs
  exact rl_listLen (s := κ.st h tk) N hm hl fun t' k' => q _ _ Z h k' k ⟨_, rfl⟩ F N
theorem ca_lenT {a : Addr} {xs : List SV} {K : SV → Ld → Prop} (O : KOk κ sc dp un) (hT : TupAt κ Z a xs) (hl : xs.length ≤ 4000000) (k : K (.int xs.length) Z) : Ca κ m Z (.builtin "len") [.ref a] K := by
  intro us h tk Q hvs F N q
  obtain ⟨gd, outer, base, mean, mg, mb, nm, a', cd, hA, hE, B, X, T⟩ := O.ok
  obtain ⟨m', F', hm⟩ := id F
  obtain ⟨vs, ht, hv⟩ := hT h m' X F' N
  have e := svs_len hv
  obtain ⟨_, rfl, rfl⟩ := svs1 hvs
  exact len_tuple (s := κ.st h tk) ht (by rw [List.size_toArray]; (first | lia | omega)) (by rw [List.size_toArray, ← e]; exact q _ _ Z h _ k ⟨_, rfl⟩ F N)
end
end
section
open PySem PySem.W PySem.Calls PyProof.Rows
example : ∀ (w : World), (Mine.kk.heap_1 w.params).In default → PySem.Challenge.rw_no0260_01 = PySem.Challenge.rw_no0260_01 → True := by
  k_fill
  intros; trivial
theorem signT {prog : Program} {w : World} {c : RC} {σ : RS} {rest : List Nat} (hR : Rd c σ rest) : ConT prog w 220 [.ref c.r] 2 40 (c.led w σ) (fun K => K (.str (sg rest)) (c.led w σ)) := by
  have hcol0 := hR.col0
  have hlen := hR.len
  refine' conT_v (ns := [PySem.Str.ofString "reader"]) ?k1 ?k2 ?k3 ?k4 ?_
  case k1 => k_is
  case k2 => k_is
  case k3 => exact b1 fun _ _ => BindsTo.of_eq (binds := [(_, _)]) rfl
  case k4 => kernel_rfl!
  rintro κ dp un K rfl rfl O - hd hu hS
  refine vat (at_col fun _ h => h) (vat (at_record fun _ h => h) (ca_len (by (first | lia | omega)) ⟨fun hb => ?_, fun hb => ?_⟩))
  · have hb := of_decide_eq_true hb
    refine vat (at_record fun _ h => h) (vat (at_col fun _ h => h) ⟨⟨by (first | lia | omega), hcol0, hb⟩, ?_⟩)
    rw [← hR.sg_in hb] at hS
    exact hS
  · rw [← hR.sg_out (of_decide_eq_false hb)] at hS
    exact hS
theorem nextT {prog : Program} {w : World} {c : RC} {a : Int} {t u : Tok} {l : List Nat} (ord : c.lst < c.dsr ∧ c.dsr < c.sr) (h0 : 0 ≤ a) (h1 : a < c.items.length) (hfit : c.items.length ≤ 100000) (he : c.items[a.toNat]? = some (.str (tx l) u)) :
    ConT prog w 339 [.ref c.sr] 2 40 (c.src w a t) (fun K => ∀ ta, K (.str l) (c.src w (a + 1) ta)) := by
  refine' conT_v (ns := [PySem.Str.ofString "self"]) ?k1 ?k2 ?k3 ?k4 ?_
  case k1 => k_is
  case k2 => k_is
  case k3 => exact b1 fun _ _ => BindsTo.of_eq (binds := [(_, _)]) rfl
  case k4 => kernel_rfl!
  rintro κ dp un K rfl rfl O - hd hu hS
  have lst : ∀ a t, (c.lst, listOf c.items.toArray c.lep) ∈ c.src κ.w a t := fun _ _ => .tail _ (.tail _ (.head _))
  refine vat (at_at fun _ h => h) (vat (at_records fun _ h => h) (ca_lenL (lst _ _) (by (first | lia | omega)) (iff_ (decide_eq_false (by (first | lia | omega))) ?_)))
  refine e1_augattr O rfl (at_at fun _ h => h) (sa_e (fun K' => sa_at (R := []) ord (fun _ h => nomatch h)) fun t2 => ?_)
  refine vat (at_records fun _ h => h) (vat (at_at fun _ h => h) (vit_list (x := .str l) (v := .str (tx l) u) rfl (lst _ _) ⟨by (first | lia | omega), by (first | lia | omega)⟩ ?_ ⟨u, rfl⟩ (hS t2)))
  rw [show a + 1 - 1 = a by (first | lia | omega)]; exact he
theorem stepT {prog : Program} {w : World} {c : RC} {σ : RS} {rest : List Nat} (hR : Rd c σ rest) (hne : rest ≠ []) : ConT prog w 227 [.ref c.r] 6 80 (c.led w σ) (fun K => ∀ σ', Rd c σ' rest.tail → Mv σ σ' → K .none (c.led w σ')) := by
  have ho := hR.ord
  have hcol0 := hR.col0
  have hlen := hR.len
  refine' conT_v (ns := [PySem.Str.ofString "reader"]) ?k1 ?k2 ?k3 ?k4 ?_
  case k1 => k_is
  case k2 => k_is
  case k3 => exact b1 fun _ _ => BindsTo.of_eq (binds := [(_, _)]) rfl
  case k4 => kernel_rfl!
  rintro κ dp un K rfl rfl O - hd hu hS
  refine vat (at_col fun _ h => h) (vat (at_record fun _ h => h) (ca_len (by (first | lia | omega)) ⟨fun hb => ?_, fun hb => ?_⟩))
  · obtain ⟨x, tl, rfl, _, _, hn⟩ := hR.inn (of_decide_eq_true hb)
    exact e1_augattr O rfl (at_col fun _ h => h) (sa_e (fun K' => sa_col (R := []) ho (fun _ h => nomatch h)) fun t2 => hS _ (hn t2) ⟨rfl, rfl, rfl, rfl, rfl⟩)
  · rcases hR.out (of_decide_eq_false hb) with ⟨e, _⟩ | ⟨l, t, tl, rfl, hat, he, hn⟩
    · exact absurd e hne
    have hr : ∀ p ∈ (c.led κ.w σ).take 2, p ∈ c.led κ.w σ ∧ p ∉ c.src κ.w σ.at_ σ.tat := fun p hp => ⟨List.mem_of_mem_take hp, fun q => by
      obtain ⟨o1, o2, o3, o4⟩ := ho
      have a1 : c.sr < p.1 := by rcases List.mem_cons.mp hp with rfl | hp; exact Nat.lt_trans o3 o4; rw [List.mem_singleton.mp hp]; exact o3
      have a2 : p.1 ≤ c.sr := by rcases List.mem_cons.mp q with rfl | q; exact Nat.le_refl _; rcases List.mem_cons.mp q with rfl | q; exact Nat.le_of_lt o2; rw [List.mem_singleton.mp q]; exact Nat.le_of_lt (Nat.lt_trans o1 o2)
      exact Nat.lt_irrefl _ (Nat.lt_of_lt_of_le a1 a2)⟩
    refine ev_meth0 O rfl (vE_of O (vat (at_source fun _ h => h) ⟨c.sr, rfl, gm_next (a := σ.at_) (t := σ.tat) (fun p h => .tail _ (.tail _ h)), ?_⟩))
    refine ca_con (rest := (c.led κ.w σ).take 2) O hd hu (nextT (a := σ.at_) (t := σ.tat) ⟨ho.1, ho.2.1⟩ hR.at0 hat hR.fit he) rfl (fun p h => .tail _ (.tail _ h)) hr fun ta => ?_
    refine sa_sub (L := c.led κ.w { σ with at_ := σ.at_ + 1, tat := ta }) (fun p hp => ?_) (sa_e (fun K' => sa_record (R := []) ho (fun _ h => nomatch h)) fun t2 => ?_)
    · rcases List.mem_cons.mp hp with rfl | hp
      · exact List.mem_append_right _ (.head _)
      · rcases List.mem_cons.mp hp with rfl | hp
        · exact List.mem_append_right _ (.tail _ (.head _))
        · exact List.mem_append_left _ hp
    exact sa_e (fun K' => sa_col (R := []) ho (fun _ h => nomatch h)) fun t3 => hS _ (hn t2 t3 ta) ⟨rfl, rfl, rfl, rfl, rfl⟩
noncomputable def WJ (w : World) (c : RC) (σ : RS) (m0 : Mp) (P : List Nat → Prop) (n : Nat) (m : Mp) (Z : Ld) : Prop := ∃ σ' rest', n = rest'.length ∧ m = m0 ∧ Z = c.led w σ' ∧ Rd c σ' rest' ∧ Mv σ σ' ∧ P rest'
theorem skipbT {prog : Program} {w : World} {c : RC} {σ : RS} {rest : List Nat} (hR : Rd c σ rest) :
    ConT prog w 234 [.ref c.r] 8 120 (c.led w σ) (fun K => ∀ σ', Rd c σ' (rest.dropWhile (· == 32)) → Mv σ σ' → K .none (c.led w σ')) := by
  refine' conT_v (ns := [PySem.Str.ofString "reader"]) ?k1 ?k2 ?k3 ?k4 ?_
  case k1 => k_is
  case k2 => k_is
  case k3 => exact b1 fun _ _ => BindsTo.of_eq (binds := [(_, _)]) rfl
  case k4 => kernel_rfl!
  rintro κ dp un K rfl rfl O - hd hu hS
  refine e1_while O (WJ κ.w c σ [(PySem.Str.ofString "reader", .ref c.r)] fun r => rest.dropWhile (· == 32) = r.dropWhile (· == 32)) ⟨σ, rest, rfl, rfl, rfl, hR, .rfl' σ, rfl⟩ ⟨rfl, trivial⟩ ?_
  rintro n m₁ Z₁ Kb hb1 - - ⟨σ', rest', rfl, rfl, rfl, hR', hM', he'⟩
  refine ca_all O hd hu (signT hR') rfl ⟨fun hb => ?_, fun hb => ?_⟩
  · obtain ⟨tl, rfl, _⟩ := sg_is hb
    exact ca_all O hd hu (stepT hR' (List.cons_ne_nil _ _)) rfl fun σ2 hR2 hM2 => hb1 _ _ _ _ (Nat.lt_succ_self _) ⟨σ2, tl, rfl, rfl, rfl, hR2, hM'.trans hM2, he'.trans (by rw [List.dropWhile_cons]; rfl)⟩ ⟨rfl, trivial⟩
  · exact hS σ' (by rw [he', dw_stop (by decide) hb]; exact hR') hM'
theorem skipgT {prog : Program} {w : World} {c : RC} {σ : RS} {rest : List Nat} (hR : Rd c σ rest) (hg : rest.dropWhile gap ≠ []) :
    ConT prog w 241 [.ref c.r] 8 120 (c.led w σ) (fun K => ∀ σ', Rd c σ' (rest.dropWhile gap) → Mv σ σ' → K .none (c.led w σ')) := by
  refine' conT_v (ns := [PySem.Str.ofString "reader"]) ?k1 ?k2 ?k3 ?k4 ?_
  case k1 => k_is
  case k2 => k_is
  case k3 => exact b1 fun _ _ => BindsTo.of_eq (binds := [(_, _)]) rfl
  case k4 => kernel_rfl!
  rintro κ dp un K rfl rfl O - hd hu hS
  refine e1_while O (WJ κ.w c σ [(PySem.Str.ofString "reader", .ref c.r)] fun r => rest.dropWhile gap = r.dropWhile gap) ⟨σ, rest, rfl, rfl, rfl, hR, .rfl' σ, rfl⟩ ⟨rfl, trivial⟩ ?_
  rintro n m₁ Z₁ Kb hb1 - - ⟨σ', rest', rfl, rfl, rfl, hR', hM', he'⟩
  have hne : rest' ≠ [] := by rintro rfl; rw [he'] at hg; exact hg rfl
  have fin : ((sg rest' == [32]) = true ∨ (sg rest' == []) = true) → ∀ σ2, Rd c σ2 rest'.tail → Mv σ' σ2 → Kb .next [(PySem.Str.ofString "reader", .ref c.r)] (c.led κ.w σ2) := fun h σ2 hR2 hM2 => hb1 _ _ _ _ (tail_lt hne) ⟨σ2, rest'.tail, rfl, rfl, rfl, hR2, hM'.trans hM2, he'.trans (gap_go hne h)⟩ ⟨rfl, trivial⟩
  have hs : ConT κ.prog κ.w 227 [.ref c.r] 6 80 (c.led κ.w σ') (fun K => ∀ σ2, Rd c σ2 rest'.tail → Mv σ' σ2 → K .none (c.led κ.w σ2)) := stepT hR' hne
  refine ca_all O hd hu (signT hR') rfl ⟨fun hb => ?_, fun hb => ca_all O hd hu (signT hR') rfl ⟨fun hc => ?_, fun hc => ?_⟩⟩
  · exact ift rfl (ca_all O hd hu hs rfl (fin (.inl hb)))
  · exact ift rfl (ca_all O hd hu hs rfl (fin (.inr hc)))
  · exact iff_ rfl (hS σ' (by rw [he', gap_stop hb hc]; exact hR') hM')
theorem runT {prog : Program} {w : World} {c : RC} {σ : RS} {rest : List Nat} {e : Addr} (hR : Rd c σ rest) (he : e = 191 ∨ e = 192) :
    ConT prog w 248 [.ref c.r, .ref e] 8 120 (c.led w σ) (fun K => ∀ σ', Rd c σ' (rest.dropWhile fun c => !stopC e c) → Mv σ σ' → K (.str (rest.takeWhile fun c => !stopC e c)) (c.led w σ')) := by
  have htot := hR.tot
  refine' conT_v (ns := [PySem.Str.ofString "reader", PySem.Str.ofString "ends"]) ?k1 ?k2 ?k3 ?k4 ?_
  case k1 => k_is
  case k2 => k_is
  case k3 => exact b2 fun _ _ _ => BindsTo.of_eq (binds := [(_, _), (_, _)]) rfl
  case k4 => kernel_rfl!
  rintro κ dp un K rfl rfl O - hd hu hS
  refine e1_while O (fun n m Z => ∃ σ' rest' acc, n = rest'.length ∧ m = [(PySem.Str.ofString "reader", .ref c.r), (PySem.Str.ofString "ends", .ref e), (PySem.Str.ofString "run", .str acc)] ∧ Z = c.led κ.w σ' ∧ Rd c σ' rest' ∧ Mv σ σ' ∧ acc.length + rest'.length ≤ rest.length ∧ (rest.takeWhile fun c => !stopC e c) = acc ++ (rest'.takeWhile fun c => !stopC e c) ∧ (rest.dropWhile fun c => !stopC e c) = rest'.dropWhile fun c => !stopC e c) ⟨σ, rest, [], rfl, rfl, rfl, hR, .rfl' σ, by simp, rfl, rfl⟩ ⟨rfl, rfl, rfl, trivial⟩ ?_
  rintro n m₁ Z₁ Kb hb1 - - ⟨σ', rest', acc, rfl, rfl, rfl, hR', hM', hl', ht', hd'⟩
  have hsl := sg_len rest'
  refine ca_all O hd hu (signT hR') rfl ⟨he, fun hb => ?_, fun hb => ?_⟩
  · obtain ⟨x, tl, rfl, e1, e2, e3⟩ := end_false he (by simpa using hb)
    refine ca_all O hd hu (signT hR') rfl ⟨by (first | lia | omega), ca_all O hd hu (stepT hR' (List.cons_ne_nil _ _)) rfl fun σ2 hR2 hM2 => hb1 _ _ _ _ (Nat.lt_succ_self _) ⟨σ2, tl, acc ++ [x], rfl, rfl, rfl, hR2, hM'.trans hM2, by simp only [List.length_append, List.length_cons, List.length_nil] at *; (first | lia | omega), by rw [ht', e2, List.append_assoc]; rfl, by rw [hd', e3]⟩ ⟨rfl, rfl, by rw [e1]; rfl, trivial⟩⟩
  · obtain ⟨e1, e2⟩ := end_true (e := e) (r := rest') (by simpa using hb)
    rw [e1, List.append_nil] at ht'
    rw [e2] at hd'
    rw [ht', hd'] at hS
    exact hS σ' hR' hM'
theorem tsignT {prog : Program} {w : World} {c : RC} {σ : RS} {x : Nat} {tl : List Nat} (hR : Rd c σ (x :: tl)) (hx : x ≠ 10) :
    ConT prog w 255 [.ref c.r, .str [x]] 8 120 (c.led w σ) (fun K => ∀ σ', Rd c σ' tl → Mv σ σ' → K .none (c.led w σ')) := by
  have hsg : sg (x :: tl) = [x] := by simp [sg, hx]
  refine' conT_v (ns := [PySem.Str.ofString "reader", PySem.Str.ofString "sign"]) ?k1 ?k2 ?k3 ?k4 ?_
  case k1 => k_is
  case k2 => k_is
  case k3 => exact b2 fun _ _ _ => BindsTo.of_eq (binds := [(_, _), (_, _)]) rfl
  case k4 => kernel_rfl!
  rintro κ dp un K rfl rfl O - hd hu hS
  refine ca_all O hd hu (signT hR) rfl (iff_ (by rw [hsg, bne_self_eq_false]) (ca_all O hd hu (stepT hR (List.cons_ne_nil _ _)) rfl hS))
end
section
open PySem PySem.W PySem.Calls PyProof.Rows
example : ∀ (w : World), (Mine.kk.heap_1 w.params).In default → PySem.Challenge.rw_no0260_01 = PySem.Challenge.rw_no0260_01 → True := by
  k_fill
  intros; trivial
theorem quotedT {prog : Program} {w : World} {c : RC} {σ : RS} {r0 V r : List Nat} (hR : Rd c σ (39 :: r0)) (hq : tq r0 = some (V, r)) :
    ConT prog w 269 [.ref c.r] 12 200 (c.led w σ) (fun K => ∀ σ', Rd c σ' r → Mv σ σ' → K (.str V) (c.led w σ')) := by
  have htot : r0.length ≤ 1000000 := Nat.le_trans (Nat.le_succ _) hR.tot
  refine' conT_v (ns := [PySem.Str.ofString "reader"]) ?k1 ?k2 ?k3 ?k4 ?_
  case k1 => k_is
  case k2 => k_is
  case k3 => exact b1 fun _ _ => BindsTo.of_eq (binds := [(_, _)]) rfl
  case k4 => kernel_rfl!
  rintro κ dp un K rfl rfl O - hd hu hS
  refine ca_all O hd hu (stepT hR (List.cons_ne_nil _ _)) rfl fun σ1 hR1 hM1 => ?_
  refine e1_while O (fun n m Z => ∃ σ' rest' acc q, n = rest'.length ∧ m = [(PySem.Str.ofString "reader", .ref c.r), (PySem.Str.ofString "text", .str acc)] ∧ Z = c.led κ.w σ' ∧ Rd c σ' rest' ∧ Mv σ σ' ∧ acc.length + rest'.length ≤ r0.length ∧ tq rest' = some q ∧ V = acc ++ q.1 ∧ r = q.2) ⟨σ1, r0, [], _, rfl, rfl, rfl, hR1, hM1, by simp, hq, rfl, rfl⟩ ⟨rfl, rfl, trivial⟩ ?_
  rintro n m₁ Z₁ Kb hb1 - hb3 ⟨σ', rest', acc, q, rfl, rfl, rfl, hR', hM', hl', hq', rfl, rfl⟩
  have hsl := sg_len rest'
  have hne' : rest' ≠ [] := by rintro rfl; obtain ⟨⟩ := hq'
  have htot' := hR'.tot
  refine ift rfl (ca_all O hd hu (signT hR') rfl (ca_all O hd hu (stepT hR' hne') rfl fun σ2 hR2 hM2 => ⟨fun hb => ?_, fun hb => ?_⟩))
  · obtain ⟨tl, rfl, _⟩ := sg_is hb
    refine ca_all O hd hu (signT hR2) rfl ⟨fun hc => ?_, fun hc => ?_⟩
    · have e := tq_end hq' (bne_t hc)
      subst e
      rw [List.append_nil] at hS
      exact hb3 _ _ _ (hS σ2 hR2 (hM'.trans hM2))
    · obtain ⟨tl2, rfl, _⟩ := sg_is (bne_f hc)
      obtain ⟨q', hq2, rfl⟩ := tq_two hq'
      refine ca_all O hd hu (stepT hR2 (List.cons_ne_nil _ _)) rfl fun σ3 hR3 hM3 => ⟨by (first | lia | omega), ?_⟩
      exact hb1 _ _ _ _ (by simp only [List.length_cons]; (first | lia | omega)) ⟨σ3, tl2, acc ++ [39], q', rfl, rfl, rfl, hR3, (hM'.trans hM2).trans hM3, by simp only [List.length_append, List.length_cons, List.length_nil] at *; (first | lia | omega), hq2, by rw [List.append_assoc]; rfl, rfl⟩ ⟨rfl, rfl, trivial⟩
  · obtain ⟨_, q', hq2, rfl⟩ := tq_other hq' hb
    exact ⟨by (first | lia | omega), hb1 _ _ _ _ (tail_lt hne') ⟨σ2, _, acc ++ sg rest', q', rfl, rfl, rfl, hR2, hM'.trans hM2, by have := tail_lt hne'; simp only [List.length_append] at *; (first | lia | omega), hq2, by rw [List.append_assoc], rfl⟩ ⟨rfl, rfl, trivial⟩⟩
theorem pairT {prog : Program} {w : World} {c : RC} {σ : RS} {r0 r3 r6 : List Nat} (hR : Rd c σ (40 :: r0))
    (h1 : ((r0.dropWhile (· == 32)).dropWhile fun c => !stopC 192 c).dropWhile gap = 44 :: r3)
    (h2 : r3.dropWhile gap ≠ []) (h3 : ((r3.dropWhile gap).dropWhile fun c => !stopC 192 c).dropWhile (· == 32) = 41 :: r6) :
    ConT prog w 276 [.ref c.r] 12 200 (c.led w σ) (fun K => ∀ a vs ep σ', SVs [.str [112, 97, 105, 114], .str ((r0.dropWhile (· == 32)).takeWhile fun c => !stopC 192 c), .str ((r3.dropWhile gap).takeWhile fun c => !stopC 192 c)] vs → Rd c σ' r6 → Mv σ σ' → K (.ref a) ((a, tupO vs ep) :: c.led w σ')) := by
  have hg1 : ((r0.dropWhile (· == 32)).dropWhile fun c => !stopC 192 c).dropWhile gap ≠ [] := by rw [h1]; exact List.cons_ne_nil _ _
  refine' conT_v (ns := [PySem.Str.ofString "reader"]) ?k1 ?k2 ?k3 ?k4 ?_
  case k1 => k_is
  case k2 => k_is
  case k3 => exact b1 fun _ _ => BindsTo.of_eq (binds := [(_, _)]) rfl
  case k4 => kernel_rfl!
  rintro κ dp un K rfl rfl O - hd hu hS
  refine ca_all O hd hu (stepT hR (List.cons_ne_nil _ _)) rfl fun σ1 hR1 hM1 => ?_
  refine ca_all O hd hu (skipbT hR1) rfl fun σ2 hR2 hM2 => ?_
  refine ca_all O hd hu (runT hR2 (.inr rfl)) rfl fun σ3 hR3 hM3 => ?_
  refine ca_all O hd hu (skipgT hR3 hg1) rfl fun σ4 hR4 hM4 => ?_
  refine ca_all O hd hu (tsignT (h1 ▸ hR4) (by decide)) rfl fun σ5 hR5 hM5 => ?_
  refine ca_all O hd hu (skipgT hR5 h2) rfl fun σ6 hR6 hM6 => ?_
  refine ca_all O hd hu (runT hR6 (.inr rfl)) rfl fun σ7 hR7 hM7 => ?_
  refine ca_all O hd hu (skipbT hR7) rfl fun σ8 hR8 hM8 => ?_
  refine ca_all O hd hu (tsignT (h3 ▸ hR8) (by decide)) rfl fun σ9 hR9 hM9 => ?_
  intro a vs ep hv _
  exact hS a vs ep σ9 hv hR9 ((((((((hM1.trans hM2).trans hM3).trans hM4).trans hM5).trans hM6).trans hM7).trans hM8).trans hM9)
theorem wholeT {prog : Program} {w : World} {l : List Nat} (hne : l ≠ []) (hg : ∀ c ∈ l, 48 ≤ c ∧ c ≤ 57) :
    ConT prog w 134 [.str l] 4 60 [] (fun K => K (.int (valD l)) []) := by
  refine' conT_v (ns := [PySem.Str.ofString "figures"]) ?k1 ?k2 ?k3 ?k4 ?_
  case k1 => k_is
  case k2 => k_is
  case k3 => exact b1 fun _ _ => BindsTo.of_eq (binds := [(_, _)]) rfl
  case k4 => kernel_rfl!
  rintro κ dp un K rfl rfl O - hd hu hS
  refine e1_forStr (l := l) O (fun i m Z => Z = [] ∧ m = [(PySem.Str.ofString "figures", .str l), (PySem.Str.ofString "number", .int (valD (l.take i)))]) (by kernel_rfl!) ⟨rfl, rfl, rfl⟩ ⟨rfl, rfl, trivial⟩ ?_ ?_
  · rintro i c m₁ Z₁ I oI hc hI ⟨rfl, rfl⟩
    obtain ⟨hc0, hc1⟩ := hg c (List.mem_of_getElem? hc)
    have hfd := find_digit hc0 hc1
    refine ev_find O rfl ⟨_, rfl, _, rfl, ?_⟩
    rw [show tx [48, 49, 50, 51, 52, 53, 54, 55, 56, 57] = PySem.Str.ofString "0123456789" from by decide +kernel, hfd]
    refine iff_ (decide_eq_false (by (first | lia | omega))) ⟨by mul_fits, ?_⟩
    refine ⟨_, [], ⟨rfl, rfl⟩, ⟨rfl, ?_, trivial⟩, rfl, fun _ h => nomatch h⟩
    rw [List.take_add_one, hc, Option.toList_some, valD_snoc]; rfl
  · rintro m₁ Z₁ ⟨rfl, rfl⟩
    rw [List.take_length]
    exact iff_ (by simpa using hne) hS
theorem solidT {prog : Program} {w : World} {l : List Nat} (hl : 32 ∉ l) (hlen : l.length ≤ 1000) :
    ConT prog w 127 [.str l, .bool false] 2 40 [] (fun K => K (.str l) []) := by
  refine' conT_v (ns := [PySem.Str.ofString "field", PySem.Str.ofString "is_zero"]) ?k1 ?k2 ?k3 ?k4 ?_
  case k1 => k_is
  case k2 => k_is
  case k3 => exact b2 fun _ _ _ => BindsTo.of_eq (binds := [(_, _), (_, _)]) rfl
  case k4 => kernel_rfl!
  rintro κ dp un K rfl rfl O - hd hu hS
  refine e1_forStr (l := l) O (fun i m Z => Z = [] ∧ m = [(PySem.Str.ofString "field", .str l), (PySem.Str.ofString "is_zero", .bool false), (PySem.Str.ofString "out", .str (l.take i))]) (by kernel_rfl!) ⟨rfl, rfl, rfl⟩ ⟨rfl, rfl, rfl, trivial⟩ ?_ ?_
  · rintro i c m₁ Z₁ I oI hc hI ⟨rfl, rfl⟩
    have hc0 : [c] ≠ [32] := fun q => hl (by obtain ⟨⟩ := q; exact List.mem_of_getElem? hc)
    refine ift (by simpa using hc0) ⟨by simp only [List.length_take, List.length_cons, List.length_nil]; (first | lia | omega), ?_⟩
    refine ⟨_, [], ⟨rfl, rfl⟩, ⟨rfl, rfl, ?_, trivial⟩, rfl, fun _ h => nomatch h⟩
    rw [List.take_add_one, hc]; rfl
  · rintro m₁ Z₁ ⟨rfl, rfl⟩
    rw [List.take_length]
    exact hS
theorem csignT {prog : Program} {w : World} {l : List Nat} (hlen : l.length ≤ 1000) :
    ConT prog w 141 [.str l] 2 40 [] (fun K => ∀ a vs ep, SVs [.int (csg l).1, .str (csg l).2] vs → K (.ref a) [(a, tupO vs ep)]) := by
  refine' conT_v (ns := [PySem.Str.ofString "text"]) ?k1 ?k2 ?k3 ?k4 ?_
  case k1 => k_is
  case k2 => k_is
  case k3 => exact b1 fun _ _ => BindsTo.of_eq (binds := [(_, _)]) rfl
  case k4 => kernel_rfl!
  rintro κ dp un K rfl rfl O - hd hu hS
  have hl : l.length ≤ 4000000 ∧ (0 : Int) ≤ 1 := ⟨by (first | lia | omega), by decide⟩
  refine ⟨hl, fun hb => ⟨hl, fun a vs ep hv _ => hS a vs ep (by rw [csg_neg hb]; exact hv)⟩, fun hb => ⟨hl, fun hb2 => ⟨hl, fun a vs ep hv _ => hS a vs ep (by rw [csg_pos hb2]; exact hv)⟩, fun hb2 a vs ep hv _ => hS a vs ep (by rw [csg_none hb hb2]; exact hv)⟩⟩
theorem fittedT {prog : Program} {w : World} {l : List Nat} {n : Int} (hl : l.length ≤ 100) (hn : 0 ≤ n ∧ n ≤ 10) :
    ConT prog w 304 [.str l, .int n] 2 40 [] (fun K => K (.str (fit l n.toNat)) []) := by
  refine' conT_v (ns := [PySem.Str.ofString "text", PySem.Str.ofString "length"]) ?k1 ?k2 ?k3 ?k4 ?_
  case k1 => k_is
  case k2 => k_is
  case k3 => exact b2 fun _ _ _ => BindsTo.of_eq (binds := [(_, _), (_, _)]) rfl
  case k4 => kernel_rfl!
  rintro κ dp un K rfl rfl O - hd hu hS
  refine ⟨⟨by (first | lia | omega), hn.1⟩, ca_len (by (first | lia | omega)) ⟨rfl, by (first | lia | omega), ?_, ?_⟩⟩
  · simp only [List.length_take, List.length_replicate]; (first | lia | omega)
  · have e : l.take n.toNat ++ List.replicate (n - (l.length : Int)).toNat 32 = fit l n.toNat := by
      unfold fit
      rw [show (n - (l.length : Int)).toNat = n.toNat - l.length by (first | lia | omega)]
    rw [← e] at hS
    exact hS
theorem digofT {prog : Program} {w : World} {c : LM} {k : Int} (hk : k = 1 ∨ k = 2) :
    ConT prog w 120 [.int k, .ref c.a] 2 40 (c.led w) (fun K => ∀ d, 9 ≤ d ∧ d ≤ 12 → K (.int d) (c.led w)) := by
  refine' conT_v (ns := [PySem.Str.ofString "kind", PySem.Str.ofString "limits"]) ?k1 ?k2 ?k3 ?k4 ?_
  case k1 => k_is
  case k2 => k_is
  case k3 => exact b2 fun _ _ _ => BindsTo.of_eq (binds := [(_, _), (_, _)]) rfl
  case k4 => kernel_rfl!
  rintro κ dp un K rfl rfl O - hd hu hS
  refine ⟨fun _ => vat (at_rdig fun _ h => h) (hS 9 (by decide)), fun _ => vat (at_ddig fun _ h => h) (hS 12 (by decide))⟩
end
section
open PySem PySem.W PySem.Calls PyProof.Rows
example : ∀ (w : World), (Mine.kk.heap_1 w.params).In default → PySem.Challenge.rw_no0260_01 = PySem.Challenge.rw_no0260_01 → True := by
  k_fill
  intros; trivial
theorem countT {prog : Program} {w : World} {n : Int} (hn : -999 ≤ n ∧ n ≤ 999) :
    ConT prog w 92 [.int n] 2 40 [] (fun K => ∀ k, 0 ≤ k ∧ k ≤ 3 → K (.int k) []) := by
  refine' conT_v (ns := [PySem.Str.ofString "n"]) ?k1 ?k2 ?k3 ?k4 ?_
  case k1 => k_is
  case k2 => k_is
  case k3 => exact b1 fun _ _ => BindsTo.of_eq (binds := [(_, _)]) rfl
  case k4 => kernel_rfl!
  rintro κ dp un K rfl rfl O hE hd hu hS
  refine ca_abs ?_
  have ha : 0 ≤ (if n < 0 then -n else n) ∧ (if n < 0 then -n else n) ≤ 999 := by split <;> (first | lia | omega)
  generalize (if n < 0 then -n else n) = a at ha
  refine e1_while O (fun k m Z => Z = [] ∧ k = 0 ∧ m = [(PySem.Str.ofString "n", .int a), (PySem.Str.ofString "count", .int 0)]) (n₀ := 0) ⟨rfl, rfl, rfl⟩ ⟨rfl, rfl, trivial⟩ ?_
  rintro k m₁ Z₁ Kb - - - ⟨rfl, rfl, rfl⟩
  refine iff_ (decide_eq_false (by (first | lia | omega))) ?_
  refine e1_while O (fun k m Z => ∃ v c : Int, Z = [] ∧ m = [(PySem.Str.ofString "n", .int v), (PySem.Str.ofString "count", .int c)] ∧ k = v.toNat ∧ 0 ≤ v ∧ 0 ≤ c ∧ (c = 0 ∧ v ≤ 999 ∨ c = 1 ∧ v ≤ 99 ∨ c = 2 ∧ v ≤ 9 ∨ c = 3 ∧ v = 0)) ⟨a, 0, rfl, rfl, rfl, ha.1, by decide, .inl ⟨rfl, ha.2⟩⟩ ⟨rfl, rfl, trivial⟩ ?_
  rintro k m₁ Z₁ Kb hb1 - - ⟨v, c, rfl, rfl, rfl, hv, hc, hvc⟩
  refine ⟨fun hb => ⟨⟨by decide, by decide⟩, ?_⟩, fun hb => hS c ⟨hc, by (first | lia | omega)⟩⟩
  have hb := of_decide_eq_true hb
  have e := fd10 v
  exact hb1 (Int.fdiv v 10).toNat _ _ _ (by rw [e]; (first | lia | omega)) ⟨Int.fdiv v 10, c + 1, rfl, rfl, rfl, by rw [e]; (first | lia | omega), by (first | lia | omega), by rw [e]; (first | lia | omega)⟩ ⟨rfl, rfl, trivial⟩
theorem stripT {prog : Program} {w : World} {m e : Int} (hm : -999 ≤ m ∧ m ≤ 999) :
    ConT prog w 99 [.int m, .int e] 2 40 [] (fun K => ∀ a nx, Two (.ref a) (sz m e).1 (sz m e).2 nx → K (.ref a) nx) := by
  refine' conT_v (ns := [PySem.Str.ofString "m", PySem.Str.ofString "e"]) ?k1 ?k2 ?k3 ?k4 ?_
  case k1 => k_is
  case k2 => k_is
  case k3 => exact b2 fun _ _ _ => BindsTo.of_eq (binds := [(_, _), (_, _)]) rfl
  case k4 => kernel_rfl!
  rintro κ dp un K rfl rfl O hE hd hu hS
  refine ⟨fun hb => hS 85 [] (.inl ?_), fun hb => ?_⟩
  · have hz : m = 0 := by simpa using hb
    subst hz
    rw [sz_zero]; exact ⟨rfl, rfl, rfl, rfl⟩
  have hz : m ≠ 0 := by simpa using hb
  refine e1_while O (fun k y Z => ∃ m' e' : Int, Z = [] ∧ y = [(PySem.Str.ofString "m", .int m'), (PySem.Str.ofString "e", .int e')] ∧ k = m'.natAbs ∧ m' ≠ 0 ∧ sz m e = sz m' e') ⟨m, e, rfl, rfl, rfl, hz, rfl⟩ ⟨rfl, rfl, trivial⟩ ?_
  rintro k m₁ Z₁ Kb hb1 - - ⟨m', e', rfl, rfl, rfl, hz', hs⟩
  have q1 := fd10 m'
  have q2 := fm10 m'
  refine ⟨by decide, fun hb => ⟨⟨by decide, by decide⟩, ?_⟩, fun hb a vs ep hv _ => ?_⟩
  · have q : Int.fmod m' 10 = 0 := by simpa using hb
    exact hb1 (Int.fdiv m' 10).natAbs _ _ _ (by rw [q1]; (first | lia | omega)) ⟨Int.fdiv m' 10, e' + 1, rfl, rfl, rfl, by rw [q1]; (first | lia | omega), hs.trans (sz_go hz' q)⟩ ⟨rfl, rfl, trivial⟩
  · have q : Int.fmod m' 10 ≠ 0 := by simpa using hb
    rw [hs, sz_stop q] at hS
    obtain ⟨_, _, rfl, ⟨t1, rfl⟩, ⟨t2, rfl⟩⟩ := svs2 hv
    exact hS a _ (.inr ⟨hz', a, t1, t2, ep, rfl, rfl⟩)
theorem rdigT {prog : Program} {w : World} {m e d : Int} (hm : -999 ≤ m ∧ m ≤ 999) (hdd : 9 ≤ d ∧ d ≤ 12) :
    ConT prog w 106 [.int m, .int e, .int d] 4 80 [] (fun K => ∀ a nx, Two (.ref a) (sz m e).1 (sz m e).2 nx → K (.ref a) nx) := by
  refine' conT_v (ns := [PySem.Str.ofString "m", PySem.Str.ofString "e", PySem.Str.ofString "digits"]) ?k1 ?k2 ?k3 ?k4 ?_
  case k1 => k_is
  case k2 => k_is
  case k3 => exact b3 fun _ _ _ _ => BindsTo.of_eq (binds := [(_, _), (_, _), (_, _)]) rfl
  case k4 => kernel_rfl!
  rintro κ dp un K rfl rfl O hE hd hu hS
  refine ca_all O hd hu (countT hm) rfl fun k hk => iff_ (decide_eq_false (by (first | lia | omega))) ?_
  exact ca_all O hd hu (stripT hm) rfl hS
theorem rrealT {prog : Program} {w : World} {m e d : Int} (hm : -999 ≤ m ∧ m ≤ 999) (he : -20 ≤ e ∧ e ≤ 20) (hdd : 9 ≤ d ∧ d ≤ 12) :
    ConT prog w 113 [.int m, .int e, .int d, .int 99] 6 120 [] (fun K => ∀ a nx, Two (.ref a) (sz m e).1 (sz m e).2 nx → K (.ref a) nx) := by
  refine conT_sub ?_
  have hb := sz_all hm he
  refine' conT_v (ns := [PySem.Str.ofString "m", PySem.Str.ofString "e", PySem.Str.ofString "digits", PySem.Str.ofString "top"]) ?k1 ?k2 ?k3 ?k4 ?_
  case k1 => k_is
  case k2 => k_is
  case k3 => exact b4 fun _ _ _ _ _ => BindsTo.of_eq (binds := [(_, _), (_, _), (_, _), (_, _)]) rfl
  case k4 => kernel_rfl!
  rintro κ dp un _ rfl rfl O hE hd hu ⟨K, hS, rfl⟩
  refine ca_all O hd hu (rdigT hm hdd) rfl fun a nx h2 => vun (tup_two h2 fun _ h => h) rfl ?_
  refine ca_nil O hd hu (countT hb.1) rfl fun k hk => ⟨fun hz => ift rfl ?_, fun hz => iff_ (decide_eq_false (by (first | lia | omega))) (iff_ rfl (iff_ (decide_eq_false (by (first | lia | omega))) ?_))⟩
  · have hz : (sz m e).1 = 0 := by simpa using hz
    rcases h2 with ⟨_, q2, q3, rfl⟩ | ⟨q, _⟩
    · exact ⟨[], fun _ h => (nomatch h), hS 85 [] (.inl ⟨hz, q2, rfl, rfl⟩)⟩
    · exact absurd hz q
  · have hz : (sz m e).1 ≠ 0 := by simpa using hz
    intro b vs ep hv _
    obtain ⟨_, _, rfl, ⟨t1, rfl⟩, ⟨t2, rfl⟩⟩ := svs2 hv
    exact ⟨[(b, tupO [.int (sz m e).1 t1, .int (sz m e).2 t2] ep)], fun p hp => by rw [List.mem_singleton.mp hp]; exact .head _, hS b _ (.inr ⟨hz, b, t1, t2, ep, rfl, rfl⟩)⟩
theorem cexpT {prog : Program} {w : World} {A B : List Nat} {c : Nat} (hA : ∀ x ∈ A, x ≠ 69 ∧ x ≠ 68 ∧ x ≠ 43 ∧ x ≠ 45) (hc : c = 69 ∨ c = 68) (hlen : (A ++ c :: B).length ≤ 1000) :
    ConT prog w 162 [.str (A ++ c :: B)] 2 40 [] (fun K => ∀ a vs ep, SVs [.str A, .str B, .bool true] vs → K (.ref a) [(a, tupO vs ep)]) := by
  refine conT_sub ?_
  generalize hl : A ++ c :: B = l at hlen
  refine' conT_v (ns := [PySem.Str.ofString "text"]) ?k1 ?k2 ?k3 ?k4 ?_
  case k1 => k_is
  case k2 => k_is
  case k3 => exact b1 fun _ _ => BindsTo.of_eq (binds := [(_, _)]) rfl
  case k4 => kernel_rfl!
  rintro κ dp un _ rfl rfl O hE hd hu ⟨K, hS, rfl⟩
  have hAl : A.length < l.length := by rw [← hl]; simp
  refine e1_forRange (n := l.length) O (fun i m Z => Z = [] ∧ i ≤ A.length ∧ m = [(PySem.Str.ofString "text", .str l)]) (by kernel_rfl!) (by (first | lia | omega)) (ca_len (by (first | lia | omega)) ⟨rfl, rfl, Nat.zero_le _, rfl⟩) ⟨rfl, trivial⟩ ?_ ?_
  · rintro i m₁ Z₁ I oI hi hI ⟨rfl, hiA, rfl⟩
    have hix : (l.length ≤ 4000000 ∧ (0 : Int) ≤ (i : Int) ∧ (i : Int) < (l.length : Int)) := ⟨by (first | lia | omega), by (first | lia | omega), by (first | lia | omega)⟩
    rcases Nat.lt_or_eq_of_le hiA with hlt | rfl
    · have hx : l.getD (Int.toNat (i : Int)) 0 ∈ A := by
        rw [← hl, Int.toNat_natCast, List.getD_eq_getElem?_getD, List.getElem?_append_left hlt, List.getElem?_eq_getElem hlt]
        exact List.getElem_mem hlt
      obtain ⟨x1, x2, x3, x4⟩ := hA _ hx
      have ne : ∀ {y : Nat}, l.getD (Int.toNat (i : Int)) 0 ≠ y → ([l.getD (Int.toNat (i : Int)) 0] == [y]) = false := fun q => by simpa using q
      refine ⟨hix, iff_ (ne x1) ⟨hix, iff_ (ne x2) (iff_ rfl ⟨hix, iff_ (ne x3) ⟨hix, iff_ (ne x4) (iff_ rfl ?_)⟩⟩)⟩⟩
      exact ⟨_, [], ⟨rfl, hlt, rfl⟩, ⟨rfl, trivial⟩, rfl, fun _ h => nomatch h⟩
    · have hx : l.getD (Int.toNat (A.length : Int)) 0 = c := by
        rw [← hl, Int.toNat_natCast, List.getD_eq_getElem?_getD, List.getElem?_append_right (Nat.le_refl _), Nat.sub_self]
        rfl
      have z1 : l.take (Int.toNat (A.length : Int)) = A := by rw [← hl, Int.toNat_natCast, List.take_left']; rfl
      have z2 : l.drop (Int.toNat ((A.length : Int) + 1)) = B := by
        rw [← hl, show Int.toNat ((A.length : Int) + 1) = A.length + 1 by (first | lia | omega)]
        simp
      have fin : ∀ (Z : Ld) a vs ep, SVs [.str (l.take (Int.toNat (A.length : Int))), .str (l.drop (Int.toNat ((A.length : Int) + 1))), .bool true] vs → SubK K (.ref a) ((a, tupO vs ep) :: Z) := fun Z a vs ep hv => ⟨[(a, tupO vs ep)], fun p hp => by rw [List.mem_singleton.mp hp]; exact .head _, hS a vs ep (by rw [z1, z2] at hv; exact hv)⟩
      have h4 : l.length ≤ 4000000 ∧ (0 : Int) ≤ (A.length : Int) := ⟨by (first | lia | omega), by (first | lia | omega)⟩
      have h5 : l.length ≤ 4000000 ∧ (0 : Int) ≤ (A.length : Int) + 1 := ⟨by (first | lia | omega), by (first | lia | omega)⟩
      rcases hc with rfl | rfl
      · exact ⟨hix, ift (by rw [hx]; rfl) (ift rfl ⟨h4, h5, fun a vs ep hv _ => fin _ a vs ep hv⟩)⟩
      · exact ⟨hix, iff_ (by rw [hx]; rfl) ⟨hix, ift (by rw [hx]; rfl) (ift rfl ⟨h4, h5, fun a vs ep hv _ => fin _ a vs ep hv⟩)⟩⟩
  · rintro m₁ Z₁ ⟨rfl, hiA, rfl⟩
    (first | lia | omega)
theorem fexpT {prog : Program} {w : World} {l : List Nat} (hne : (csg l).2 ≠ []) (hdg : Dig (csg l).2) (hlen : l.length ≤ 1000) (hvb : valD (csg l).2 ≤ 100000) :
    ConT prog w 169 [.str l] 6 100 [] (fun K => K (.int ((csg l).1 * valD (csg l).2)) []) := by
  refine conT_sub ?_
  have hv := valD_nonneg hdg
  obtain ⟨hs0, hs1⟩ := csg_one l
  refine' conT_v (ns := [PySem.Str.ofString "text"]) ?k1 ?k2 ?k3 ?k4 ?_
  case k1 => k_is
  case k2 => k_is
  case k3 => exact b1 fun _ _ => BindsTo.of_eq (binds := [(_, _)]) rfl
  case k4 => kernel_rfl!
  rintro κ dp un _ rfl rfl O hE hd hu ⟨K, hS, rfl⟩
  refine ca_all O hd hu (csignT hlen) rfl fun a vs ep hv1 => vun (tup_mem hv1 (.head _)) rfl ?_
  exact ca_nil O hd hu (wholeT hne hdg) rfl (iff_ (decide_eq_false (by (first | lia | omega))) ⟨by mul_fits, [], fun _ h => (nomatch h), hS⟩)
theorem rfigT {prog : Program} {w : World} {A ds : List Nat} (hA : A = ds ∨ A = ds ++ [46]) (hne : ds ≠ []) (hdg : Dig ds) (hlen : A.length ≤ 1000) :
    ConT prog w 176 [.str A, .int 0] 6 100 [] (fun K => ∀ a vs ep, SVs [.int (valD ds), .int 0] vs → K (.ref a) [(a, tupO vs ep)]) := by
  have hv := valD_nonneg hdg
  have hpt : 46 ∉ ds := fun q => by have := hdg _ q; (first | lia | omega)
  refine' conT_v (ns := [PySem.Str.ofString "text", PySem.Str.ofString "d"]) ?k1 ?k2 ?k3 ?k4 ?_
  case k1 => k_is
  case k2 => k_is
  case k3 => exact b2 fun _ _ _ => BindsTo.of_eq (binds := [(_, _), (_, _)]) rfl
  case k4 => kernel_rfl!
  rintro κ dp un K rfl rfl O hE hd hu hS
  refine ev_find O rfl ⟨_, rfl, _, rfl, ?_⟩
  rcases hA with rfl | rfl
  · rw [find_none hpt]
    exact ift rfl (ca_all O hd hu (wholeT hne hdg) rfl (iff_ (decide_eq_false (by (first | lia | omega))) fun a vs ep hv _ => hS a vs ep hv))
  · rw [find_at hpt]
    have z1 : (ds ++ [46]).take (Int.toNat (ds.length : Int)) ++ (ds ++ [46]).drop (Int.toNat ((ds.length : Int) + 1)) = ds := by
      rw [show Int.toNat ((ds.length : Int) + 1) = ds.length + 1 by (first | lia | omega), Int.toNat_natCast]
      simp
    have z2 : ((ds ++ [46]).length : Int) - (ds.length : Int) - 1 = 0 := by rw [List.length_append]; simp; (first | lia | omega)
    refine iff_ (decide_eq_false (by (first | lia | omega))) ⟨⟨by (first | lia | omega), by (first | lia | omega)⟩, ⟨by (first | lia | omega), by (first | lia | omega)⟩, ?_, ca_len (by (first | lia | omega)) ?_⟩
    · have z0 := congrArg List.length z1
      rw [List.length_append] at z0 hlen
      (first | lia | omega)
    rw [z1]
    exact ca_all O hd hu (wholeT hne hdg) rfl (iff_ (decide_eq_false (by (first | lia | omega))) fun a vs ep hv _ => hS a vs ep (by rw [z2] at hv; exact hv))
end
section
open PySem PySem.W PySem.Calls PyProof.Rows
example : ∀ (w : World), (Mine.kk.heap_1 w.params).In default → PySem.Challenge.rw_no0260_01 = PySem.Challenge.rw_no0260_01 → True := by
  k_fill
  intros; trivial
theorem inwT {prog : Program} {w : World} {n : Int} (hn : -1000 ≤ n ∧ n ≤ 1000) :
    ConT prog w 148 [.int n, .int 16] 2 40 [] (fun K => K (.bool true) []) := by
  refine' conT_v (ns := [PySem.Str.ofString "number", PySem.Str.ofString "width"]) ?k1 ?k2 ?k3 ?k4 ?_
  case k1 => k_is
  case k2 => k_is
  case k3 => exact b2 fun _ _ _ => BindsTo.of_eq (binds := [(_, _), (_, _)]) rfl
  case k4 => kernel_rfl!
  rintro κ dp un K rfl rfl O hE hd hu hS
  refine op_shl ⟨⟨by decide, by decide⟩, by decide⟩ (ev_chain O rfl ⟨fun _ => ?_, fun h => absurd (of_decide_eq_false h) (by show ¬ ¬ (-32768 : Int) ≤ n; (first | lia | omega))⟩)
  rw [← show decide (n < 1 * 2 ^ ((16 : Int) - 1).toNat) = true from decide_eq_true (by show n < 32768; (first | lia | omega))] at hS
  exact hS
theorem rintT {prog : Program} {w : World} {l : List Nat} {n : Int} (hl : IntT l n) :
    ConT prog w 155 [.str l, .bool false, .int 16] 6 120 [] (fun K => K (.int n) []) := by
  obtain ⟨h0, h1, h2, h3, h4, h5, h6⟩ := hl
  refine conT_sub ?_
  have hv := valD_nonneg h2
  obtain ⟨hs0, hs1⟩ := csg_one l
  refine' conT_v (ns := [PySem.Str.ofString "field", PySem.Str.ofString "is_zero", PySem.Str.ofString "width"]) ?k1 ?k2 ?k3 ?k4 ?_
  case k1 => k_is
  case k2 => k_is
  case k3 => exact b3 fun _ _ _ _ => BindsTo.of_eq (binds := [(_, _), (_, _), (_, _)]) rfl
  case k4 => kernel_rfl!
  rintro κ dp un _ rfl rfl O hE hd hu ⟨K, hS, rfl⟩
  refine ca_all O hd hu (solidT h3 h4) rfl (iff_ (by simpa using h0) ?_)
  refine ca_all O hd hu (csignT h4) rfl fun a vs ep hv1 => vun (tup_mem hv1 (.head _)) rfl ?_
  refine ca_nil O hd hu (wholeT h1 h2) rfl (iff_ (decide_eq_false (by (first | lia | omega))) ⟨by mul_fits, ?_⟩)
  rw [← h5]
  refine ca_nil O hd hu (inwT h6) rfl (iff_ rfl ⟨by mul_fits, [], fun _ h => (nomatch h), ?_⟩)
  rw [← h5]
  exact hS
theorem rlogT {prog : Program} {w : World} {l : List Nat} {b : Bool} (hl : LogT l b) :
    ConT prog w 190 [.str l] 2 40 [] (fun K => K (.bool b) []) := by
  have hc : l.length ≤ 100 ∧ 0 < (l.length : Int) ∧ ([l.getD (Int.toNat 0) 0] == [32]) = false := by rcases hl with ⟨rfl, rfl⟩ | ⟨rfl, rfl⟩ | ⟨rfl, rfl⟩ | ⟨rfl, rfl⟩ <;> decide
  obtain ⟨c1, c2, c3⟩ := hc
  refine' conT_v (ns := [PySem.Str.ofString "field"]) ?k1 ?k2 ?k3 ?k4 ?_
  case k1 => k_is
  case k2 => k_is
  case k3 => exact b1 fun _ _ => BindsTo.of_eq (binds := [(_, _)]) rfl
  case k4 => kernel_rfl!
  rintro κ dp un K rfl rfl O hE hd hu hS
  refine e1_while O (fun k m Z => Z = [] ∧ k = 0 ∧ m = [(PySem.Str.ofString "field", .str l), (PySem.Str.ofString "at", .int 0)]) (n₀ := 0) ⟨rfl, rfl, rfl⟩ ⟨rfl, rfl, trivial⟩ ?_
  rintro k m₁ Z₁ Kb - - - ⟨rfl, rfl, rfl⟩
  have q0 : l.length ≤ 4000000 ∧ (0 : Int) ≤ 0 ∧ (0 : Int) ≤ 0 + 1 := ⟨by (first | lia | omega), by decide, by decide⟩
  have q1 : l.length ≤ 4000000 ∧ (0 : Int) ≤ 0 + 1 ∧ (0 + 1 : Int) ≤ 0 + 1 + 1 := ⟨by (first | lia | omega), by decide, by decide⟩
  refine ca_len (by (first | lia | omega)) (ift (decide_eq_true c2) ⟨⟨by (first | lia | omega), by decide, c2⟩, iff_ c3 (iff_ rfl ?_)⟩)
  rcases hl with ⟨rfl, rfl⟩ | ⟨rfl, rfl⟩ | ⟨rfl, rfl⟩ | ⟨rfl, rfl⟩
  · exact ⟨q0, iff_ rfl ⟨q0, ift rfl hS⟩⟩
  · exact ⟨q0, ift rfl ⟨q1, iff_ rfl ⟨q1, ift rfl hS⟩⟩⟩
  · exact ⟨q0, ift rfl ⟨q1, ift rfl hS⟩⟩
  · exact ⟨q0, iff_ rfl ⟨q0, iff_ rfl ⟨q0, ift rfl hS⟩⟩⟩
theorem rtextT {prog : Program} {w : World} {l : List Nat} {m e d : Int} (hl : RealT l m e) (hdd : 9 ≤ d ∧ d ≤ 12) :
    ConT prog w 183 [.str l, .int 0, .int 0, .bool false, .int d, .int 99] 12 260 [] (fun K => ∀ a nx, Two (.ref a) (sz m e).1 (sz m e).2 nx → K (.ref a) nx) := by
  obtain ⟨A, c, B, ds, hsp, h2, h3, h4, h5, h6, h7, h8, h9, hm, he, hm1, he1⟩ := hl
  refine conT_sub ?_
  subst hm he
  have hcl : (csg l).2.length ≤ 1000 := Nat.le_trans (csg_len l) h9
  have hcA : A.length ≤ 1000 := by rw [hsp, List.length_append] at hcl; (first | lia | omega)
  have hcB : B.length ≤ 1000 := by rw [hsp, List.length_append, List.length_cons] at hcl; (first | lia | omega)
  have hv := valD_nonneg h5
  obtain ⟨hs0, hs1⟩ := csg_one l
  have hvb : valD (csg B).2 ≤ 100000 := Int.le_trans (val_le he1) (by decide)
  have hvm : valD ds ≤ 100000 := Int.le_trans (val_le hm1) (by decide)
  have hA : ∀ x ∈ A, x ≠ 69 ∧ x ≠ 68 ∧ x ≠ 43 ∧ x ≠ 45 := noexp h3 h5
  have hne : l ≠ [] := by rintro rfl; induction A <;> rcases hsp with _ | _
  have hce := @cexpT prog w A B c hA h2 (by rw [← hsp]; exact hcl)
  rw [← hsp] at hce
  refine' conT_v (ns := [PySem.Str.ofString "field", PySem.Str.ofString "d", PySem.Str.ofString "scale", PySem.Str.ofString "is_zero", PySem.Str.ofString "digits", PySem.Str.ofString "top"]) ?k1 ?k2 ?k3 ?k4 ?_
  case k1 => k_is
  case k2 => k_is
  case k3 => exact b6 fun _ _ _ _ _ _ _ => BindsTo.of_eq (binds := [(_, _), (_, _), (_, _), (_, _), (_, _), (_, _)]) rfl
  case k4 => kernel_rfl!
  rintro κ dp un _ rfl rfl O hE hd hu ⟨K, hS, rfl⟩
  refine ca_all O hd hu (solidT h8 h9) rfl (iff_ (by simpa using hne) ?_)
  refine ca_all O hd hu (csignT h9) rfl fun a vs ep hv1 => vun (tup_mem hv1 (.head _)) rfl ?_
  refine ca_nil O hd hu hce rfl fun a2 vs2 ep2 hv2 => vun (tup_mem hv2 (.head _)) rfl ?_
  refine ca_con (rest := []) O hd hu (rfigT h3 h4 h5 hcA) rfl (fun _ h => nomatch h) (fun _ h => nomatch h) fun a3 vs3 ep3 hv3 => vun (tup_mem hv3 (.head _)) rfl ?_
  refine ift rfl (ca_con (rest := []) O hd hu (fexpT h6 h7 hcB hvb) rfl (fun _ h => nomatch h) (fun _ h => nomatch h) ?_)
  refine e1_try O hE ⟨by mul_fits, ?_⟩
  rw [Int.sub_zero]
  refine ca_con (rest := []) O hd hu (rrealT hm1 he1 hdd) rfl (fun _ h => nomatch h) (fun _ h => nomatch h) fun a4 nx h4' => ⟨nx, fun p hp => List.mem_append_left _ hp, hS a4 nx h4'⟩
theorem lm_off {w : World} {c : LM} {p : Addr × Obj} (h : p.2.cls = .type "tuple") : p ∉ c.led w := by
  intro q
  unfold LM.led at q
  rcases List.mem_cons.mp q with rfl | q
  · cases h
  · rw [List.mem_singleton.mp q] at h
    injection h with h
    exact absurd h (by decide)
theorem two_cls {v : Value} {m e : Int} {nx : Ld} (h : Two v m e nx) : ∀ p ∈ nx, p.2.cls = .type "tuple" := by
  rcases h with ⟨_, _, _, rfl⟩ | ⟨_, a, t1, t2, ep, _, rfl⟩
  · exact fun _ h => nomatch h
  · intro p hp; rw [List.mem_singleton.mp hp]
theorem prealT {prog : Program} {w : World} {c : LM} {l : List Nat} {m e k : Int} (hl : RealT l m e) (hk : k = 1 ∨ k = 2) :
    ConT prog w 297 [.str l, .int k, .ref c.a] 14 320 (c.led w) (fun K => ∀ a nx, Two (.ref a) (sz m e).1 (sz m e).2 nx → K (.ref a) (nx ++ c.led w)) := by
  have hne := realT_ne hl
  refine' conT_v (ns := [PySem.Str.ofString "run", PySem.Str.ofString "kind", PySem.Str.ofString "limits"]) ?k1 ?k2 ?k3 ?k4 ?_
  case k1 => k_is
  case k2 => k_is
  case k3 => exact b3 fun _ _ _ _ => BindsTo.of_eq (binds := [(_, _), (_, _), (_, _)]) rfl
  case k4 => kernel_rfl!
  rintro κ dp un K rfl rfl O hE hd hu hS
  refine iff_ (by simpa using hne) ?_
  refine ca_all O hd hu (digofT hk) rfl fun d hdd => vat (at_top fun _ h => h) ?_
  exact ca_nil O hd hu (rtextT hl hdd) rfl fun a nx h => hS a nx h
noncomputable def K.svs : K → List SV
  | .txt V => [.str [116, 101, 120, 116], .str V]
  | .pair a b => [.str [112, 97, 105, 114], .str a, .str b]
  | .run a => [.str [114, 117, 110], .str a]
theorem isO_vs {k : K} {o : Obj} (h : k.IsO o) : ∃ vs ep, o = tupO vs ep ∧ SVs k.svs vs := by
  induction k
  · obtain ⟨t0, t1, ep, rfl⟩ := h; exact ⟨[_, _], ep, rfl, ⟨t0, rfl⟩, ⟨t1, rfl⟩, trivial⟩
  · obtain ⟨t0, t1, t2, ep, rfl⟩ := h; exact ⟨[_, _, _], ep, rfl, ⟨t0, rfl⟩, ⟨t1, rfl⟩, ⟨t2, rfl⟩, trivial⟩
  · obtain ⟨t0, t1, ep, rfl⟩ := h; exact ⟨[_, _], ep, rfl, ⟨t0, rfl⟩, ⟨t1, rfl⟩, trivial⟩
theorem isO_of {k : K} {vs : List Value} {ep : Nat} (h : SVs k.svs vs) : k.IsO (tupO vs ep) := by
  induction k
  · obtain ⟨_, _, rfl, ⟨t0, rfl⟩, ⟨t1, rfl⟩⟩ := svs2 h; exact ⟨t0, t1, ep, rfl⟩
  · obtain ⟨_, _, _, rfl, ⟨t0, rfl⟩, ⟨t1, rfl⟩, ⟨t2, rfl⟩⟩ := svs3 h; exact ⟨t0, t1, t2, ep, rfl⟩
  · obtain ⟨_, _, rfl, ⟨t0, rfl⟩, ⟨t1, rfl⟩⟩ := svs2 h; exact ⟨t0, t1, ep, rfl⟩
theorem valueT {prog : Program} {w : World} {c : LM} {k : K} {x : Wt} {kind len : Int} {a : Nat} {o : Obj} (hv : Val kind len k x) (ho : k.IsO o) :
    ConT prog w 311 [.ref a, .int kind, .int len, .ref c.a] 18 420 ((a, o) :: c.led w) (fun K => ∀ sv u nx, SV.Is sv u → IsW x u nx → K sv (nx ++ (a, o) :: c.led w)) := by
  refine conT_sub ?_
  have hoff : (a, o) ∉ c.led w := lm_off (K.cls ho)
  obtain ⟨vs, ep, rfl, hvs⟩ := isO_vs ho
  refine' conT_v (ns := [PySem.Str.ofString "constant", PySem.Str.ofString "kind", PySem.Str.ofString "length", PySem.Str.ofString "limits"]) ?k1 ?k2 ?k3 ?k4 ?_
  case k1 => k_is
  case k2 => k_is
  case k3 => exact b4 fun _ _ _ _ _ => BindsTo.of_eq (binds := [(_, _), (_, _), (_, _), (_, _)]) rfl
  case k4 => kernel_rfl!
  rintro κ dp un _ rfl rfl O hE hd hu ⟨K, hS, rfl⟩
  have at0 : ∀ Z, (a, tupO vs ep) ∈ Z → TupAt κ Z a k.svs := fun Z h => tup_mem hvs h
  have hr : ∀ p ∈ [(a, tupO vs ep)], p ∈ (a, tupO vs ep) :: c.led κ.w ∧ p ∉ c.led κ.w := fun p hp => by rw [List.mem_singleton.mp hp]; exact ⟨.head _, hoff⟩
  have fin : ∀ sv u nx, SV.Is sv u → IsW x u nx → SubK K sv ((nx ++ c.led κ.w) ++ [(a, tupO vs ep)]) := fun sv u nx h1 h2 => ⟨_, fun p hp => by
    rcases List.mem_append.mp hp with hp | hp
    · exact List.mem_append_left _ (List.mem_append_left _ hp)
    · rcases List.mem_cons.mp hp with rfl | hp
      · exact List.mem_append_right _ (.head _)
      · exact List.mem_append_left _ (List.mem_append_right _ hp), hS sv u nx h1 h2⟩
  have same : ∀ sv u, SV.Is sv u → IsW x u [] → SubK K sv ((a, tupO vs ep) :: c.led κ.w) := fun sv u h1 h2 => ⟨_, fun _ hp => hp, hS sv u [] h1 h2⟩
  induction k <;> induction x <;> try exact hv.elim
  · obtain ⟨rfl, hl, hV, rfl⟩ := hv
    refine vit_tup O rfl (at0 _ (.head _)) ⟨by decide, by decide⟩ rfl (ift rfl (ift rfl (ift rfl ?_)))
    refine vit_tup O rfl (at0 _ (.head _)) ⟨by decide, by decide⟩ rfl ?_
    exact ca_nil O hd hu (fittedT hV hl) rfl (same _ _ ⟨0, rfl⟩ ⟨⟨0, rfl⟩, rfl⟩)
  · obtain ⟨rfl, m, e, m', e', h1, h2, rfl, rfl, rfl, rfl⟩ := hv
    refine vit_tup O rfl (at0 _ (.head _)) ⟨by decide, by decide⟩ rfl (iff_ rfl (iff_ rfl (ift rfl (ift rfl (ift rfl ?_)))))
    refine vit_tup O rfl (at0 _ (.head _)) ⟨by decide, by decide⟩ rfl ?_
    refine ca_con (rest := [(a, tupO vs ep)]) O hd hu (prealT (c := c) h1 (.inl rfl)) rfl (fun p hp => .tail _ hp) hr fun b1 n1 q1 => ?_
    refine vit_tup O rfl (at0 _ (List.mem_append_right _ (.head _))) ⟨by decide, by decide⟩ rfl ?_
    refine ca_con (rest := n1 ++ [(a, tupO vs ep)]) O hd hu (prealT (c := c) h2 (.inl rfl)) rfl (fun p hp => List.mem_append_left _ (List.mem_append_right _ hp)) (fun p hp => ?_) fun b2 n2 q2 => ?_
    · rcases List.mem_append.mp hp with hp | hp
      · exact ⟨List.mem_append_left _ (List.mem_append_left _ hp), lm_off (two_cls q1 p hp)⟩
      · exact ⟨List.mem_append_right _ hp, (hr p hp).2⟩
    · intro b3 vs3 ep3 hv3 _
      obtain ⟨_, _, rfl, rfl, rfl⟩ := svs2 hv3
      refine ⟨_, fun p hp => ?_, hS (.ref b3) _ _ rfl ⟨b3, ep3, _, _, n1, n2, rfl, q1, q2, rfl⟩⟩
      simp only [List.mem_append, List.mem_cons, List.not_mem_nil, or_false] at hp ⊢
      rcases hp with (hp | hp | hp) | hp | hp <;> simp [hp]
  · obtain ⟨rfl, hl⟩ := hv
    refine vit_tup O rfl (at0 _ (.head _)) ⟨by decide, by decide⟩ rfl (iff_ rfl (iff_ rfl (iff_ rfl (iff_ rfl (ift rfl (ift rfl (ift rfl ?_)))))))
    refine vit_tup O rfl (at0 _ (.head _)) ⟨by decide, by decide⟩ rfl (vat (at_width fun _ h => .tail _ h) ?_)
    exact ca_nil O hd hu (rintT hl) rfl (same _ _ ⟨0, rfl⟩ ⟨⟨0, rfl⟩, rfl⟩)
  · obtain ⟨rfl, hl⟩ := hv
    refine vit_tup O rfl (at0 _ (.head _)) ⟨by decide, by decide⟩ rfl (iff_ rfl (iff_ rfl (iff_ rfl (iff_ rfl (iff_ rfl (iff_ rfl (ift rfl (ift rfl (ift rfl ?_)))))))))
    refine vit_tup O rfl (at0 _ (.head _)) ⟨by decide, by decide⟩ rfl ?_
    exact ca_nil O hd hu (rlogT hl) rfl (same _ _ rfl ⟨rfl, rfl⟩)
  · obtain ⟨hk, m, e, h1, rfl, rfl⟩ := hv
    have ne : (kind == 5) = false ∧ (kind == 3) = false ∧ (kind == 0) = false ∧ (kind == 4) = false := by rcases hk with rfl | rfl <;> decide
    refine vit_tup O rfl (at0 _ (.head _)) ⟨by decide, by decide⟩ rfl (iff_ ne.1 (iff_ rfl (iff_ ne.2.1 (iff_ rfl (iff_ ne.2.2.1 (iff_ rfl (iff_ ne.2.2.2 (iff_ rfl ?_))))))))
    rcases hk with rfl | rfl
    · refine ift rfl (ift rfl (ift rfl (ift rfl (vit_tup O rfl (at0 _ (.head _)) ⟨by decide, by decide⟩ rfl ?_))))
      exact ca_con (rest := [(a, tupO vs ep)]) O hd hu (prealT (c := c) h1 (.inl rfl)) rfl (fun p hp => .tail _ hp) hr fun b nx q => fin _ _ _ rfl q
    · refine iff_ rfl (ift rfl (ift rfl (ift rfl (ift rfl (vit_tup O rfl (at0 _ (.head _)) ⟨by decide, by decide⟩ rfl ?_)))))
      exact ca_con (rest := [(a, tupO vs ep)]) O hd hu (prealT (c := c) h1 (.inr rfl)) rfl (fun p hp => .tail _ hp) hr fun b nx q => fin _ _ _ rfl q
end
section
open PySem PySem.W PySem.Calls PyProof.Rows
example : ∀ (w : World), (Mine.kk.heap_1 w.params).In default → PySem.Challenge.rw_no0260_01 = PySem.Challenge.rw_no0260_01 → True := by
  k_fill
  intros; trivial
theorem led_off {w : World} {c : RC} {σ : RS} {p : Addr × Obj} (h : p.2.cls = .type "tuple") : p ∉ c.led w σ := by
  intro q
  unfold RC.led at q
  simp only [List.mem_cons, List.not_mem_nil, or_false] at q
  rcases q with rfl | rfl | rfl | rfl | rfl
  · cases h
  · injection h with h; exact absurd h (by decide)
  · cases h
  · injection h with h; exact absurd h (by decide)
  · injection h with h; exact absurd h (by decide)
theorem constT {prog : Program} {w : World} {c : RC} {σ : RS} {y r : List Nat} {k : K} (hR : Rd c σ y) (hk : Kon y k r) :
    ConT prog w 283 [.ref c.r] 20 320 (c.led w σ) (fun K => ∀ a o σ', k.IsO o → Rd c σ' r → Mv σ σ' → K (.ref a) ((a, o) :: c.led w σ')) := by
  refine conT_sub ?_
  refine' conT_v (ns := [PySem.Str.ofString "reader"]) ?k1 ?k2 ?k3 ?k4 ?_
  case k1 => k_is
  case k2 => k_is
  case k3 => exact b1 fun _ _ => BindsTo.of_eq (binds := [(_, _)]) rfl
  case k4 => kernel_rfl!
  rintro κ dp un _ rfl rfl O - hd hu ⟨K, hS, rfl⟩
  refine ca_all O hd hu (signT hR) rfl ?_
  rcases hk with _ | _
  case txt r0 V h hs =>
    refine ift rfl (ca_all O hd hu (quotedT hR h) rfl fun σ1 hR1 hM1 a vs ep hv _ => ?_)
    refine ca_con (rest := [(a, tupO vs ep)]) O hd hu (signT hR1) rfl (fun p hp => .tail _ hp) (fun p hp => by rw [List.mem_singleton.mp hp]; exact ⟨.head _, led_off rfl⟩) ⟨.inl rfl, iff_ (by show (!(sepB (sg r))) = false; rw [hs]; rfl) ?_⟩
    exact ⟨(a, tupO vs ep) :: c.led κ.w σ1, fun p hp => (List.mem_cons.mp hp).elim (fun e => e ▸ List.mem_append_right _ (.head _)) (List.mem_append_left _), hS a _ σ1 (isO_of (k := .txt V) hv) hR1 hM1⟩
  case pair r0 r3 h1 h2 h3 hs =>
    refine iff_ rfl (ift rfl (ca_all O hd hu (pairT hR h1 h2 h3) rfl fun a vs ep σ1 hv hR1 hM1 => ?_))
    refine ca_con (rest := [(a, tupO vs ep)]) O hd hu (signT hR1) rfl (fun p hp => .tail _ hp) (fun p hp => by rw [List.mem_singleton.mp hp]; exact ⟨.head _, led_off rfl⟩) ⟨.inl rfl, iff_ (by show (!(sepB (sg r))) = false; rw [hs]; rfl) ?_⟩
    exact ⟨(a, tupO vs ep) :: c.led κ.w σ1, fun p hp => (List.mem_cons.mp hp).elim (fun e => e ▸ List.mem_append_right _ (.head _)) (List.mem_append_left _), hS a _ σ1 (isO_of (k := .pair _ _) hv) hR1 hM1⟩
  case run h1 h2 =>
    refine iff_ (by simpa using h1) (iff_ (by simpa using h2) (ca_all O hd hu (runT hR (.inl rfl)) rfl fun σ1 hR1 hM1 a vs ep hv _ => ?_))
    refine ca_con (rest := [(a, tupO vs ep)]) O hd hu (signT hR1) rfl (fun p hp => .tail _ hp) (fun p hp => by rw [List.mem_singleton.mp hp]; exact ⟨.head _, led_off rfl⟩) ⟨.inl rfl, iff_ (by show (!(sepB _)) = false; rw [sep_after y]; rfl) ?_⟩
    exact ⟨(a, tupO vs ep) :: c.led κ.w σ1, fun p hp => (List.mem_cons.mp hp).elim (fun e => e ▸ List.mem_append_right _ (.head _)) (List.mem_append_left _), hS a _ σ1 (isO_of (k := .run _) hv) hR1 hM1⟩
theorem cut2 {C X G : Prop} (main : (C → X) → G) (f : C → X) : G := main f
theorem repeatT {prog : Program} {w : World} {c : RC} {σ : RS} {rest : List Nat} (hR : Rd c σ rest) (hk : 1 ≤ (rp rest).1) :
    ConT prog w 262 [.ref c.r] 6 120 (c.led w σ) (fun K => ∀ σ', Rd c σ' (rp rest).2 → Mv σ σ' → K (.int (rp rest).1) (c.led w σ')) := by
  have ho := hR.ord
  have hcol0 := hR.col0
  have hcol1 := hR.col1
  have hlen := hR.len
  have htot := hR.tot
  obtain ⟨D, hD⟩ : ∃ D, σ.record.drop σ.col.toNat = D := ⟨_, rfl⟩
  have hDl : (D.length : Int) = σ.record.length - σ.col := by rw [← hD, List.length_drop]; (first | lia | omega)
  obtain ⟨tl, hrest, htl, hmove⟩ := hR.parts
  rw [hD] at hrest
  obtain ⟨tw1, tw2⟩ := tw_app (D := D) htl
  rw [← hrest] at tw1 tw2
  refine' conT_v (ns := [PySem.Str.ofString "reader"]) ?k1 ?k2 ?k3 ?k4 ?_
  case k1 => k_is
  case k2 => k_is
  case k3 => exact b1 fun _ _ => BindsTo.of_eq (binds := [(_, _)]) rfl
  case k4 => kernel_rfl!
  rintro κ dp un K rfl rfl O - hd hu hS
  have none : rp rest = (1, rest) → K (.int 1) (c.led κ.w σ) := fun e => by rw [e] at hS; exact hS σ hR (.rfl' σ)
  refine vat (at_record fun _ h => h) (vat (at_col fun _ h => h) ?_)
  refine e1_while O (fun n m Z => Z = c.led κ.w σ ∧ ∃ (k : Nat) (p : Int), m = [(PySem.Str.ofString "reader", .ref c.r), (PySem.Str.ofString "record", .str σ.record), (PySem.Str.ofString "at", .int p)] ∧ p = σ.col + (k : Int) ∧ n = D.length - k ∧ k ≤ D.length ∧ D.takeWhile dig = D.take k ++ (D.drop k).takeWhile dig) ⟨rfl, 0, σ.col, rfl, by (first | lia | omega), rfl, Nat.zero_le _, by simp⟩ ⟨rfl, rfl, rfl, trivial⟩ ?_
  rintro n m₁ Z₁ Kb hb1 - - ⟨rfl, k, p, rfl, hp, rfl, hkl, htw⟩
  have go : p < σ.record.length → dig (σ.record.getD p.toNat 0) = true → k + 1 ≤ D.length ∧ D.takeWhile dig = D.take (k + 1) ++ (D.drop (k + 1)).takeWhile dig := rep_go hD hp hcol0 htw
  refine cut2 (C := ¬ p < σ.record.length ∨ dig (σ.record.getD p.toNat 0) = false) (fun fin => ca_len (by (first | lia | omega)) ⟨fun h1 => ⟨⟨by (first | lia | omega), by (first | lia | omega), of_decide_eq_true h1⟩, ⟨rfl, rfl⟩, fun h2 => ift rfl (hb1 (D.length - (k + 1)) _ _ _ (by have := (go (of_decide_eq_true h1) h2).1; (first | lia | omega)) ⟨rfl, k + 1, p + 1, rfl, by (first | lia | omega), rfl, go (of_decide_eq_true h1) h2⟩ ⟨rfl, rfl, rfl, trivial⟩), fun h2 => iff_ rfl (fin (.inr h2))⟩, fun h1 => iff_ rfl (fin (.inl (of_decide_eq_false h1)))⟩) fun hend => ?_
  obtain ⟨e1, e2⟩ := tw_split htw hkl (rep_end hD hp hcol0 hend)
  have e1 := tw1.trans e1
  rw [e2] at tw2
  have htake : (σ.record.drop σ.col.toNat).take (p - σ.col).toNat = D.take k := by rw [hD]; congr 1; (first | lia | omega)
  have hdrop : σ.record.drop p.toNat = D.drop k := by rw [← hD, List.drop_drop]; congr 1; (first | lia | omega)
  have hcut : (List.take (p + 1 - p).toNat (List.drop p.toNat σ.record)) = (D.drop k).take 1 := by rw [hdrop]; congr 1; (first | lia | omega)
  refine vat (at_col fun _ h => h) ⟨fun hq => ift rfl (none (rp_no (.inl ?_))), fun hq => ⟨⟨by (first | lia | omega), by (first | lia | omega), by (first | lia | omega)⟩, fun hs => ift rfl (none (rp_no (.inr ?_))), fun hs => iff_ rfl ?_⟩⟩
  · have hq : p = σ.col := by simpa using hq
    rw [e1, show k = 0 by (first | lia | omega)]; rfl
  · rw [tw2]
    exact rep_ns (by rw [hcut] at hs; simpa using hs) htl
  have hq : p ≠ σ.col := by simpa using hq
  have hst : (D.drop k).take 1 = [42] := by rw [hcut] at hs; simpa using hs
  have hplt : p < σ.record.length := by
    by_cases q : p < σ.record.length
    · exact q
    · rw [List.drop_of_length_le (by (first | lia | omega))] at hst
      exact nomatch hst
  obtain ⟨hkk, hxx⟩ := rep_at hD hp hcol0 hplt
  have hx42 : D[k] = 42 := by
    rw [List.drop_eq_getElem_cons hkk] at hst
    exact (List.cons.inj hst).1
  have hne : D.take k ≠ [] := by
    intro q
    have := congrArg List.length q
    rw [List.length_take, List.length_nil] at this
    (first | lia | omega)
  have e3 : rp rest = (valD (D.take k), (D.drop k ++ tl).drop 1) := by
    rw [← e1, ← tw2]
    refine rp_yes (by rw [e1]; exact hne) ?_
    rw [tw2, List.drop_eq_getElem_cons hkk, hx42]
    rfl
  have hdrop1 : σ.record.drop (p + 1).toNat = D.drop (k + 1) := by rw [← hD, List.drop_drop]; congr 1; (first | lia | omega)
  have hd1 : (D.drop k ++ tl).drop 1 = D.drop (k + 1) ++ tl := by rw [List.drop_eq_getElem_cons hkk]; rfl
  have hdig : Dig (D.take k) := fun x hx => tw_dig D x (by rw [htw]; exact List.mem_append_left _ hx)
  rw [e3] at hk hS
  have hk : 1 ≤ valD (D.take k) := hk
  refine vat (at_col fun _ h => h) ⟨⟨by (first | lia | omega), by (first | lia | omega), by (first | lia | omega)⟩, ?_⟩
  rw [htake]
  refine ca_nil O hd hu (wholeT hne hdig) rfl (iff_ (by rw [beq_eq_false_iff_ne]; (first | lia | omega)) ?_)
  refine sa_e (fun K' => sa_col (R := []) ho (fun _ h => nomatch h)) fun t2 => hS _ ?_ ⟨rfl, rfl, rfl, rfl, rfl⟩
  rw [show (valD (D.take k), (D.drop k ++ tl).drop 1).2 = (D.drop k ++ tl).drop 1 from rfl, hd1, ← hdrop1]
  refine hmove (p + 1) _ (by (first | lia | omega)) (by (first | lia | omega)) ?_
  rw [hdrop1]
  rw [hrest] at htot
  simp only [List.length_append, List.length_drop] at *
  (first | lia | omega)
end
section
open PySem PySem.W PySem.Calls PyProof.Rows
structure KX (κ : Kx) (sc : Scope) (dp un : Nat) : Prop where
  ok : ∃ (gd : Option (List Code)) (outer : List Env) (base : Heap) (mean : ExcName → Option Value) (mg mb : Str → Option Value) (nm : Str) (a : Addr) (cd : Value), κ.A = (aT dp un gd outer).deeper κ.env ∧ κ.env = envOf nm sc κ.L a cd ∧ Below (aT dp un gd outer) base outer κ.g ∧ (Mine.kk.heap_1 κ.w.params).In κ.g ∧ Top Mine.view (looseW Mine.view []) mean mg mb κ.g ∧
    ∀ e d h' tk', FlyD base (κ.env :: outer) e d h' → κ.g.UpToSlots h' → κ.E (.ref e) (κ.st h' tk')
  fn : sc.kind = .function
  pe : PassesOwn (model κ.prog κ.w) κ.A κ.env κ.E
theorem KX.k {κ : Kx} {sc : Scope} {dp un : Nat} (O : KX κ sc dp un) : KOk κ sc dp un := by
  obtain ⟨gd, outer, base, mean, mg, mb, nm, a, cd, hA, hE, B, X, T, _⟩ := O.ok
  exact ⟨⟨gd, outer, base, mean, mg, mb, (nm, []), a, cd, hA, hE, B, X, T⟩, O.fn, O.pe⟩
noncomputable def ConXS (prog : Program) (w : World) (f : Addr) (xs : List SV) (dq uq : Nat) (muts : Ld) : Prop := ∀ vs, SVs xs vs → ConX prog w f vs dq uq muts
theorem conX_v {prog : Program} {w : World} {name qual : Str} {params : Arguments} {body : List Stmt} {scope : Scope} {dV kV doc pm cdv ct oc : Value} {an od : Option Addr} {osl : Array (Option Value)} {f : Addr} {xs : List SV} {ns : List Str} {dq uq : Nat} {muts : Ld}
    (ho : (Mine.kk.heap_1 w.params).lookup f = some ⟨oc, od, .func (fnOf name qual params body scope dV kV doc pm an cdv ct), osl⟩) (hcd : codeIn (Mine.kk.heap_1 w.params) cdv qual = true)
    (hbind : ∀ vs, SVs xs vs → ∀ s, BindsTo s (fnOf name qual params body scope dV kV doc pm an cdv ct) ⟨vs, []⟩ (ns.zip vs))
    (hok : (ns.all (isLoc scope) && nodupB ns && Nat.blt 0 dq && !scope.isCoroutine && !scope.isGenerator && scope.kind == .function && scope.names.all (fun x => x.2 != .cell)) = true)
    (hb : ∀ (κ : Kx) (dp un : Nat), κ.prog = prog → κ.w = w → KX κ scope dp un → dp + dq < recursionLimit → un + uq < cLine → zipK ns xs fun m0 => vX κ scope 60 m0 muts body fun _ _ _ => False) :
    ConXS prog w f xs dq uq muts := by
  simp only [Bool.and_eq_true, Bool.not_eq_true', beq_iff_eq] at hok
  obtain ⟨⟨⟨⟨⟨⟨h1, h2⟩, h3⟩, h4⟩, h5⟩, h6⟩, h7⟩ := hok
  have h3 : 0 < dq := Nat.le_of_ble_eq_true h3
  intro vs hvs mean mg mb dp un gd base g outer s R C N hd hu ret
  refine call_M (A := aT dp un gd outer) C N ho hcd (show dp < _ by (first | lia | omega)) (hbind vs hvs s) (fun y hy => (isLoc_of (List.all_eq_true.mp h1 y.1 (List.of_mem_zip hy).1)).1) (fun L' h₁ F N' _ B X T => ?_) h4 h5 h6 (fun x hx => by simpa using List.all_eq_true.mp h7 x hx)
  have O : KX (⟨prog, w, (aT dp un gd outer).deeper (envOf qual scope L' f cdv), envOf qual scope L' f cdv, g, L', s, fun e s' => wpAny (model prog w) ((aT dp un gd outer).deeper (envOf qual scope L' f cdv)) (leaving (envOf qual scope L' f cdv) e) (fun _ s'' => R (.error e) s'') (fun e' s'' => R (.error e') s'') s'⟩ : Kx) scope dp un :=
    ⟨⟨gd, outer, base, mean, mg, mb, qual, f, cdv, rfl, rfl, B, X, T, fun e d h' tk' FL US => leave_D B.stack FL US fun h2 k1 k2 => ret e d h2 tk' k1 k2⟩, h6, by passes_own⟩
  exact vX_of O.k 60 _ _ _ _ (zipK_of (k := fun m0 => vX _ scope 60 m0 muts body _) (hb _ dp un rfl rfl O hd hu)) h₁ (s.toks + (ns.zip vs).length) _ ⟨_, F, knows_zip hvs h1 h2⟩ N' fun fl fw m' Z' h' tk' k _ _ _ => k.elim
theorem ca_conX {κ : Kx} {sc : Scope} {dp un : Nat} {m : Mp} {Z : Ld} {f : Addr} {xs : List SV} {K : SV → Ld → Prop} {dq uq D U : Nat} {muts : Ld} (O : KX κ sc dp un) (hD : dp + D < recursionLimit) (hU : un + U < cLine) (C : ConXS κ.prog κ.w f xs dq uq muts) (e : (Nat.ble (1 + dq) D && Nat.ble (3 + uq) U) = true)
    (hs : ∀ p ∈ muts, p ∈ Z) : Ca κ m Z (.ref f) xs K := by
  intro vs h tk Q hvs F N q
  obtain ⟨e1, e2⟩ := Bool.and_eq_true_iff.mp e
  obtain ⟨gd, outer, base, mean, mg, mb, nm, a, cd, hA, hE, B, X, T, fly⟩ := O.ok
  obtain ⟨m', F', hm⟩ := id F
  rw [hE] at fly hA
  rw [hA]
  exact con_callX (s := κ.st h tk) (C vs hvs) B F' N X T hs (by have := lim hD e1; (first | lia | omega)) (by have := lim hU e2; (first | lia | omega)) (fun e d h' tk' k1 k2 _ => fly e d h' tk' k1 k2) O.fn
end
section
open PySem PySem.W PySem.Calls PyProof.Rows
example : ∀ (w : World), (Mine.kk.heap_1 w.params).In default → PySem.Challenge.rw_no0260_01 = PySem.Challenge.rw_no0260_01 → True := by
  k_fill
  intros; trivial
theorem vifS {c : Bool} {A : Prop} {C X : RS → Prop} (σ : RS) (h0 : c = false → C σ) (h1 : c = true → (∀ σ', C σ' → X σ') → A) (h2 : ∀ σ', C σ' → X σ') : VIf c A (X σ) := ⟨fun h => h1 h h2, fun h => h2 σ (h0 h)⟩
theorem nx_more {rest : List Nat} {b d : Bool} {l : Int} {h o : Option K} {P' : PS} (h0 : 0 < l) (hn : Nx ⟨rest, b, d, l, h⟩ o P') : o = h ∧ P' = ⟨rest, b, d, l - 1, h⟩ := by
  rcases hn with _ | _ <;> first | exact ⟨rfl, rfl⟩ | (first | lia | omega)
theorem nx_don {rest : List Nat} {b : Bool} {l : Int} {h o : Option K} {P' : PS} (h0 : ¬ 0 < l) (hn : Nx ⟨rest, b, true, l, h⟩ o P') : o = Option.none ∧ P' = ⟨rest, b, true, l, h⟩ := by
  rcases hn with _ | _ <;> first | exact ⟨rfl, rfl⟩ | (first | lia | omega)
theorem sa_cls {κ : Kx} {L R : Ld} {a d : Nat} {attr : Str} {v : SV} {K : Ld → Prop} (h : (∀ p ∈ R, @Ne Nat p.1 d) → Sa κ (L ++ R) a attr v K) (hd : ∃ o, (d, o) ∈ L ∧ o.cls = .type "dict") (hR : ∀ p ∈ R, p.2.cls = .type "tuple") : Sa κ (L ++ R) a attr v K := by
  intro u m' hp tk Q hv X F N q
  obtain ⟨o, ho, hc⟩ := hd
  exact h (fun p hp => news_ne N (List.mem_append_right _ hp) (List.mem_append_left _ ho) (hR p hp) hc (by decide)) u m' hp tk Q hv X F N q
theorem nextcT {prog : Program} {w : World} {c : RC} {σ : RS} {P P' : PS} {o : Option K} (hR : Rd c σ P.rest) (hb : σ.beh = P.beh) (hdn : σ.don = P.don) (hl : σ.left = P.left) (hh : σ.held = .none ∨ ∃ a, σ.held = .ref a) (hn : Nx P o P') :
    ConT prog w 290 [.ref c.r] 26 420 (c.led w σ) (fun K => ∀ hs' σ' sv v, SV.Is sv v → Rd c σ' P'.rest → σ'.beh = P'.beh → σ'.don = P'.don → σ'.left = P'.left →
      ((hs' = [] ∧ σ'.held = σ.held ∧ P'.held = P.held) ∨ Hd P'.held σ'.held hs') → ((o = none ∧ v = .none) ∨ (o = P'.held ∧ v = σ'.held)) → K sv (hs' ++ c.led w σ')) := by
  refine conT_sub ?_
  have ho := hR.ord
  obtain ⟨rest, beh', don', left', held'⟩ := P
  dsimp only at hb hdn hl hR
  subst hb hdn hl
  refine' conT_v (ns := [PySem.Str.ofString "reader"]) ?k1 ?k2 ?k3 ?k4 ?_
  case k1 => k_is
  case k2 => k_is
  case k3 => exact b1 fun _ _ => BindsTo.of_eq (binds := [(_, _)]) rfl
  case k4 => kernel_rfl!
  rintro κ dp un _ rfl rfl O - hd hu ⟨K, hS, rfl⟩
  have nl : ∀ p ∈ ([] : Ld), @Ne Nat p.1 c.dr := fun _ h => nomatch h
  refine vat (at_left fun _ h => h) ⟨fun hm => ?_, fun hm => vat (at_don fun _ h => h) ⟨fun hd1 => ?_, fun hd1 => ?_⟩⟩
  · obtain ⟨rfl, rfl⟩ := nx_more (of_decide_eq_true hm) hn
    refine e1_augattr O rfl (at_left fun _ h => h) (sa_e (fun K' => sa_left (R := []) ho nl) fun t => ?_)
    rcases hh with hh | ⟨a, hh⟩
    · exact vat (at_heldN (fun _ h => h) hh) ⟨_, fun _ h => h, hS [] { σ with left := σ.left - 1, tleft := t } .none .none rfl (hR.left _ _) rfl rfl rfl (.inl ⟨rfl, rfl, rfl⟩) (.inr ⟨rfl, hh.symm⟩)⟩
    · exact vat (at_heldR (fun _ h => h) hh) ⟨_, fun _ h => h, hS [] { σ with left := σ.left - 1, tleft := t } (.ref a) (.ref a) rfl (hR.left _ _) rfl rfl rfl (.inl ⟨rfl, rfl, rfl⟩) (.inr ⟨rfl, hh.symm⟩)⟩
  · rw [hd1] at hn
    obtain ⟨rfl, rfl⟩ := nx_don (of_decide_eq_false hm) hn
    exact ⟨_, fun _ h => h, hS [] σ .none .none rfl hR rfl hd1 rfl (.inl ⟨rfl, rfl, rfl⟩) (.inl ⟨rfl, rfl⟩)⟩
  rw [hd1] at hn
  obtain ⟨r1, hf, hout⟩ := nx_out (of_decide_eq_false hm) hn
  obtain ⟨hf1, hf2, hf3⟩ := nf_parts hf
  refine vat (at_beh fun _ h => h) (vifS (X := fun σ => vX κ _ 57 _ (c.led κ.w σ) [] _) (C := fun σ' => Rd c σ' (if σ.beh then dropC (rest.dropWhile gap) else rest) ∧ σ'.beh = false ∧ σ'.don = false ∧ σ'.left = σ.left ∧ σ'.held = σ.held) σ (fun hb => ⟨by rw [hb]; exact hR, hb, hd1, rfl, rfl⟩) (fun hb fin => ?_) fun σ1 hc => ?_)
  · refine ca_all O hd hu (skipgT hR (hf1 hb)) rfl fun σ2 hR2 hM2 => ca_all O hd hu (signT hR2) rfl ⟨fun hc => ca_all O hd hu (stepT hR2 (hf1 hb)) rfl fun σ3 hR3 hM3 => sa_e0 (fun K' => sa_beh (R := []) ho nl) ?_, fun hc => sa_e0 (fun K' => sa_beh (R := []) ho nl) ?_⟩
    · exact fin { σ3 with beh := false } ⟨by rw [hb, if_pos rfl, dropC, if_pos (by simpa using hc)]; exact hR3.set _ _ _ _ _, rfl, (hM2.trans hM3).don.trans hd1, (hM2.trans hM3).left, (hM2.trans hM3).held⟩
    · exact fin { σ2 with beh := false } ⟨by rw [hb, if_pos rfl, dropC, if_neg (by simpa using hc)]; exact hR2.set _ _ _ _ _, rfl, hM2.don.trans hd1, hM2.left, hM2.held⟩
  obtain ⟨hR1, hb1, hd2, hl1, hh1⟩ := hc
  generalize (if σ.beh = true then dropC (List.dropWhile gap rest) else rest) = z at hR1 hf2
  refine ca_all O hd hu (skipgT hR1 (by rw [hf2]; exact hf3)) rfl fun σ2 hR2 hM2 => ?_
  rw [hf2] at hR2
  rw [← hl1] at hout
  refine ca_all O hd hu (signT hR2) rfl ?_
  obtain ⟨⟩ := hout
  case slash r =>
    refine ift rfl (sa_e0 (fun K' => sa_don (R := []) ho nl) ⟨_, fun _ h => h, hS [] { σ2 with don := true } .none .none rfl (hR2.set _ _ _ _ _) (hM2.beh.trans hb1) rfl hM2.left (.inl ⟨rfl, hM2.held.trans hh1, rfl⟩) (.inl ⟨rfl, rfl⟩)⟩)
  case comma =>
    refine iff_ rfl (ca_all O hd hu (signT hR2) rfl (ift rfl (ca_all O hd hu (stepT hR2 (List.cons_ne_nil _ _)) rfl fun σ3 hR3 hM3 => ?_)))
    have hM := hM2.trans hM3
    exact ⟨_, fun _ h => h, hS [] σ3 .none .none rfl hR3 (hM.beh.trans hb1) (hM.don.trans hd2) hM.left (.inl ⟨rfl, hM.held.trans hh1, rfl⟩) (.inl ⟨rfl, rfl⟩)⟩
  case null y n h0 hs h1' h2' hn' =>
    refine iff_ (by simpa using h1') (ca_all O hd hu (signT hR2) rfl (iff_ (by simpa using h2') (ca_all O hd hu (repeatT hR2 (by rw [hn']; exact h0)) rfl fun σ3 hR3 hM3 => ?_)))
    rw [hn'] at hR3 ⊢
    refine sa_e (fun K' => sa_left (R := []) ho nl) fun t => sa_e0 (fun K' => sa_heldN (R := []) ho nl) ?_
    refine ca_all O hd hu (signT (hR3.set (n - 1) t .none σ3.beh σ3.don)) rfl ⟨.inl rfl, iff_ (by show (!(sepB (sg y))) = false; rw [hs]; rfl) (sa_e0 (fun K' => sa_beh (R := []) ho nl) (vat (at_heldN (fun _ h => h) rfl) ⟨_, fun _ h => h, ?_⟩))⟩
    exact hS [] { σ3 with left := n - 1, tleft := t, held := .none, beh := true } .none .none rfl (hR3.set _ _ _ _ _) rfl ((hM2.trans hM3).don.trans hd2) rfl (.inr ⟨rfl, rfl⟩) (.inl ⟨rfl, rfl⟩)
  case konst y r n k h0 hs hk' h1' h2' hn' =>
    refine iff_ (by simpa using h1') (ca_all O hd hu (signT hR2) rfl (iff_ (by simpa using h2') (ca_all O hd hu (repeatT hR2 (by rw [hn']; exact h0)) rfl fun σ3 hR3 hM3 => ?_)))
    rw [hn'] at hR3 ⊢
    refine sa_e (fun K' => sa_left (R := []) ho nl) fun t => sa_e0 (fun K' => sa_heldN (R := []) ho nl) ?_
    have hR4 := hR3.set (n - 1) t .none σ3.beh σ3.don
    refine ca_all O hd hu (signT hR4) rfl ⟨.inl rfl, ift (by show (!(sepB (sg y))) = true; rw [hs]; rfl) (ca_all O hd hu (constT hR4 hk') rfl fun a ob σ5 hO hR5 hM5 => ?_)⟩
    have dr : ∀ σ : RS, ∃ o, (c.dr, o) ∈ c.led κ.w σ ∧ o.cls = .type "dict" := fun σ => ⟨_, .tail _ (.head _), rfl⟩
    have ht : ∀ p ∈ [((a, ob) : Addr × Obj)], p.2.cls = .type "tuple" := fun p hp => by rw [List.mem_singleton.mp hp]; exact Mine.K.cls hO
    have sw : ∀ (σ : RS) (p : Addr × Obj), p ∈ c.led κ.w σ ++ [(a, ob)] ↔ p ∈ (a, ob) :: c.led κ.w σ := fun σ p => by rw [List.mem_append, List.mem_singleton, List.mem_cons, or_comm]
    refine sa_sub (fun p hp => (sw σ5 p).mp hp) (sa_cls (fun hR => sa_heldR (R := [(a, ob)]) ho hR ?_) (dr _) ht)
    refine sa_cls (fun hR => sa_beh (R := [(a, ob)]) ho hR ?_) (dr _) ht
    refine vat (at_heldR (fun p h => List.mem_append_left _ h) rfl) ⟨_, fun p hp => (sw _ p).mpr hp, ?_⟩
    exact hS [(a, ob)] { σ5 with beh := true, held := .ref a } (.ref a) (.ref a) rfl (hR5.set _ _ _ _ _) rfl (hM5.don.trans ((hM2.trans hM3).don.trans hd2)) hM5.left (.inr ⟨a, ob, rfl, hO, rfl⟩) (.inr ⟨rfl, rfl⟩)
theorem lm_led {w : World} {c : RC} {lm : LM} {σ : RS} (ho : c.lst < c.dsr ∧ c.dsr < c.sr ∧ c.sr < c.dr ∧ c.dr < c.r) (hlm : lm.d < c.lst) : ∀ p ∈ lm.led w, p ∉ c.led w σ := by
  intro p hp q
  unfold RC.led at q
  simp only [List.mem_cons, List.not_mem_nil, or_false] at q
  rcases List.mem_cons.mp hp with rfl | hp
  · rcases q with q | q | q | q | q
    · injection q with _ q; injection q with q; injection q with q; exact absurd q (by decide)
    · injection q with _ q; injection q with q; obtain ⟨⟩ := q
    · injection q with _ q; injection q with q; injection q with q; exact absurd q (by decide)
    · injection q with _ q; injection q with q; obtain ⟨⟩ := q
    · injection q with _ q; injection q with q; obtain ⟨⟩ := q
  · rw [List.mem_singleton.mp hp] at q
    obtain ⟨o1, o2, o3, o4⟩ := ho
    have h : ∀ {a b : Nat} {o o' : Obj}, ((a, o) : Addr × Obj) = (b, o') → a = b := fun e => congrArg Prod.fst e
    rcases q with q | q | q | q | q <;> (have := h q; (first | lia | omega))
theorem itemT {prog : Program} {w : World} {c : RC} {lm : LM} {σ : RS} {P P' : PS} {o : Option Mine.K} {x : Wt} {kind len : Int} {hs : Ld} (hP : RdP c σ P hs) (hn : Nx P o P')
    (hx : (o = none ∧ x = .non) ∨ (∃ k, o = some k ∧ Val kind len k x)) (hlm : lm.d < c.lst) :
    ConT prog w 318 [.ref c.r, .int kind, .int len, .ref lm.a] 30 500 (hs ++ (c.led w σ ++ lm.led w)) (fun K => ∀ sv v nx hs' σ', SV.Is sv v → IsW x v nx → RdP c σ' P' hs' → K sv (nx ++ (hs' ++ (c.led w σ' ++ lm.led w)))) := by
  refine conT_sub ?_
  obtain ⟨hR, hb, hdn, hl, hh⟩ := hP
  have hcls : ∀ p ∈ hs, p.2.cls = .type "tuple" := by
    induction hk : P.held with
    | none => rw [hk] at hh; rw [hh.2]; exact fun _ h => nomatch h
    | some k => rw [hk] at hh; obtain ⟨a, ob, e, io, rfl⟩ := hh; intro p hp; rw [List.mem_singleton.mp hp]; exact Mine.K.cls io
  have hheld : σ.held = .none ∨ ∃ a, σ.held = .ref a := by
    induction hk : P.held with
    | none => rw [hk] at hh; exact .inl hh.1
    | some k => rw [hk] at hh; obtain ⟨a, ob, e, _⟩ := hh; exact .inr ⟨a, e⟩
  have ho := hR.ord
  refine' conT_v (ns := [PySem.Str.ofString "reader", PySem.Str.ofString "kind", PySem.Str.ofString "length", PySem.Str.ofString "limits"]) ?k1 ?k2 ?k3 ?k4 ?_
  case k1 => k_is
  case k2 => k_is
  case k3 => exact b4 fun _ _ _ _ _ => BindsTo.of_eq (binds := [(_, _), (_, _), (_, _), (_, _)]) rfl
  case k4 => kernel_rfl!
  rintro κ dp un _ rfl rfl O - hd hu ⟨K, hS, rfl⟩
  have lmo := @lm_led κ.w c lm σ ho hlm
  refine ca_con (rest := hs ++ lm.led κ.w) O hd hu (nextcT hR hb hdn hl hheld hn) rfl (fun p hp => List.mem_append_right _ (List.mem_append_left _ hp)) (fun p hp => ?_) fun hs' σ' sv v hsv q1 q2 q3 q4 q5 q6 => ?_
  · rcases List.mem_append.mp hp with hp | hp
    · exact ⟨List.mem_append_left _ hp, led_off (hcls p hp)⟩
    · exact ⟨List.mem_append_right _ (List.mem_append_right _ hp), lmo p hp⟩
  obtain ⟨hs2, hP2, hn2, hk2, hm2, hc2⟩ := item_step hh q1 q2 q3 q4 q5 q6
  have hz : ∀ p ∈ hs2 ++ (c.led κ.w σ' ++ lm.led κ.w), p ∈ (hs' ++ c.led κ.w σ') ++ (hs ++ lm.led κ.w) := fun p hp => by
    rcases List.mem_append.mp hp with hp | hp
    · rcases hm2 p hp with q | q
      · exact List.mem_append_left _ (List.mem_append_left _ q)
      · exact List.mem_append_right _ (List.mem_append_left _ q)
    · rcases List.mem_append.mp hp with hp | hp
      · exact List.mem_append_left _ (List.mem_append_right _ hp)
      · exact List.mem_append_right _ (List.mem_append_right _ hp)
  rcases hx with ⟨rfl, rfl⟩ | ⟨k, rfl, hV⟩
  · have e := hn2 rfl
    subst e
    induction sv <;> first | (obtain ⟨_, e⟩ := hsv; obtain ⟨⟩ := e) | obtain ⟨⟩ := hsv
    exact ift rfl ⟨_, hz, hS .none .none [] hs2 σ' rfl ⟨rfl, rfl⟩ hP2⟩
  · obtain ⟨a, ob, rfl, hO, rfl⟩ := hk2 k rfl
    induction sv <;> first | (obtain ⟨_, e⟩ := hsv; obtain ⟨⟩ := e) | cases hsv
    refine iff_ rfl (ca_con (rest := c.led κ.w σ') O hd hu (valueT (c := lm) hV hO) rfl (fun p hp => hz p ?_) (fun p hp => ⟨List.mem_append_left _ (List.mem_append_right _ hp), fun q => ?_⟩) fun sv u nx s1 s2 => ⟨_, fun p hp => ?_, hS sv u nx [(a, ob)] σ' s1 s2 hP2⟩)
    · rcases List.mem_cons.mp hp with rfl | hp
      · exact List.mem_append_left _ (.head _)
      · exact List.mem_append_right _ (List.mem_append_right _ hp)
    · rcases List.mem_cons.mp q with rfl | q
      · exact led_off (Mine.K.cls hO) hp
      · exact lm_led ho hlm p q hp
    · simp only [List.mem_append, List.mem_cons, List.not_mem_nil, or_false] at hp ⊢
      rcases hp with hp | hp | hp | hp <;> simp [hp]
end
section
local macro_rules | `(tactic| tm_at "L getMethod type:Exception") => `(tactic| (k_here; refine methX (by assumption) (by assumption) ?_))
local macro_rules | `(tactic| tm_at "L call builtin:Exception.__init__") => `(tactic| (k_here; refine initX (by assumption) (by assumption) (by assumption) (by assumption) ?_; intro h' t' F' N'; (try k_sweep)))
local macro_rules | `(tactic| tm_at "L setAttr ref") => `(tactic| (k_here; refine setX_first (by assumption) (by assumption) (by assumption) (by assumption) (by k_is) ?_; intro h' tk' d' od' F' N' D' l1' l2'; (try k_sweep)))
theorem exc1 {prog : Program} {w : World} {e t : Addr} {l : List Nat} {tk : Tok} :
    Con prog w 28 [.ref e, .str (tx l) tk] 6 60 [(e, exO none t)] (fun _ => True) (fun v muts' _ => v = .none ∧ ∃ d od t' mA ns, muts' = [(e, exO (some d) t'), (d, od)] ∧ DM d od mA ∧ Within mA ns ∧ ns.length ≤ 10 ∧ e < d) := by
  intro mean mg mb dp un gd base g outer s R C N hrd hd hu ret
  have hre : ∀ p ∈ ([] : List (Addr × Obj)), p.1 ≠ e := fun p hp => nomatch hp
  tm_at "M enter0"
  k_steps
  exact ret _ _ _ _ (stays_of (by assumption)) (led_of (muts := [(_, _), (_, _)]) (by assumption) (fun _ h => h)) ⟨rfl, _, _, _, _, _, rfl, by assumption, Within.cons _ _ Within.nil, by decide, by assumption⟩
end
local macro_rules | `(tactic| tm_at "L call ref") => `(tactic| (
  k_here
  (with_reducible show wpAny _ _ (call (Value.ref 28) _ _) _ _ _)
  (refine' con_call exc1 ?kB ?kF ?kN ?kX ?kT ?ks ?kr (fun _ _ _ _ => trivial) ?kd ?ku ?_)
  tm_at "M parts"
  k_whole
  rintro _ h' tk' _ ⟨e1', d', od', t', mA', ns', e2', hDM', hW', hn', hlt'⟩ F' N'
  subst e1' e2'
  tm_at "M swp"))
section
local macro_rules | `(tactic| tm_at "L setAttr ref") => `(tactic| (k_here; refine setX_next2 (by assumption) (by assumption) (by assumption) (by k_is) (by assumption) (by assumption) (by assumption) (by assumption) ?_; intro h' tk' od' F' N' D'; (try k_sweep)))
theorem exc2 {prog : Program} {w : World} {e t : Addr} {l : List Nat} {tk tk1 : Tok} :
    Con prog w 60 [.ref e, .int (-1) tk1, .str (tx l) tk] 8 120 [(e, exO none t)] (fun _ => True) (fun v muts' _ => v = .none ∧ ∃ d od t' mA, muts' = [(e, exO (some d) t'), (d, od)] ∧ DM d od mA ∧ (∃ tk2, mA (Str.ofString "code") = some (.int (-1) tk2)) ∧ e < d) := by
  intro mean mg mb dp un gd base g outer s R C N hrd hd hu ret
  tm_at "M enter0"
  k_steps
  exact ret _ _ _ _ (stays_of (by assumption)) (led_of (muts := [(_, _), (_, _)]) (by assumption) (fun _ h => h)) ⟨rfl, _, _, _, _, rfl, by assumption, ⟨_, if_pos rfl⟩, by assumption⟩
end
local macro_rules | `(tactic| tm_at "L call ref") => `(tactic| (
  k_here
  (with_reducible show wpAny _ _ (call (Value.ref 60) _ _) _ _ _)
  (refine' con_call exc2 ?kB ?kF ?kN ?kX ?kT ?ks ?kr (fun _ _ _ _ => trivial) ?kd ?ku ?_)
  tm_at "M parts"
  k_whole
  rintro _ h' tk' _ ⟨e1', d', od', t', mA', e2', hDM', hC', hlt'⟩ F' N'
  subst e1' e2'
  tm_at "M swp"))
section
theorem exc3 {prog : Program} {w : World} {e t : Addr} {l : List Nat} {tk : Tok} :
    Con prog w 79 [.ref e, .str (tx l) tk] 10 180 [(e, exO none t)] (fun _ => True) (fun v muts' _ => v = .none ∧ ∃ d od t' mA, muts' = [(e, exO (some d) t'), (d, od)] ∧ DM d od mA ∧ (∃ tk2, mA (Str.ofString "code") = some (.int (-1) tk2)) ∧ e < d) := by
  intro mean mg mb dp un gd base g outer s R C N hrd hd hu ret
  tm_at "M enter0"
  k_steps
  exact ret _ _ _ _ (stays_of (by assumption)) (led_of (muts := [(_, _), (_, _)]) (by assumption) (fun _ h => h)) ⟨rfl, _, _, _, _, rfl, by assumption, by assumption, by assumption⟩
end

section
theorem makeX {prog : Program} {w : World} {mean : ExcName → Option Value} {mg mb : Str → Option Value} {dp un : Nat} {gd : Option (List Code)} {base g : Heap} {outer : List Env} {L a : Addr} {m : Str → Option Value} {cn : Str} {cs : Scope} {ccd : Value}
    {news : List (Addr × Obj)} {s : Shared} {l : List Nat} {tk : Tok} {Q : Value → Shared → Prop} {E : Value → Shared → Prop}
    (B : Below (aT dp un gd outer) base outer g) (F : Fr g L s.heap m) (N : News g L s.heap news) (X : (Mine.kk.heap_1 w.params).In g) (T : Top Mine.view (looseW Mine.view []) mean mg mb g)
    (hd : dp + 12 < recursionLimit) (hu : un + 200 < cLine)
    (k : ∀ e d od t mA h' tk', Fr g L h' m → News g L h' ((e, exO (some d) t) :: (d, od) :: news) → DM d od mA → (∃ tk2, mA (Str.ofString "code") = some (.int (-1) tk2)) → d ≠ e → Q (.ref e) { s with heap := h', toks := tk' })
    (hck : cs.kind = .function := by rfl) :
    wpAny (model prog w) ((aT dp un gd outer).deeper (envOf cn cs L a ccd)) (call (.ref 82) [.str (tx l) tk]) Q E s := by
  obtain ⟨hp, gn, dw, tks, os⟩ := s
  refine callX (X.keeps F.keep) ?_
  have F1 := (F.push { cls := .type "tuple", data := .seq #[.str (tx l) tk] }).push (exO none hp.objs.size)
  have N1 : News g L ((hp.push { cls := .type "tuple", data := .seq #[.str (tx l) tk] }).push (exO none hp.objs.size)) ((hp.objs.size + 1, exO none hp.objs.size) :: news) := by
    have q := (N.pushKeep { cls := .type "tuple", data := .seq #[.str (tx l) tk] }).push (F.push { cls := .type "tuple", data := .seq #[.str (tx l) tk] }) (exO none hp.objs.size)
    rwa [Heap.size_push] at q
  have hlt : ∀ p ∈ news, p.1 < hp.objs.size := fun p hpn => Heap.lt_size (N p hpn).1
  obtain ⟨g2, C2, N2, st, hg, hF2, hF, hN⟩ := ground_M (w := w) (a := a) (cn := cn) (cs := cs) (ccd := ccd) [(hp.objs.size + 1, exO none hp.objs.size)] B F1 N1 X T (fun p q => by rw [List.mem_singleton.mp q]; exact .head _) hck
  refine exc3 mean mg mb (dp + 1 + 1) (un + 3 + 1) gd base g2 (envOf cn cs L a ccd :: outer) ⟨_, gn, dw, tks, os⟩ _ ⟨⟨C2.B.stack, C2.B.stays, C2.B.frames⟩, C2.st, C2.sz, C2.X, C2.T⟩ N2 trivial (by (first | lia | omega)) (by (first | lia | omega)) ?_
  rintro v h' tk' muts' k1 k2 ⟨rfl, d, od, t', mA, rfl, hD, hc, hlt2⟩
  refine ⟨rfl, k (hp.objs.size + 1) d od t' mA h' tk' (hF h' k1) ?_ hD hc (Nat.ne_of_gt hlt2)⟩
  exact hN h' [(hp.objs.size + 1, exO (some d) t'), (d, od)] news k1 k2 fun p q => ⟨.tail _ q, fun z => absurd (hlt p q) (by rw [show p.1 = hp.objs.size + 1 from List.mem_singleton.mp z]; exact Nat.not_lt.mpr (Nat.le_succ _))⟩
end

section
local macro_rules | `(tactic| tm_at "L exec Raise some none") => `(tactic| (k_here; refine raise_rule rfl ?_))
local macro_rules | `(tactic| tm_at "L call ref") => `(tactic| (
  k_here
  (with_reducible show wpAny _ _ (call (Value.ref 82) _ _) _ _ _)
  (refine makeX (by assumption) (by assumption) (by assumption) (by assumption) (by assumption) (by (first | lia | omega)) (by (first | lia | omega)) ?_)
  (intro e' d' od' t' mA' h' tk' F' N' hDM' hC' hne')
  (try k_sweep)))
theorem nextX_con {prog : Program} {w : World} {c : RC} {at_ : Int} {tat : Tok} (ord : c.lst < c.dsr ∧ c.dsr < c.sr) (h0 : 0 ≤ at_) (h1 : ¬ at_ < c.items.length) (hfit : c.items.length ≤ 100000) :
    ConX prog w 339 [.ref c.sr] 14 220 (c.src w at_ tat) := by
  intro mean mg mb dp un gd base g outer s R C N hd hu ret
  obtain ⟨o1, o2⟩ := ord
  unfold RC.src at N
  tm_at "M preX"
  intro L h1 F N l1 B X T
  k_lt l1
  dsimp only
  k_steps
  rename DM _ _ _ => hDM
  rename News _ _ _ _ => N2
  rename Fr _ _ _ _ => F2
  unfold RaiseP
  exact ⟨_, _, _, rfl, X.keeps F2.keep, (N2 _ (.head _)).1, leave_first B F2 N2 (.head _) (.tail _ (.head _)) ⟨_, hDM, by assumption⟩ (by assumption) rfl rfl (hQ := fun h' k1 k2 => ret _ _ h' _ k1 k2)⟩
end
section
open PySem PySem.W PySem.Calls PyProof.Rows
example : ∀ (w : World), (Mine.kk.heap_1 w.params).In default → PySem.Challenge.rw_no0260_01 = PySem.Challenge.rw_no0260_01 → True := by
  k_fill
  intros; trivial
theorem sv1 {a : Addr} {vs : List Value} (h : SVs [.ref a] vs) : vs = [.ref a] := by
  obtain ⟨v, rfl, e⟩ := svs1 h
  obtain rfl := e
  rfl
theorem nextXT {prog : Program} {w : World} {c : RC} {at_ : Int} {tat : Tok} (ord : c.lst < c.dsr ∧ c.dsr < c.sr) (h0 : 0 ≤ at_) (h1 : ¬ at_ < c.items.length) (hfit : c.items.length ≤ 100000) :
    ConXS prog w 339 [.ref c.sr] 14 220 (c.src w at_ tat) := fun vs h => by rw [sv1 h]; exact nextX_con ord h0 h1 hfit
theorem stepXT {prog : Program} {w : World} {c : RC} {σ : RS} (hR : Rd c σ []) : ConXS prog w 227 [.ref c.r] 16 240 (c.led w σ) := by
  have hlen := hR.len
  refine' conX_v (ns := [PySem.Str.ofString "reader"]) ?k1 ?k2 ?k3 ?k4 ?_
  case k1 => k_is
  case k2 => k_is
  case k3 => exact b1 fun _ _ => BindsTo.of_eq (binds := [(_, _)]) rfl
  case k4 => kernel_rfl!
  rintro κ dp un rfl rfl O hd hu
  refine vat (at_col fun _ h => h) (vat (at_record fun _ h => h) (ca_len (by (first | lia | omega)) ⟨fun hb => ?_, fun hb => ?_⟩))
  · obtain ⟨x, tl, e, _⟩ := hR.inn (of_decide_eq_true hb)
    obtain ⟨⟩ := e
  · rcases hR.out (of_decide_eq_false hb) with ⟨_, q⟩ | ⟨_, _, _, e, _⟩
    · exact ev_meth0 O.k rfl (vE_of O.k (vat (at_source fun _ h => h) ⟨c.sr, rfl, gm_next (a := σ.at_) (t := σ.tat) (fun p h => .tail _ (.tail _ h)), ca_conX O hd hu (nextXT (at_ := σ.at_) (tat := σ.tat) ⟨hR.ord.1, hR.ord.2.1⟩ hR.at0 q hR.fit) rfl (fun p h => .tail _ (.tail _ h))⟩))
    · obtain ⟨⟩ := e
theorem skipXT {prog : Program} {w : World} {c : RC} {σ : RS} {rest : List Nat} (hR : Rd c σ rest) (hg : rest.dropWhile gap = []) : ConXS prog w 241 [.ref c.r] 18 280 (c.led w σ) := by
  refine' conX_v (ns := [PySem.Str.ofString "reader"]) ?k1 ?k2 ?k3 ?k4 ?_
  case k1 => k_is
  case k2 => k_is
  case k3 => exact b1 fun _ _ => BindsTo.of_eq (binds := [(_, _)]) rfl
  case k4 => kernel_rfl!
  rintro κ dp un rfl rfl O hd hu
  refine e1_while O.k (WJ κ.w c σ [(PySem.Str.ofString "reader", .ref c.r)] fun r => rest.dropWhile gap = r.dropWhile gap) ⟨σ, rest, rfl, rfl, rfl, hR, .rfl' σ, rfl⟩ ⟨rfl, trivial⟩ ?_
  rintro n m₁ Z₁ Kb hb1 - - ⟨σ', rest', rfl, rfl, rfl, hR', hM', he'⟩
  by_cases hne : rest' = []
  · subst hne
    exact ca_all O.k hd hu (signT hR') rfl (iff_ rfl (ca_all O.k hd hu (signT hR') rfl (ift rfl (ift rfl (ca_conX O hd hu (stepXT hR') rfl fun _ h => h)))))
  have fin : ((sg rest' == [32]) = true ∨ (sg rest' == []) = true) → ∀ σ2, Rd c σ2 rest'.tail → Mv σ' σ2 → Kb .next [(PySem.Str.ofString "reader", .ref c.r)] (c.led κ.w σ2) := fun h σ2 hR2 hM2 => hb1 _ _ _ _ (tail_lt hne) ⟨σ2, rest'.tail, rfl, rfl, rfl, hR2, hM'.trans hM2, he'.trans (gap_go hne h)⟩ ⟨rfl, trivial⟩
  have hs : ConT κ.prog κ.w 227 [.ref c.r] 6 80 (c.led κ.w σ') (fun K => ∀ σ2, Rd c σ2 rest'.tail → Mv σ' σ2 → K .none (c.led κ.w σ2)) := stepT hR' hne
  refine ca_all O.k hd hu (signT hR') rfl ⟨fun hb => ?_, fun hb => ca_all O.k hd hu (signT hR') rfl ⟨fun hc => ?_, fun hc => ?_⟩⟩
  · exact ift rfl (ca_all O.k hd hu hs rfl (fin (.inl hb)))
  · exact ift rfl (ca_all O.k hd hu hs rfl (fin (.inr hc)))
  · exact absurd ((gap_stop hb hc).symm.trans (he'.symm.trans hg)) hne
theorem nextcXT {prog : Program} {w : World} {c : RC} {σ : RS} {rest : List Nat} (hR : Rd c σ rest) (hb : σ.beh = true) (hd0 : σ.don = false) (hl : ¬ 0 < σ.left) (hg : rest.dropWhile gap = [] ∨ ∃ y, rest.dropWhile gap = 44 :: y ∧ y.dropWhile gap = []) :
    ConXS prog w 290 [.ref c.r] 20 340 (c.led w σ) := by
  refine' conX_v (ns := [PySem.Str.ofString "reader"]) ?k1 ?k2 ?k3 ?k4 ?_
  case k1 => k_is
  case k2 => k_is
  case k3 => exact b1 fun _ _ => BindsTo.of_eq (binds := [(_, _)]) rfl
  case k4 => kernel_rfl!
  rintro κ dp un rfl rfl O hd hu
  refine vat (at_left fun _ h => h) (iff_ (decide_eq_false hl) (vat (at_don fun _ h => h) (iff_ hd0 (vat (at_beh fun _ h => h) (ift hb ?_)))))
  rcases hg with hg | ⟨y, hg, hy⟩
  · exact ca_conX O hd hu (skipXT hR hg) rfl fun _ h => h
  · refine ca_all O.k hd hu (skipgT hR (by rw [hg]; exact List.cons_ne_nil _ _)) rfl fun σ2 hR2 hM2 => ?_
    rw [hg] at hR2
    refine ca_all O.k hd hu (signT hR2) rfl (ift rfl (ca_all O.k hd hu (stepT hR2 (List.cons_ne_nil _ _)) rfl fun σ3 hR3 hM3 => ?_))
    refine sa_e0 (fun K' => sa_beh (R := []) hR.ord (fun _ h => nomatch h)) ?_
    exact ca_conX O hd hu (skipXT (hR3.set σ3.left σ3.tleft σ3.held false σ3.don) hy) rfl fun _ h => h
theorem itemXT {prog : Program} {w : World} {c : RC} {σ : RS} {rest : List Nat} {kind len : Int} {lm : Addr} (hR : Rd c σ rest) (hb : σ.beh = true) (hd0 : σ.don = false) (hl : ¬ 0 < σ.left) (hg : rest.dropWhile gap = [] ∨ ∃ y, rest.dropWhile gap = 44 :: y ∧ y.dropWhile gap = []) :
    ConXS prog w 318 [.ref c.r, .int kind, .int len, .ref lm] 22 400 (c.led w σ) := by
  refine' conX_v (ns := [PySem.Str.ofString "reader", PySem.Str.ofString "kind", PySem.Str.ofString "length", PySem.Str.ofString "limits"]) ?k1 ?k2 ?k3 ?k4 ?_
  case k1 => k_is
  case k2 => k_is
  case k3 => exact b4 fun _ _ _ _ _ => BindsTo.of_eq (binds := [(_, _), (_, _), (_, _), (_, _)]) rfl
  case k4 => kernel_rfl!
  rintro κ dp un rfl rfl O hd hu
  exact ca_conX O hd hu (nextcXT hR hb hd0 hl hg) rfl fun _ h => h
end
section
theorem draw_con {prog : Program} {w : World} {pen : Addr} {po : Obj} {many : Int} {t : Tok} (hpo : PenObj po) (h1 : 2 ≤ many) (h2 : many ≤ 1000) :
    Con prog w 382 [.ref pen, .int many t] 2 40 [(pen, po)] (fun _ => True) (fun v muts' _ => ∃ r tr po', v = .int r tr ∧ 0 ≤ r ∧ r < many ∧ PenObj po' ∧ muts' = [(pen, po')]) := by
  obtain ⟨n, c, t1, t2, ep, hn, hc, rfl⟩ := hpo
  intro mean mg mb dp un gd base g outer s R C N _ hd hu ret
  tm_at "M enter0"
  k_steps
  all_goals (
    dsimp only
    refine ret _ _ _ _ (stays_of (by assumption)) (led_of (muts := [(pen, _)]) (by assumption) (by tm_at "M led")) ⟨_, _, _, rfl, ?_, ?_, ⟨_, _, _, _, _, ?_, ?_, rfl⟩, rfl⟩)
  all_goals (try simp only [List.getD_cons_zero, List.getD_cons_succ, Int.toNat_zero, Int.toNat_one])
  all_goals first
    | (refine Int.fmod_lt_of_pos _ (by (first | lia | omega)))
    | (refine Int.fmod_nonneg ?_ (by (first | lia | omega)); (first | lia | omega))
    | (refine Int.fdiv_nonneg ?_ (by (first | lia | omega)); (first | lia | omega))
    | (first | lia | omega)
end

section
theorem pen_con {prog : Program} {w : World} {scr : Addr} {vs : List Value} {ns : List Int} (hI : IntsAre vs ns) (hn : ns.length ≤ 63) :
    Con prog w 375 [.ref scr] 4 80 [] (fun g => g.IsList scr vs.toArray) (fun v muts' _ => ∃ a o, v = .ref a ∧ PenObj o ∧ muts' = [(a, o)]) := by
  intro mean mg mb dp un gd base g outer s R C N hrd hd hu ret
  tm_at "M enter0"
  k_steps
  unfold Hold
  rename IntsAre _ (List.take 24 ns) => hJ
  refine for_list (fun i m nx => nx = [(_, W.listOf _ _)] ∧ ∃ n t', 0 ≤ n ∧ m (PySem.Str.ofString "number") = some (.int n t')) rfl (by assumption) (by assumption) ⟨rfl, _, _, ?_, (by with_unfolding_all rfl)⟩ (fun i m nx h => by rw [h.1]; exact .head _) ?_ ?_
  · decide
  · rintro i v m₁ news₁ h2 tk2 I oI hv hoff _ ⟨rfl, n, tn, hn0, hnum⟩ F2 N2
    obtain ⟨x, tx', rfl, _⟩ := hJ.at i v hv
    replace F2 := fr_k1 F2 hnum
    dsimp only [List.cons_append, List.nil_append] at N2
    k_steps
    unfold PostM
    refine ⟨_, _, _, [(_, _)], rfl, by assumption, by assumption, (fun p hp => hoff p hp), rfl, _, _, ?_, (by with_unfolding_all rfl)⟩
    split <;> (first | lia | omega)
  · rintro m₁ news₁ h2 tk2 ⟨rfl, n, tn, hn0, hnum⟩ F2 N2
    replace F2 := fr_i1 F2 hnum
    k_steps
    exact ret _ _ _ [(_, _)] (stays_of (by assumption)) (led_of (muts := [(_, _)]) (by assumption) (by tm_at "M led")) ⟨_, _, rfl, ⟨_, _, _, _, _, hn0, Int.le_refl 0, rfl⟩, rfl⟩
end
section
local macro_rules | `(tactic| tm_at "L call ref") => `(tactic| (
  k_here
  (with_reducible show wpAny _ _ (call (Value.ref 318) _ _) _ _ _)
  (refine' con_callX (itemXT (len := 0) (kind := 0) (lm := _) (by assumption) (by assumption) (by assumption) (by assumption) (by assumption) [_, _, _, _] ⟨rfl, ⟨_, rfl⟩, ⟨_, rfl⟩, rfl, trivial⟩) ?kB ?kF ?kN ?kX ?kT ?ks ?kd ?ku ?_)
  tm_at "M partsX"
  (k_whole; intro e' d' h' tk' FL' US' G2')))
local macro_rules | `(tactic| tm_at "L getAttr ref") => `(tactic| (k_here; refine getX (by assumption) (by assumption) (by assumption) (.head _) (.tail _ (.head _)) (by assumption) (by assumption) (by assumption) (by assumption) ?_; intro _ _))
local macro_rules | `(tactic| tm_at "L noteFrame ref") => `(tactic| (k_here; refine hold_i ?_))
theorem isend_con {prog : Program} {w : World} {c : RC} {σ : RS} {rest : List Nat} {lm : Addr} (hR : Rd c σ rest) (hb : σ.beh = true) (hd0 : σ.don = false) (hl : ¬ 0 < σ.left) (hg : rest.dropWhile gap = [] ∨ ∃ y, rest.dropWhile gap = 44 :: y ∧ y.dropWhile gap = []) :
    ConE prog w 422 [.ref c.r, .ref lm] 30 500 (c.led w σ) := by
  intro mean mg mb dp un gd base g outer s R b ob C N hd hu hbs hgb hobd hbb XB TB ret
  obtain ⟨o1, o2, o3, o4⟩ := hR.ord
  tm_at "M preL"
  intro L h1 hbs2 F N l1 B X T
  unfold RC.led at l1 N
  k_lt l1
  dsimp only
  k_steps
  unfold Hold
  rename FlyD _ _ _ _ _ => FL
  rename g.UpToSlots _ => US
  obtain ⟨es, ep, hob2⟩ := hobd
  obtain ⟨sl, hsl⟩ := US b ob hgb fun vs q => by rw [hob2] at q; cases q
  have hbL : b ≠ L := by
    intro q
    have := kts_self F
    rw [← q, hgb] at this
    cases this
  rename ∃ _, _ => G2
  obtain ⟨g2, Fg2, U2⟩ := G2
  refine caught_D (ob := { ob with slots := sl }) B.stack hbs2 (U2.ns Fg2.ns) FL XB TB (by k_is) hsl ⟨es, ep, hob2⟩ hbb hbL ?_
  · intro h2 tk2 od eo sl2 F2 N2 hod2 heo1 heo2 heo3 X2
    k_steps
    rename Fr _ _ _ _ => F9
    rename News _ _ _ _ => N9
    exact ret _ _ sl2 F9.keep (N9 (b, { ob with slots := sl2 }) (by k_mem)).1
end
section
theorem mkLim {prog : Program} {w : World} {mean : ExcName → Option Value} {mg mb : Str → Option Value} {dp un : Nat} {gd : Option (List Code)} {g : Heap} {L a : Addr} {m : Str → Option Value} {nms : List (Str × NameKind)} {nm : Str} {cd : Value} {s : Shared} {news : List (Addr × Obj)}
    {t0 t1 t2 t3 : Tok} {Q : Value → Shared → Prop} {E : Value → Shared → Prop}
    (B : Below (aT dp un gd []) g [] g) (F : Fr g L s.heap m) (N : News g L s.heap news) (X : (Mine.kk.heap_1 w.params).In g) (T : Top Mine.view (looseW Mine.view []) mean mg mb g)
    (hd : dp + 50 < recursionLimit) (hu : un + 2000 < cLine)
    (k : ∀ (lm : LM) h' tk', Fr g L h' m → News g L h' (lm.led w ++ news) → (∀ p ∈ news, p.1 < lm.d) → lm.d < lm.a → Q (.ref lm.a) { s with heap := h', toks := tk' }) :
    wpAny (model prog w) ((aT dp un gd []).deeper (envOf nm { kind := .function, names := nms, isGenerator := false, isCoroutine := false } L a cd))
      (call (.ref 364) [] [(PySem.Str.ofString "width", .int 16 t0), (PySem.Str.ofString "real_digits", .int 9 t1), (PySem.Str.ofString "double_digits", .int 12 t2), (PySem.Str.ofString "top_exponent", .int 99 t3)]) Q E s := by
  k_steps
  rename Fr g L _ _ => F9
  rename News g L _ _ => N9
  exact k ⟨_, _, fun i => [_, _, _, _, _, _, _, _].getD i 0, fun i => [_, _, _, _, _, _, _, _].getD i 0⟩ _ _ F9 N9 (by assumption) (by assumption)
end
section
theorem mkSrc {prog : Program} {w : World} {mean : ExcName → Option Value} {mg mb : Str → Option Value} {dp un : Nat} {gd : Option (List Code)} {g : Heap} {L a : Addr} {m : Str → Option Value} {nms : List (Str × NameKind)} {nm : Str} {cd : Value} {s : Shared} {news : List (Addr × Obj)}
    {lst : Addr} {o : Obj} {Q : Value → Shared → Prop} {E : Value → Shared → Prop}
    (B : Below (aT dp un gd []) g [] g) (F : Fr g L s.heap m) (N : News g L s.heap ((lst, o) :: news)) (X : (Mine.kk.heap_1 w.params).In g) (T : Top Mine.view (looseW Mine.view []) mean mg mb g)
    (hd : dp + 50 < recursionLimit) (hu : un + 2000 < cLine)
    (k : ∀ (sr dsr : Nat) (k7 k8 ta : Tok) h' tk', Fr g L h' m → News g L h' ((sr, instObj 342 dsr) :: (dsr, dictOf [⟨PyData.keyHash w.params (Str.ofString "records"), .str (Str.ofString "records") k7, .ref lst⟩, ⟨PyData.keyHash w.params (Str.ofString "at"), .str (Str.ofString "at") k8, .int 0 ta⟩] 2) :: (lst, o) :: news) → @LT.lt Nat _ lst dsr → (∀ p ∈ news, p.1 < dsr) → dsr < sr → Q (.ref sr) { s with heap := h', toks := tk' }) :
    wpAny (model prog w) ((aT dp un gd []).deeper (envOf nm { kind := .function, names := nms, isGenerator := false, isCoroutine := false } L a cd))
      (call (.ref 342) [.ref lst] []) Q E s := by
  k_steps
  rename Fr g L _ _ => F9
  rename News g L _ _ => N9
  with_reducible rename _ ∧ _ => l12
  exact k _ _ _ _ _ _ _ F9 N9 l12.1 (allLt_out l12.2) (by assumption)
local macro_rules | `(tactic| tm_at "L call ref") => `(tactic| (
  k_here
  (with_reducible show wpAny _ _ (call (Value.ref 339) _ _) _ _ _)
  refine hold_i ?_))
theorem perm53 {g h : Heap} {L : Addr} {A B C D E : Addr × Obj} {news : List (Addr × Obj)} (N : News g L h (A :: B :: C :: D :: E :: news)) : News g L h (D :: E :: A :: B :: C :: news) := fun p hp => N p (by
  simp only [List.mem_cons] at hp ⊢
  rcases hp with h | h | h | h | h | h
  · exact .inr (.inr (.inr (.inl h)))
  · exact .inr (.inr (.inr (.inr (.inl h))))
  · exact .inl h
  · exact .inr (.inl h)
  · exact .inr (.inr (.inl h))
  · exact .inr (.inr (.inr (.inr (.inr h)))))
theorem mkRd {prog : Program} {w : World} {mean : ExcName → Option Value} {mg mb : Str → Option Value} {dp un : Nat} {gd : Option (List Code)} {g : Heap} {L a : Addr} {m : Str → Option Value} {nms : List (Str × NameKind)} {nm : Str} {cd : Value} {s : Shared} {news : List (Addr × Obj)}
    {c : RC} {σ : RS} {l : List Nat} {t : Tok} {Q : Value → Shared → Prop} {E : Value → Shared → Prop}
    (B : Below (aT dp un gd []) g [] g) (F : Fr g L s.heap m) (N : News g L s.heap (c.src w σ.at_ σ.tat ++ news)) (X : (Mine.kk.heap_1 w.params).In g) (T : Top Mine.view (looseW Mine.view []) mean mg mb g)
    (hd : dp + 80 < recursionLimit) (hu : un + 3000 < cLine)
    (hnw : ∀ p ∈ news, @LT.lt Nat _ p.1 c.lst) (ord : c.lst < c.dsr ∧ c.dsr < c.sr) (h0 : 0 ≤ σ.at_) (h1 : σ.at_ < c.items.length) (hfit : c.items.length ≤ 100000) (he : c.items[σ.at_.toNat]? = some (.str (tx l) t))
    (k : ∀ (c' : RC) (σ' : RS) h' tk', Fr g L h' m → News g L h' (c'.led w σ' ++ news) → c'.lst = c.lst → c'.dsr = c.dsr → c'.sr = c.sr → c'.sr < c'.dr → c'.dr < c'.r → c'.items = c.items → σ'.at_ = σ.at_ + 1 → σ'.record = l → σ'.col = 0 → σ'.left = 0 → σ'.held = .none → σ'.beh = false → σ'.don = false →
      Q (.ref c'.r) { s with heap := h', toks := tk' }) :
    wpAny (model prog w) ((aT dp un gd []).deeper (envOf nm { kind := .function, names := nms, isGenerator := false, isCoroutine := false } L a cd))
      (call (.ref 209) [.ref c.sr] []) Q E s := by
  obtain ⟨o1, o2⟩ := id ord
  unfold RC.src at N
  dsimp only [List.cons_append, List.nil_append] at N
  k_steps
  unfold Hold
  refine' con_callA (nextT (t := σ.tat) ord h0 h1 hfit he [.ref c.sr] ⟨rfl, trivial⟩ (fun x z => x = .str l ∧ ∃ ta, z = c.src w (σ.at_ + 1) ta) (fun ta => ⟨rfl, ta, rfl⟩)) ?kB ?kF ?kN ?kX ?kT ?kA ?ks ?kr (fun _ _ _ _ => trivial) ?kd ?ku ?_
  case kB => assumption
  case kF => k_asm
  case kN => k_asm
  case kX => assumption
  case kT => assumption
  case kA => exact under_tc
  case ks => unfold RC.src; tm_at "M led"
  case kr =>
    refine Rst.keep' (by unfold RC.src; tm_at "M off") (Rst.keep' (by unfold RC.src; tm_at "M off") (.skip (.head _) (.skip (.tail _ (.head _)) (.skip (.tail _ (.tail _ (.head _))) (Rst.sym fun p hp q => ?_)))))
    have hq := hnw p hp
    rcases List.mem_cons.mp q with e | q
    · rw [e] at hq; exact absurd hq (by dsimp only; (first | lia | omega))
    rcases List.mem_cons.mp q with e | q
    · rw [e] at hq; exact absurd hq (by dsimp only; (first | lia | omega))
    · rw [List.mem_singleton.mp q] at hq; exact absurd hq (Nat.lt_irrefl _)
  case kd => (first | lia | omega)
  case ku => (first | lia | omega)
  rintro _ h' tk' _ ⟨_, hx, rfl, ta', rfl⟩ F' N'
  obtain ⟨tx9, rfl⟩ := hx
  simp only [List.cons_append, List.nil_append, RC.src] at N'
  k_steps
  rename Fr g L _ _ => F9
  rename News g L _ _ => N9
  replace N9 := perm53 N9
  exact k ⟨_, _, c.sr, c.dsr, c.lst, fun i => [_, _, _, _, _, _, _, c.kt 7, c.kt 8].getD i 0, c.items, c.lep⟩ ⟨l, _, 0, _, 0, _, .none, false, false, σ.at_ + 1, _⟩ _ _ F9 N9 rfl rfl rfl (by dsimp only; (first | lia | omega)) (by dsimp only; (first | lia | omega)) rfl rfl rfl rfl rfl rfl rfl rfl
end
section
open PySem PySem.W PySem.Calls PyProof.Rows
example : ∀ (w : World), (Mine.kk.heap_1 w.params).In default → PySem.Challenge.rw_no0260_01 = PySem.Challenge.rw_no0260_01 → True := by
  k_fill
  intros; trivial
section
variable {κ : Kx} {sc : Scope} {dp un : Nat} {m : Mp} {Z : Ld}
theorem e1_swap2 {x y : Str} {p q p3 tp p2 : Pos} {k k2 : Nat} {a b : Expr} {K : Fl → Mp → Ld → Prop} (O : KOk κ sc dp un) (hl : (mcan sc x m && mcan sc y m && plE a && plE b) = true)
    (hw : ∀ nm L a' cd, swappedStores [.Tuple [.Name x p, .Name y q] k tp] (.Tuple [a, b] k2 p2) (envK nm sc L a' cd) = pure (some [x, y]))
    (h : vE κ sc m Z a fun u Z' => vE κ sc m Z' b fun v Z'' => msetK y v m fun m1 => msetK x u m1 fun m2 => K .next m2 Z'') : E1 κ m Z (.Assign [.Tuple [.Name x p, .Name y q] k tp] (.Tuple [a, b] k2 p2) p3) K := by
  intro hp tk Q F N qq
  simp only [Bool.and_eq_true] at hl
  obtain ⟨⟨⟨hl1, hl2⟩, hl3⟩, hl4⟩ := hl
  have es := O.scp
  have ev : Ev κ m Z (.Tuple [a, b] k2 p2) (fun t Z3 => ∃ a' vs u v Z', t = .ref a' ∧ SVs [u, v] vs ∧ Z3 = (a', tupO vs 0) :: Z' ∧ K .next (mset x u (mset y v m)) Z') := by
    refine ev_tuple (Nat.le_of_ble_eq_true rfl) (es_cons hl3 (ev_mono (vE_of O h) fun u Z' h1 => es_cons hl4 (ev_mono (vE_of O h1) fun v Z'' h2 => es_nil ⟨rfl, fun a' vs ep hv he => ⟨a', vs, u, v, Z'', rfl, hv, by rw [he.1], ?_⟩⟩)))
    exact msetK_of (k := fun m2 => K .next m2 Z'') (msetK_of (k := fun m1 => msetK x u m1 fun m2 => K .next m2 Z'') h2)
  obtain ⟨gd, outer, base, mean, mg, mb, nm, a', cd, hA, hE, B, X, T⟩ := O.ok
  refine Assign_Tuple_swapped (names := [x, y]) (ev hp tk _ F N fun t u' Z3 h' tk' kk hu F2 N2 => ?_) rfl (by rw [hE]; exact hw _ _ _ _)
  obtain ⟨a2, vs, u, v, Z', rfl, hv, rfl, kk⟩ := kk
  obtain rfl := hu
  obtain ⟨u0, v0, rfl, hu0, hv0⟩ := svs2 hv
  obtain ⟨m', F', hm⟩ := F2
  rw [es] at hm
  have hx := mcan_loc hl1 hm
  have hy := mcan_loc hl2 hm
  have ht : IsTup h' a2 #[u0, v0] := News.isTup N2 (.head _)
  refine unpackItemsN_ (s := κ.st h' tk') F' N2 ht (by rw [hA]; rfl) rfl fun h3 F3 N3 => ?_
  show wpAny _ _ (assignInOrder [bindName κ.env y, bindName κ.env x] [v0, u0]) _ _ _
  refine wpAny_assignInOrder_more (bindName_ ?_)
  rw [hE]
  refine storeX_L (s := κ.st h3 tk') F3 N3 (fun h4 F4 N4 => ?_) O.fn (isLoc_of hy).1
  refine wpAny_assignInOrder_more (bindName_ ?_)
  have hm4 := frS_ins (κ := κ) es hy F4 hm hv0
  obtain ⟨m4, F4, hm4⟩ := hm4
  rw [es] at hm4
  refine storeX_L (s := κ.st h4 (tk' + 1)) F4 N4 (fun h5 F5 N5 => ?_) O.fn (isLoc_of hx).1
  exact wpAny_assignInOrder_none (qq .next .next _ Z' h5 (tk' + 1 + 1) kk rfl (frS_ins es hx F5 hm4 hu0) fun p hp => N5 p (.tail _ hp))
theorem ev_and2 {x y : Expr} {p : Pos} {K : SV → Ld → Prop} (O : KOk κ sc dp un) (h : vE κ sc m Z x fun v Z' => ∃ c, v = .bool c ∧ VIf c (vE κ sc m Z' y K) (K (.bool false) Z')) : Ev κ m Z (.BoolOp .And [x, y] p) K := by
  intro hp tk Q F N q
  refine BoolOp_and (vE_of O h hp tk _ F N fun v u Z' h' tk' k hu F' N' => ?_)
  obtain ⟨c, rfl, k⟩ := k
  obtain ⟨⟩ := hu
  refine wpAny_truthy_bool ?_
  cases c
  · rw [if_neg (by decide)]; exact q _ _ Z' h' tk' (k.f rfl) rfl F' N'
  · rw [if_pos rfl]; exact BoolOp_one (vE_of O (k.t rfl) h' tk' Q F' N' q)
theorem ev_or2 {x y : Expr} {p : Pos} {K : SV → Ld → Prop} (O : KOk κ sc dp un) (h : vE κ sc m Z x fun v Z' => ∃ c, v = .bool c ∧ VIf c (K (.bool true) Z') (vE κ sc m Z' y K)) : Ev κ m Z (.BoolOp .Or [x, y] p) K := by
  intro hp tk Q F N q
  refine BoolOp_or (vE_of O h hp tk _ F N fun v u Z' h' tk' k hu F' N' => ?_)
  obtain ⟨c, rfl, k⟩ := k
  obtain ⟨⟩ := hu
  refine wpAny_truthy_bool ?_
  cases c
  · rw [if_neg (by decide)]; exact BoolOp_one (vE_of O (k.f rfl) h' tk' Q F' N' q)
  · rw [if_pos rfl]; exact q _ _ Z' h' tk' (k.t rfl) rfl F' N'
theorem penT {prog : Program} {w : World} {pen : Addr} {po : Obj} {many : Int} (hpo : PenObj po) (h1 : 2 ≤ many) (h2 : many ≤ 1000) :
    ConT prog w 382 [.ref pen, .int many] 2 40 [(pen, po)] (fun K => ∀ r po', 0 ≤ r → r < many → PenObj po' → K (.int r) [(pen, po')]) := by
  intro vs hv K hS mean mg mb dp un gd base g outer s R C N hr hd hu ret
  obtain ⟨_, _, rfl, rfl, ⟨t, rfl⟩⟩ := svs2 hv
  refine draw_con hpo h1 h2 mean mg mb dp un gd base g outer s R C N hr hd hu fun v h' tk' z a b q => ret v h' tk' z a b ?_
  obtain ⟨r, tr, po', rfl, q1, q2, q3, rfl⟩ := q
  exact ⟨.int r, ⟨_, rfl⟩, hS r po' q1 q2 q3⟩
theorem ca_draw {pen : Addr} {po : Obj} {many : Int} {R : Ld} {D U : Nat} {K : SV → Ld → Prop} (O : KOk κ sc dp un) (hD : dp + D < recursionLimit) (hU : un + U < cLine) (hpo : PenObj po) (hm : 2 ≤ many ∧ many ≤ 1000) (e : (Nat.ble 3 D && Nat.ble 43 U) = true) (hZ : ∀ p ∈ (pen, po) :: R, p ∈ Z) (hoff : ∀ p ∈ R, @Ne Nat p.1 pen)
    (k : ∀ r po', 0 ≤ r → r < many → PenObj po' → K (.int r) ((pen, po') :: R)) : Ca κ m Z (.ref 382) [.ref pen, .int many] K :=
  ca_con (rest := R) O hD hU (penT hpo hm.1 hm.2) e (fun p hp => hZ p (by rw [List.mem_singleton.mp hp]; exact .head _)) (fun p hp => ⟨hZ p (.tail _ hp), fun q => hoff p hp (congrArg Prod.fst (List.mem_singleton.mp q))⟩) k
theorem pen_tup {pen : Addr} {po : Obj} (h : PenObj po) {p : Addr × Obj} (hp : p.2.cls = .type "tuple") : p ∉ [(pen, po)] := fun q => by
  obtain ⟨_, _, _, _, _, _, _, rfl⟩ := h
  rw [List.mem_singleton.mp q] at hp
  injection hp with hp
  exact absurd hp (by decide)
theorem pickT {prog : Program} {w : World} {pen a : Addr} {po : Obj} {vs : List Value} {ep : Nat} {xs : List SV} (hpo : PenObj po) (hv : SVs xs vs) (hl : 2 ≤ xs.length ∧ xs.length ≤ 1000) :
    ConT prog w 389 [.ref pen, .ref a] 6 80 [(pen, po), (a, tupO vs ep)] (fun K => ∀ x po', x ∈ xs → PenObj po' → K x [(pen, po')]) := by
  refine conT_sub ?_
  refine' conT_v (ns := [PySem.Str.ofString "pen", PySem.Str.ofString "some"]) ?k1 ?k2 ?k3 ?k4 ?_
  case k1 => k_is
  case k2 => k_is
  case k3 => exact b2 fun _ _ _ => BindsTo.of_eq (binds := [(_, _), (_, _)]) rfl
  case k4 => kernel_rfl!
  rintro κ dp un _ rfl rfl O - hd hu ⟨K, hS, rfl⟩
  refine ca_lenT O (tup_mem hv (.tail _ (.head _))) (by (first | lia | omega)) ?_
  refine ca_con (rest := [(a, tupO vs ep)]) O hd hu (penT hpo (by (first | lia | omega)) (by (first | lia | omega))) rfl (fun p hp => by rw [List.mem_singleton.mp hp]; exact .head _) (fun p hp => by rw [List.mem_singleton.mp hp]; exact ⟨.tail _ (.head _), pen_tup hpo rfl⟩) fun r po' q1 q2 q3 => ?_
  have hr : r.toNat < xs.length := by (first | lia | omega)
  exact vit_tup O rfl (tup_mem hv (.tail _ (.head _))) ⟨q1, by (first | lia | omega)⟩ (List.getElem?_eq_getElem hr) ⟨[(pen, po')], fun p hp => by rw [List.mem_singleton.mp hp]; exact .head _, hS _ po' (List.getElem_mem hr) q3⟩
theorem pickST {prog : Program} {w : World} {pen : Addr} {po : Obj} {l : List Nat} (hpo : PenObj po) (hl : 2 ≤ l.length ∧ l.length ≤ 1000) :
    ConT prog w 389 [.ref pen, .str l] 6 80 [(pen, po)] (fun K => ∀ c po', c ∈ l → PenObj po' → K (.str [c]) [(pen, po')]) := by
  refine' conT_v (ns := [PySem.Str.ofString "pen", PySem.Str.ofString "some"]) ?k1 ?k2 ?k3 ?k4 ?_
  case k1 => k_is
  case k2 => k_is
  case k3 => exact b2 fun _ _ _ => BindsTo.of_eq (binds := [(_, _), (_, _)]) rfl
  case k4 => kernel_rfl!
  rintro κ dp un K rfl rfl O - hd hu hS
  refine ca_len (by (first | lia | omega)) (ca_all O hd hu (penT hpo (by (first | lia | omega)) (by (first | lia | omega))) rfl fun r po' q1 q2 q3 => ⟨⟨by (first | lia | omega), q1, q2⟩, ?_⟩)
  have hr : r.toNat < l.length := by (first | lia | omega)
  rw [List.getD_eq_getElem?_getD, List.getElem?_eq_getElem hr]
  exact hS _ po' (List.getElem_mem hr) q3
theorem ca_pick {pen a : Nat} {po : Obj} {vs : List Value} {ep : Nat} {xs : List SV} {R : Ld} {D U : Nat} {K : SV → Ld → Prop} (O : KOk κ sc dp un) (hD : dp + D < recursionLimit) (hU : un + U < cLine) (hpo : PenObj po) (hv : SVs xs vs) (hl : 2 ≤ xs.length ∧ xs.length ≤ 1000) (hlt : ep = 0 ∧ ∀ p ∈ (pen, po) :: R, @LT.lt Nat _ p.1 a) (e : (Nat.ble 7 D && Nat.ble 83 U) = true) (hoff : ∀ p ∈ R, @Ne Nat p.1 pen)
    (k : ∀ x po', x ∈ xs → PenObj po' → K x ((pen, po') :: R)) : Ca κ m ((a, tupO vs ep) :: (pen, po) :: R) (.ref 389) [.ref pen, .ref a] K :=
  ca_con (rest := R) O hD hU (pickT hpo hv hl) e (fun p hp => (List.mem_cons.mp hp).elim (fun e => e ▸ .tail _ (.head _)) fun hp => by rw [List.mem_singleton.mp hp]; exact .head _) (fun p hp => ⟨.tail _ (.tail _ hp), fun q => (List.mem_cons.mp q).elim (fun e => hoff p hp (congrArg Prod.fst e)) fun q => Nat.lt_irrefl a (by have h1 : p.1 = a := congrArg Prod.fst (List.mem_singleton.mp q); have h2 := hlt.2 p (.tail _ hp); rw [h1] at h2; exact h2)⟩) k
end
end
section
open PySem PySem.W PySem.Calls PyProof.Rows
example : ∀ (w : World), (Mine.kk.heap_1 w.params).In default → PySem.Challenge.rw_no0260_01 = PySem.Challenge.rw_no0260_01 → True := by
  k_fill
  intros; trivial
structure KC (κ : Kx) (sc : Scope) (dp un : Nat) (x : Str) (C : Addr) : Prop where
  ok : ∃ (gd : Option (List Code)) (outer : List Env) (base : Heap) (mean : ExcName → Option Value) (mg mb : Str → Option Value) (nm : Str) (a : Addr) (cd : Value), κ.A = (aT dp un gd outer).deeper κ.env ∧ κ.env = envX nm sc κ.L a cd [(x, C)] ∧ Below (aT dp un gd outer) base outer κ.g ∧ (Mine.kk.heap_1 κ.w.params).In κ.g ∧ Top Mine.view (looseW Mine.view []) mean mg mb κ.g
  fn : sc.kind = .function
  pe : PassesOwn (model κ.prog κ.w) κ.A κ.env κ.E
theorem KC.k {κ : Kx} {sc : Scope} {dp un : Nat} {x : Str} {C : Addr} (O : KC κ sc dp un x C) : KOk κ sc dp un := by
  obtain ⟨gd, outer, base, mean, mg, mb, nm, a, cd, hA, hE, B, X, T⟩ := O.ok
  exact ⟨⟨gd, outer, base, mean, mg, mb, (nm, [(x, C)]), a, cd, hA, hE, B, X, T⟩, O.fn, O.pe⟩
theorem conTC_v {prog : Program} {w : World} {name qual : Str} {params : Arguments} {body : List Stmt} {scope : Scope} {dV kV doc pm cdv ct oc : Value} {an od : Option Addr} {osl : Array (Option Value)} {f : Addr} {x : Str} {a0 : Addr} {dq uq : Nat} {muts : Ld} {S : (SV → Ld → Prop) → Prop}
    (ho : (Mine.kk.heap_1 w.params).lookup f = some ⟨oc, od, .func (fnOf name qual params body scope dV kV doc pm an cdv ct), osl⟩) (hcd : codeIn (Mine.kk.heap_1 w.params) cdv qual = true)
    (hbind : ∀ s, BindsTo s (fnOf name qual params body scope dV kV doc pm an cdv ct) ⟨[.ref a0], []⟩ [(x, .ref a0)])
    (hok : (scope.names.lookup x == some .cell && Nat.blt 0 dq && !scope.isCoroutine && !scope.isGenerator && scope.kind == .function) = true)
    (hcl : ∀ n, cellsFrom n scope.names [] = [(x, n)])
    (hb : ∀ (κ : Kx) (dp un : Nat) (K : SV → Ld → Prop) (C : Nat) (oC : Obj), κ.prog = prog → κ.w = w → KC κ scope dp un x C → oC.data = .cell (some (.ref a0)) → (∀ p ∈ muts, @LT.lt Nat _ p.1 C) → (∀ e s, ¬ κ.E e s) → dp + dq < recursionLimit → un + uq < cLine → S K → vX κ scope 60 [] ((C, oC) :: muts) body (Rt K)) :
    ConT prog w f [.ref a0] dq uq muts S := by
  simp only [Bool.and_eq_true, Bool.not_eq_true', beq_iff_eq] at hok
  obtain ⟨⟨⟨⟨h1, h3⟩, h4⟩, h5⟩, h6⟩ := hok
  have h3 : 0 < dq := Nat.le_of_ble_eq_true h3
  intro vs hvs K hS mean mg mb dp un gd base g outer s R C N _ hd hu ret
  obtain ⟨_, rfl, hv⟩ := svs1 hvs
  obtain rfl := hv
  refine call_Mc0 (A := aT dp un gd outer) C N ho hcd (show dp < _ by (first | lia | omega)) (hbind s) (by show (scope.names.lookup x == _ || scope.names.lookup x == _) && true = true; rw [h1]; rfl) (by rw [hcl]; simp) (fun L' h₁ tk cells F N' Y l B X T => ?_) h4 h5 h6
  rw [hcl] at Y
  obtain ⟨oC, rfl, ho2⟩ := Y.one
  have e : bindC (envOfC qual scope L' f cdv).kindOf [(x, Value.ref a0)] (fun _ => none) x = some (.ref a0) := by
    have hk : (envOfC qual scope L' f cdv).kindOf x = some .cell := h1
    unfold bindC
    simp [hk, bindC]
  rw [e] at ho2
  have O : KC (⟨prog, w, (aT dp un gd outer).deeper (envOfC qual scope L' f cdv), envOfC qual scope L' f cdv, g, L', s, fun _ _ => False⟩ : Kx) scope dp un x (L' + 1) := ⟨⟨gd, outer, base, mean, mg, mb, qual, f, cdv, rfl, by unfold envOfC; rw [hcl], B, X, T⟩, h6, by passes_own⟩
  have hx := hb _ dp un K (L' + 1) oC rfl rfl O ho2 (fun p hp => Nat.lt_succ_of_lt (l p hp)) (fun _ _ q => q) hd hu hS
  refine vX_of O.k 60 _ _ _ _ hx h₁ tk _ ⟨_, F, fun _ _ h => nomatch h⟩ N' fun fl fw m' Z' h' tk' k hfl F' N2 => ?_
  obtain ⟨m2, F2, _⟩ := F'
  have hl : Led g h' Z' := fun p hp => ⟨(N2 p hp).1, (N2 p hp).2.2⟩
  induction fl with
  | ret v =>
    obtain ⟨u, rfl, hu⟩ := hfl
    exact ret u h' tk' Z' F2.keep hl ⟨v, hu, k⟩
  | next =>
    obtain rfl := hfl
    exact ret .none h' tk' Z' F2.keep hl ⟨.none, rfl, k⟩
  | brk => exact k.elim
  | cont => exact k.elim
section
variable {κ : Kx} {sc : Scope} {dp un : Nat} {m : Mp} {Z : Ld} {x : Str} {C : Addr}
theorem ev_cell {p : Pos} {oC : Obj} {a0 : Addr} {K : SV → Ld → Prop} (O : KC κ sc dp un x C) (hk : (sc.names.lookup x == some .cell && !(x == PySem.Str.ofString "__debug__")) = true) (hm : (C, oC) ∈ Z) (hd : oC.data = .cell (some (.ref a0))) (k : K (.ref a0) Z) : Ev κ m Z (.Name x p) K := by
  intro hp tk Q F N q
  obtain ⟨gd, outer, base, mean, mg, mb, nm, a, cd, hA, hE, B, X, T⟩ := O.ok
  simp only [Bool.and_eq_true, Bool.not_eq_true', beq_iff_eq] at hk
  rw [hE]
  exact nameX_C (s := κ.st hp tk) N (List.lookup_cons_self) hm hd (q _ _ Z hp tk k rfl F N) O.fn hk.1 hk.2
end
noncomputable def TxV (pen C : Addr) (oC : Obj) (cs : List Nat) (i : Nat) (y : Mp) (Z' : Ld) : Prop := ∃ po3 b, PenObj po3 ∧ Z' = [(pen, po3), (C, oC)] ∧ TP (cs.take i) b ∧ b.length ≤ 3 * i ∧ y = [(PySem.Str.ofString "value", .str cs), (PySem.Str.ofString "text", .str (39 :: b))]
theorem textT {prog : Program} {w : World} {pen : Addr} {po : Obj} (hpo : PenObj po) :
    ConT prog w 401 [.ref pen] 12 200 [(pen, po)] (fun K => ∀ b V T po' vs, TextT V T → PenObj po' → SVs [.str V, .str T] vs → K (.ref b) [(b, tupO vs 0), (pen, po')]) := by
  refine conT_sub ?_
  refine' conTC_v (x := PySem.Str.ofString "pen") ?k1 ?k2 ?k3 ?k4 ?k5 ?_
  case k1 => k_is
  case k2 => k_is
  case k3 => exact fun _ => BindsTo.of_eq (binds := [(_, _)]) rfl
  case k4 => kernel_rfl!
  case k5 => exact fun _ => rfl
  rintro κ dp un _ C oC rfl rfl O ho hlt hE hd hu ⟨K, hS, rfl⟩
  have hpC : @LT.lt Nat _ pen C := hlt _ (.head _)
  have no : ∀ p ∈ [((C, oC) : Addr × Obj)], @Ne Nat p.1 pen := fun p hp => by rw [List.mem_singleton.mp hp]; exact Nat.ne_of_gt hpC
  refine ev_mono (K := fun v Z' => ∃ cs po', v = .str cs ∧ Z' = [(pen, po'), (C, oC)] ∧ PenObj po' ∧ cs.length ≤ 5 ∧ ∀ c ∈ cs, c ∈ [97, 39, 44, 32, 47]) ?_ ?_
  · intro hp tk Q F N q
    obtain ⟨gd, outer, base, mean, mg, mb, nm, a, cd, hA, hE2, B, X, T⟩ := O.ok
    have hh := O.k.loc.2.2
    refine MethodCall_ (Calls.Constant_str ?_) rfl
    refine GM.join ?_
    refine callWith_method1 (args_cons ?_ rfl) rfl rfl
    obtain ⟨m', F', hm⟩ := id F
    have hcl : ∀ scope, closureFor scope κ.env = closureFor scope (envX nm _ κ.L a cd [(PySem.Str.ofString "pen", C)]) := fun scope => by rw [hE2]
    have fn := O.fn
    have all := List.all_eq_true.mp (all_fn κ.w)
    have dr : ∀ (tk0 : Nat) (Q2 : Value → Shared → Prop) (pd pp pc pq : Pos) (kk : Nat), (∀ (n : Nat) (po' : Obj) (h' : Heap) (tk' : Nat) (t : Tok), n < 5 → PenObj po' → Fr κ.g κ.L h' m' → News κ.g κ.L h' [(pen, po'), (C, oC)] → Q2 (.int (n : Int) t) (κ.st h' tk')) →
        wpAny (model κ.prog κ.w) κ.A (eval (.Call (.Name (PySem.Str.ofString "_law_draw") pd) [.Name (PySem.Str.ofString "pen") pp, .Constant (.int 5) kk pc] [] pq) κ.env) Q2 κ.E (κ.st hp tk0) := by
      intro tk0 Q2 pd pp pc pq kk k
      have hck : κ.env.scope.kind = .function := by rw [hE2]
      have hfr : κ.env.frame = some κ.L := by rw [hE2]
      rw [hE2]
      refine Call_ (nameX_K (s := κ.st hp tk0) F' X (topRead_of T) (v := .ref 382) (by k_is) ?_ fn (by rfl) (by decide))
      refine callWith_K X (all 382 (by decide)) (args_cons (nameX_C (s := κ.st hp tk0) N List.lookup_cons_self (.head _) ho (args_cons (wpAny_Constant_int (args_nil ⟨Frag.In.keeps X F'.keep, ?_⟩)) rfl) fn (by rfl) (by decide)) rfl) rfl rfl
      show wpAny _ _ (call (.ref 382) [.ref pen, .int 5 _]) _ _ _
      rw [hA]
      refine con_callR (s := κ.st hp _) (rest := [(C, oC)]) (penT hpo (many := 5) (by decide) (by decide) [.ref pen, .int 5 _] ⟨rfl, ⟨_, rfl⟩, trivial⟩ (fun x z => ∃ (n : Nat) (po' : Obj), x = .int (n : Int) ∧ n < 5 ∧ PenObj po' ∧ z = [(pen, po')]) fun r po' r0 r1 h => ?_) B F' N X T (fun p hp => .tail _ hp) (fun p hp => ⟨by rw [List.mem_singleton.mp hp]; exact .head _, fun q => ?_⟩) (fun _ _ _ _ => trivial) (by (first | lia | omega)) (by (first | lia | omega)) (fun v h2 tk2 z pz F2 N2 => ?_) hfr hck
      · obtain ⟨n, rfl⟩ := Int.eq_ofNat_of_zero_le r0
        exact ⟨n, po', rfl, by (first | lia | omega), h, rfl⟩
      · rw [List.mem_singleton.mp hp] at q
        exact no (C, oC) (.head _) (List.mem_singleton.mp q)
      · obtain ⟨x, hx, n, po', rfl, hn, h, rfl⟩ := pz
        obtain ⟨t, rfl⟩ := hx
        exact k n po' h2 tk2 t hn h F2 N2
    refine LCg.ListComp_U (s := κ.st hp _) (F₀ := F') ((hcl _).trans (by with_unfolding_all rfl)) (by decide) (by rfl) (by decide) (by rfl) ?_ (fun _ => rfl)
    obtain ⟨c9, hc9⟩ := blAt_mem (show blAt (nmc (PySem.Str.ofString "range")) (PySem.Str.ofString "range") bl = some (Value.type "range") by kernel_rfl!)
    obtain ⟨b1, b2, b3, b4⟩ := bl_ok κ.w _ hc9
    dsimp only at b1 b2 b3 b4
    rw [hE2] at dr ⊢
    refine Call_ (nameX_B (s := κ.st hp _) F' X (topRead_of T) b1 b2 b3 ?_ fn (by rfl) (by decide))
    rw [pl_star (by rfl)]
    refine callWith_of (P := fun _ => True) rfl (fun _ _ => ⟨.machine, .inr (.inl rfl), Looks.of_pure rfl⟩) (evalArgs_plain (args_cons (dr _ _ _ _ _ _ _ fun n po' h' tk' t hn hpo' F2 N2 => args_nil ⟨trivial, ?_⟩) rfl))
    refine range1_rows (s := κ.st h' tk') F2 N2 fun h3 tk3 t₁ u₁ v₁ hr F3 N3 _ => ?_
    refine LCg.CompSrc.range (n := n) hh F3 N3 hr (rs_small (by (first | lia | omega))) (rs_size _) (by rw [sizeLine_eq]; (first | lia | omega)) fun g' => ?_
    refine comp_M (TextJ pen C oC) ⟨_, [], hpo', rfl, .nil, rfl, fun _ h => nomatch h⟩ ?_ ?_
    · rintro ys news₁ k t2 I oI C2 oC2 D m₂ h tk2 E' ⟨po2, cs, hpo2, rfl, hys, hlen, hcs⟩ hlt2 hC hx F2 N2 off ne
      refine wpAny_mono (E := κ.E) ?_ (fun _ _ z => z) (fun e s z => (hE e s z).elim)
      have hck : κ.env.scope.kind = .function := by rw [hE2]
      have hfr : κ.env.frame = some κ.L := by rw [hE2]
      have mC : (C, oC) ∈ (I, oI) :: (C2, oC2) :: (D, LCg.lst ys) :: [(pen, po2), (C, oC)] := .tail _ (.tail _ (.tail _ (.tail _ (.head _))))
      have mP : (pen, po2) ∈ (I, oI) :: (C2, oC2) :: (D, LCg.lst ys) :: [(pen, po2), (C, oC)] := .tail _ (.tail _ (.tail _ (.head _)))
      have o1 := off.mem (pen, po2) (.head _)
      refine Call_ (LCgL.ld_global (s := κ.st h tk2) F2 X T (v := .ref 389) (by k_is) ?_ rfl fn (by rfl) (by decide))
      refine callWith_K X (all 389 (by decide)) (args_cons (lcf_cell (s := κ.st h tk2) N2 List.lookup_cons_self mC ho (args_cons (Calls.Constant_str (args_nil ⟨Frag.In.keeps X F2.keep, ?_⟩)) rfl) (by rfl) (by rfl)) rfl) rfl rfl
      show wpAny _ _ (call (.ref 389) [.ref pen, .str (PySem.Str.ofString "a', /") _]) _ _ _
      rw [show PySem.Str.ofString "a', /" = tx [97, 39, 44, 32, 47] from by decide +kernel, hA]
      refine con_callR (s := κ.st h _) (rest := (I, oI) :: (C2, oC2) :: (D, LCg.lst ys) :: [(C, oC)]) (pickST hpo2 (l := [97, 39, 44, 32, 47]) ⟨by decide, by decide⟩ [.ref pen, .str (tx [97, 39, 44, 32, 47]) _] ⟨rfl, ⟨_, rfl⟩, trivial⟩ (fun x z => ∃ (c : Nat) (po' : Obj), c ∈ [97, 39, 44, 32, 47] ∧ x = .str [c] ∧ PenObj po' ∧ z = [(pen, po')]) fun c po' hc h => ⟨c, po', hc, rfl, h, rfl⟩) B F2 N2 X T (fun p hp => by rw [List.mem_singleton.mp hp]; exact mP) (fun p hp => ⟨?_, fun z => ?_⟩) (fun _ _ _ _ => trivial) (by (first | lia | omega)) (by (first | lia | omega)) (fun v h4 tk4 z pz F4 N4 => ?_) hfr hck
      · rcases List.mem_cons.mp hp with e | hp
        · exact e ▸ .head _
        rcases List.mem_cons.mp hp with e | hp
        · exact e ▸ .tail _ (.head _)
        rcases List.mem_cons.mp hp with e | hp
        · exact e ▸ .tail _ (.tail _ (.head _))
        · rw [List.mem_singleton.mp hp]; exact mC
      · have z : p.1 = pen := List.mem_singleton.mp z
        rcases List.mem_cons.mp hp with e | hp
        · rw [e] at z; exact o1.1 z.symm
        rcases List.mem_cons.mp hp with e | hp
        · rw [e] at z; exact o1.2.1 z.symm
        rcases List.mem_cons.mp hp with e | hp
        · rw [e] at z; exact o1.2.2 z.symm
        · exact no p hp z
      · obtain ⟨x, hx, c, po3, hc, rfl, hpo3, rfl⟩ := pz
        obtain ⟨t, rfl⟩ := hx
        refine LCg.CompEnd.intro F4 N4 [(pen, po3), (C, oC)] (fun p hp => ?_) ⟨off.1, off.2⟩ trivial (TextJ.next hpo3 hys hlen hcs hc)
        simp only [List.mem_cons, List.mem_append, List.not_mem_nil, or_false] at hp ⊢
        rcases hp with e | e | e | e | e <;> simp [e]
    · rintro ys news₁ hlen' ⟨po2, cs, hpo2, rfl, hys, hlen, hcs⟩
      intro D h tk2 F2 N2 _
      refine args_nil ?_
      exact rl_join N2 (.head _) hys (by (first | lia | omega)) fun t' k' => q _ _ [(pen, po2), (C, oC)] h k' ⟨cs, po2, rfl, rfl, hpo2, by (first | lia | omega), hcs⟩ ⟨_, rfl⟩ ⟨m', F2, hm⟩ fun p hp => N2 p (.tail _ hp)
  rintro _ _ ⟨cs, po1, rfl, rfl, hpo1, hc5, hcs⟩
  refine e1_forStr (l := cs) O.k (TxV pen C oC cs) (by kernel_rfl!) ⟨rfl, ⟨po1, [], hpo1, rfl, tp_nil, Nat.le_refl _, rfl⟩⟩ ⟨rfl, rfl, trivial⟩ (fun i c m₁ Z₁ I oI hc hoff hJ => ?_) fun m₁ Z₁ hJ => ?_
  · obtain ⟨po3, b, hpo3, rfl, hTP, hbl, rfl⟩ := hJ
    have hi : i < cs.length := by
      rcases Nat.lt_or_ge i cs.length with q | q
      · exact q
      · rw [List.getElem?_eq_none q] at hc; exact nomatch hc
    have hc6 := hcs c (List.mem_of_getElem? hc)
    have no2 : ∀ p ∈ [((C, oC) : Addr × Obj), (I, oI)], @Ne Nat p.1 pen := fun p hp => by
      rcases List.mem_cons.mp hp with rfl | hp
      · exact Nat.ne_of_gt hpC
      · rw [List.mem_singleton.mp hp]; exact Ne.symm (hoff (pen, po3) (.head _))
    refine ev_cell O (by kernel_rfl!) (.tail _ (.head _)) ho ?_
    refine ca_draw (R := [(C, oC), (I, oI)]) O.k hd hu hpo3 ⟨by decide, by decide⟩ rfl (fun _ h => h) no2 fun r po4 _ _ hpo4 => ?_
    have fin : ∀ b' y, TP (cs.take (i + 1)) b' → b'.length ≤ 3 * (i + 1) → subM [(PySem.Str.ofString "value", .str cs), (PySem.Str.ofString "text", .str (39 :: b'))] y → LpK (TxV pen C oC cs) i I oI (Rt (SubK K)) .next y [(pen, po4), (C, oC), (I, oI)] := fun b' y h1 h2 h3 => ⟨_, [(pen, po4), (C, oC)], ⟨po4, b', hpo4, rfl, h1, h2, rfl⟩, h3, rfl, fun p hp => (List.mem_cons.mp hp).elim (fun e => by rw [e]; exact hoff (pen, po3) (.head _)) fun hp => hoff p (.tail _ hp)⟩
    refine ca_int ⟨rfl, ⟨by split <;> (first | lia | omega), by split <;> (first | lia | omega)⟩, ?_⟩
    refine ⟨fun hq => ?_, fun hq => ?_⟩
    · have e : c = 39 := by simpa using hq
      subst e
      exact ⟨by simp only [List.length_append, List.length_cons, List.length_nil, List.length_replicate]; split <;> (first | lia | omega), ⟨by simp only [List.length_append, List.length_cons, List.length_nil, List.length_replicate]; split <;> (first | lia | omega), fin (b ++ (List.replicate (if (r == 2) = true then (1 : Int) else 0).toNat 10 ++ [39, 39])) _ (by rw [List.take_add_one, hc, Option.toList_some]; exact tp_t39 hTP _) (by simp only [List.length_append, List.length_cons, List.length_nil, List.length_replicate]; split <;> (first | lia | omega)) ⟨rfl, rfl, trivial⟩⟩⟩
    · have e : c ≠ 39 := by simpa using hq
      exact ⟨by simp only [List.length_append, List.length_cons, List.length_nil, List.length_replicate]; split <;> (first | lia | omega), ⟨by simp only [List.length_append, List.length_cons, List.length_nil, List.length_replicate]; split <;> (first | lia | omega), fin (b ++ (List.replicate (if (r == 2) = true then (1 : Int) else 0).toNat 10 ++ [c])) _ (by rw [List.take_add_one, hc, Option.toList_some]; exact tp_tc hTP _ e (by rintro rfl; simp at hc6)) (by simp only [List.length_append, List.length_cons, List.length_nil, List.length_replicate]; split <;> (first | lia | omega)) ⟨rfl, rfl, trivial⟩⟩⟩
  · obtain ⟨po3, b, hpo3, rfl, hTP, hbl, rfl⟩ := hJ
    rw [List.take_length] at hTP
    refine ev_cell O (by kernel_rfl!) (.tail _ (.head _)) ho ?_
    refine ca_draw (R := [(C, oC)]) O.k hd hu hpo3 ⟨by decide, by decide⟩ rfl (fun _ h => h) no fun r po4 _ _ hpo4 => ?_
    refine ca_int ⟨rfl, ⟨by split <;> (first | lia | omega), by split <;> (first | lia | omega)⟩, ⟨by simp only [List.length_append, List.length_cons, List.length_nil, List.length_replicate]; split <;> (first | lia | omega), ⟨by simp only [List.length_append, List.length_cons, List.length_nil, List.length_replicate]; split <;> (first | lia | omega), fun a vs ep hv hlt2 => ?_⟩⟩⟩
    rw [hlt2.1]
    exact ⟨[(a, tupO vs 0), (pen, po4)], fun p hp => (List.mem_cons.mp hp).elim (fun e => e ▸ .head _) fun hp => by rw [List.mem_singleton.mp hp]; exact .tail _ (.head _), hS a cs _ po4 vs (tp_fin hTP _ hc5 hbl) hpo4 hv⟩
end
section
open PySem PySem.W PySem.Calls PyProof.Rows
example : ∀ (w : World), (Mine.kk.heap_1 w.params).In default → PySem.Challenge.rw_no0260_01 = PySem.Challenge.rw_no0260_01 → True := by
  k_fill
  intros; trivial
theorem realLT {prog : Program} {w : World} {pen : Nat} {po : Obj} {W : Nat} (hpo : PenObj po) (hW : W = 69 ∨ W = 68) :
    ConT prog w 396 [.ref pen, .str [W]] 10 160 [(pen, po)] (fun K => ∀ a b l m e po' va vb, RealT l m e → l.length ≤ 20 → PenObj po' → SVs [.int (sz m e).1, .int (sz m e).2] va → SVs [.ref a, .str l] vb → pen < a → pen < b → K (.ref b) [(b, tupO vb 0), (a, tupO va 0), (pen, po')]) := by
  refine' conT_v (ns := [PySem.Str.ofString "pen", PySem.Str.ofString "word"]) ?k1 ?k2 ?k3 ?k4 ?_
  case k1 => k_is
  case k2 => k_is
  case k3 => exact b2 fun _ _ _ => BindsTo.of_eq (binds := [(_, _), (_, _)]) rfl
  case k4 => kernel_rfl!
  rintro κ dp un K rfl rfl O - hd hu hS
  have no : ∀ p ∈ ([] : Ld), @Ne Nat p.1 pen := fun _ h => nomatch h
  refine e1_swap2 O (by kernel_rfl!) (fun _ _ _ _ => by rfl) (ca_draw (R := []) O hd hu hpo ⟨by decide, by decide⟩ rfl (fun _ h => h) no fun r po1 r0 r1 hpo1 => ?_)
  refine ca_draw (R := []) O hd hu hpo1 ⟨by decide, by decide⟩ rfl (fun _ h => h) no fun q po2 q0 q1 hpo2 => ?_
  refine ca_str ⟨by (first | lia | omega), by (first | lia | omega)⟩ fun hl1 => ca_int ⟨rfl, ⟨by split <;> (first | lia | omega), by split <;> (first | lia | omega)⟩, ⟨by simp only [List.length_cons, List.length_nil, List.length_replicate]; split <;> (first | lia | omega), ⟨by simp only [List.length_cons, List.length_nil]; (first | lia | omega), fun a vs ep hv hlt => ?_⟩⟩⟩
  refine ca_pick (R := []) O hd hu hpo2 hv ⟨by simp, by simp⟩ hlt rfl no fun x po3 hx hpo3 => ?_
  simp only [List.mem_cons, List.not_mem_nil, or_false] at hx
  obtain ⟨mid, rfl, hmid⟩ : ∃ mid, x = .str mid ∧ (mid = [W] ∨ mid = W :: List.replicate (if decide (0 ≤ q - 2) = true then (1 : Int) else 0).toNat 43 ∨ mid = [46, W]) := by
    rcases hx with rfl | rfl | rfl
    · exact ⟨_, rfl, .inl rfl⟩
    · exact ⟨_, rfl, .inr (.inl rfl)⟩
    · exact ⟨_, rfl, .inr (.inr rfl)⟩
  obtain ⟨hT, hTl⟩ := real_text3 r1 q1 r0 q0 hW hmid
  rw [List.length_append, List.length_append] at hTl
  refine ⟨by (first | lia | omega), ca_str ⟨by (first | lia | omega), by (first | lia | omega)⟩ fun hl2 => ⟨by rw [List.length_append]; (first | lia | omega), ?_⟩⟩
  rw [← List.length_append, ← List.length_append] at hTl
  generalize (strI (r - 150) ++ mid) ++ strI (q - 2) = l at hT hTl
  generalize r - 150 = m at hT
  generalize q - 2 = e at hT
  refine e1_while O (fun k y Z => ∃ m' e' : Int, Z = [(pen, po3)] ∧ y = [(PySem.Str.ofString "pen", .ref pen), (PySem.Str.ofString "m", .int m'), (PySem.Str.ofString "e", .int e'), (PySem.Str.ofString "text", .str l)] ∧ k = m'.natAbs ∧ sz m e = sz m' e') ⟨m, e, rfl, rfl, rfl, rfl⟩ ⟨rfl, rfl, rfl, rfl, trivial⟩ ?_
  rintro k m₁ Z₁ Kb hb1 - - ⟨m', e', rfl, rfl, rfl, hs⟩
  have q1 := fd10 m'
  have q2 := fm10 m'
  have fin : ∀ v, SVs [SV.int m', v] = SVs [.int m', v] := fun _ => rfl
  refine ⟨fun hz => ⟨by decide, fun hb => ift rfl ?_, fun hb => iff_ rfl ?_⟩, fun hz => iff_ rfl ?_⟩
  · have q : Int.fmod m' 10 = 0 := by simpa using hb
    have hz : m' ≠ 0 := by simpa using hz
    refine e1_swap2 O (by kernel_rfl!) (fun _ _ _ _ => by rfl) ⟨⟨by decide, by decide⟩, ?_⟩
    exact hb1 (Int.fdiv m' 10).natAbs _ _ _ (by rw [q1]; (first | lia | omega)) ⟨Int.fdiv m' 10, e' + 1, rfl, rfl, rfl, hs.trans (sz_go hz q)⟩ ⟨rfl, rfl, rfl, rfl, trivial⟩
  · have q : Int.fmod m' 10 ≠ 0 := by simpa using hb
    refine ift hz fun a va ep hv hlt => fun b vb ep2 hv2 hlt2 => ?_
    rw [hlt.1, hlt2.1]
    exact hS a b l m e po3 va vb hT hTl hpo3 (by rw [hs, sz_stop q]; exact hv) hv2 (hlt.2 _ (.head _)) (hlt2.2 _ (.tail _ (.head _)))
  · have hz2 : m' = 0 := by simpa using hz
    refine iff_ hz fun a va ep hv hlt => fun b vb ep2 hv2 hlt2 => ?_
    rw [hlt.1, hlt2.1]
    exact hS a b l m e po3 va vb hT hTl hpo3 (by rw [hs, hz2, sz_zero]; rw [hz2] at hv; exact hv) hv2 (hlt.2 _ (.head _)) (hlt2.2 _ (.tail _ (.head _)))
end
section
open PySem PySem.W PySem.Calls PyProof.Rows
example : ∀ (w : World), (Mine.kk.heap_1 w.params).In default → PySem.Challenge.rw_no0260_01 = PySem.Challenge.rw_no0260_01 → True := by
  k_fill
  intros; trivial
theorem offc {pen c : Nat} {po o : Obj} (h : PenObj po) {p : Addr × Obj} (hp : p.2.cls = .type "tuple") (hl : @LT.lt Nat _ p.1 c) : p ∉ [(pen, po), (c, o)] := fun q =>
  (List.mem_cons.mp q).elim (fun q => pen_tup h hp (by rw [q]; exact .head _)) fun q => Nat.lt_irrefl c (by have e : p.1 = c := congrArg Prod.fst (List.mem_singleton.mp q); rw [e] at hl; exact hl)
theorem item2T {prog : Program} {w : World} {pen : Nat} {po : Obj} (hpo : PenObj po) :
    ConT prog w 408 [.ref pen] 20 400 [(pen, po)] (fun K => ∀ it kind len x T v' nx po' t1 t2 t3, ItOk kind len x T → IsV x v' nx → PenObj po' → pen < it → (∀ p ∈ nx, pen < p.1) → K (.ref it) ((it, tupO [.int kind t1, .int len t2, v', .str (tx T) t3] 0) :: (pen, po') :: nx)) := by
  refine conT_sub ?_
  refine' conT_v (ns := [PySem.Str.ofString "pen"]) ?k1 ?k2 ?k3 ?k4 ?_
  case k1 => k_is
  case k2 => k_is
  case k3 => exact b1 fun _ _ => BindsTo.of_eq (binds := [(_, _)]) rfl
  case k4 => kernel_rfl!
  rintro κ dp un _ rfl rfl O - hd hu ⟨K, hS, rfl⟩
  have no : ∀ p ∈ ([] : Ld), @Ne Nat p.1 pen := fun _ h => nomatch h
  have fin : ∀ (kind len : Int) (x : Wt) (sv : SV) (T : List Nat) (nx : Ld) (po' : Obj) (it : Nat) (vs : List Value) (Z : Ld), ItOk kind len x T → (∀ v', SV.Is sv v' → IsV x v' nx) → PenObj po' → (∀ p ∈ nx, pen < p.1) → (∀ p ∈ (pen, po') :: nx, p ∈ Z) → SVs [.int kind, .int len, sv, .str T] vs → (∀ p ∈ Z, @LT.lt Nat _ p.1 it) → SubK K (.ref it) ((it, tupO vs 0) :: Z) := by
    intro kind len x sv T nx po' it vs Z h1 h2 h3 h3' h4 h5 h6
    obtain ⟨_, _, v', _, rfl, ⟨t1, rfl⟩, ⟨t2, rfl⟩, hv', ⟨t3, rfl⟩⟩ := svs4 h5
    refine ⟨_, fun p hp => ?_, hS it kind len x T v' nx po' t1 t2 t3 h1 (h2 v' hv') h3 (h6 _ (h4 _ (.head _))) h3'⟩
    rcases List.mem_cons.mp hp with rfl | hp
    · exact .head _
    · exact .tail _ (h4 p hp)
  intro a vs ep hv hlt
  refine ca_draw (R := [(a, tupO vs ep)]) O hd hu hpo ⟨by decide, by decide⟩ rfl (fun p hp => (List.mem_cons.mp hp).elim (fun e => e ▸ .tail _ (.head _)) fun hp => by rw [List.mem_singleton.mp hp]; exact .head _) (fun p hp => by rw [List.mem_singleton.mp hp]; exact fun q => Nat.lt_irrefl pen (by have := hlt.2 (pen, po) (.head _); rw [show a = pen from q] at this; exact this)) fun r po1 r0 r1 hpo1 => ?_
  have pm : ∀ po1, ∀ p ∈ [((pen, po1) : Addr × Obj)], p ∈ (pen, po1) :: [(a, tupO vs ep)] := fun po1 p hp => by rw [List.mem_singleton.mp hp]; exact .head _
  have hr : r = 0 ∨ r = 1 ∨ r = 2 ∨ r = 3 ∨ r = 4 ∨ r = 5 := by (first | lia | omega)
  have tp : ∀ po1, TupAt κ ((pen, po1) :: [(a, tupO vs ep)]) a _ := fun po1 => tup_mem hv (.tail _ (.head _))
  have real : ∀ (kind W : Nat), True := fun _ _ => trivial
  rcases hr with rfl | rfl | rfl | rfl | rfl | rfl
  · refine vit_tup O rfl (tp po1) ⟨by decide, by decide⟩ rfl (ift rfl ?_)
    refine ca_con (rest := []) O hd hu (textT hpo1) rfl (pm po1) (fun _ h => nomatch h) fun b V T po2 vb hT hpo2 hvb => vun (tup_mem hvb (.head _)) rfl ?_
    refine ca_draw (R := []) O hd hu hpo2 ⟨by decide, by decide⟩ rfl (fun p hp => by rw [List.mem_singleton.mp hp]; exact .tail _ (.head _)) no fun q po3 q0 q1 hpo3 => ?_
    obtain ⟨b2, hb2, hTl, hVl, hTl2⟩ := id hT
    refine ⟨rfl, ⟨by (first | lia | omega), by (first | lia | omega)⟩, ⟨by simp only [List.length_replicate]; (first | lia | omega), ⟨⟨by simp only [List.length_append, List.length_replicate]; (first | lia | omega), by (first | lia | omega)⟩, fun it vs4 ep4 hv4 hlt4 => ?_⟩⟩⟩
    rw [hlt4.1]
    exact fin 5 (1 + q) (.txt _) (.str _) T [] po3 it vs4 _ (it_txt hT ⟨by (first | lia | omega), by (first | lia | omega)⟩) (fun v' h => ⟨h, rfl⟩) hpo3 (fun _ h => (nomatch h)) (fun _ h => h) hv4 hlt4.2
  · refine vit_tup O rfl (tp po1) ⟨by decide, by decide⟩ rfl (iff_ rfl (ift rfl ?_))
    refine ca_draw (R := []) O hd hu hpo1 ⟨by decide, by decide⟩ rfl (pm po1) no fun q po2 q0 q1 hpo2 => ?_
    refine ev_and2 O ⟨_, rfl, fun hq => ⟨by decide, ?_⟩, fun hq => ?_⟩
    · refine ca_int ⟨rfl, ⟨by split <;> (first | lia | omega), by split <;> (first | lia | omega)⟩, ca_str ⟨by (first | lia | omega), by (first | lia | omega)⟩ fun hl => ⟨by simp only [List.length_replicate]; split <;> (first | lia | omega), fun it vs4 ep4 hv4 hlt4 => ?_⟩⟩
      rw [hlt4.1]
      exact fin 0 0 (.int _) (.int _) _ [] po2 it vs4 _ (it_int ⟨by (first | lia | omega), by (first | lia | omega)⟩ (fun _ => of_decide_eq_true hq)) (fun v' h => ⟨h, rfl⟩) hpo2 (fun _ h => (nomatch h)) (fun _ h => h) hv4 hlt4.2
    · refine ca_int ⟨rfl, ⟨by decide, by decide⟩, ca_str ⟨by (first | lia | omega), by (first | lia | omega)⟩ fun hl => ⟨by simp only [List.length_replicate]; split <;> (first | lia | omega), fun it vs4 ep4 hv4 hlt4 => ?_⟩⟩
      rw [hlt4.1]
      exact fin 0 0 (.int _) (.int _) _ [] po2 it vs4 _ (it_int (q := false) ⟨by (first | lia | omega), by (first | lia | omega)⟩ (fun h => nomatch h)) (fun v' h => ⟨h, rfl⟩) hpo2 (fun _ h => (nomatch h)) (fun _ h => h) hv4 hlt4.2
  · refine vit_tup O rfl (tp po1) ⟨by decide, by decide⟩ rfl (iff_ rfl (iff_ rfl (iff_ rfl (ift rfl (iff_ rfl ?_)))))
    refine ca_con (rest := []) O hd hu (realLT hpo1 (.inl rfl)) rfl (pm po1) (fun _ h => nomatch h) fun a1 b l m e po2 va vb hT hl hpo2 hva hvb ha hb => vun (tup_mem hvb (.head _)) rfl fun it vs4 ep4 hv4 hlt4 => ?_
    rw [hlt4.1]
    obtain ⟨_, _, rfl, ⟨t1, rfl⟩, ⟨t2, rfl⟩⟩ := svs2 hva
    exact fin 1 0 (.real _ _) (.ref a1) l [(a1, _)] po2 it vs4 _ (it_real (.inl rfl) hT hl) (fun v' h => ⟨a1, t1, t2, h, rfl⟩) hpo2 (fun p hp => by rw [List.mem_singleton.mp hp]; exact ha) (fun p hp => (List.mem_cons.mp hp).elim (fun e => e ▸ .tail _ (.tail _ (.head _))) fun hp => by rw [List.mem_singleton.mp hp]; exact .tail _ (.head _)) hv4 hlt4.2
  · refine vit_tup O rfl (tp po1) ⟨by decide, by decide⟩ rfl (iff_ rfl (iff_ rfl (iff_ rfl (ift rfl (ift rfl ?_)))))
    refine ca_con (rest := []) O hd hu (realLT hpo1 (.inr rfl)) rfl (pm po1) (fun _ h => nomatch h) fun a1 b l m e po2 va vb hT hl hpo2 hva hvb ha hb => vun (tup_mem hvb (.head _)) rfl fun it vs4 ep4 hv4 hlt4 => ?_
    rw [hlt4.1]
    obtain ⟨_, _, rfl, ⟨t1, rfl⟩, ⟨t2, rfl⟩⟩ := svs2 hva
    exact fin 2 0 (.real _ _) (.ref a1) l [(a1, _)] po2 it vs4 _ (it_real (.inr rfl) hT hl) (fun v' h => ⟨a1, t1, t2, h, rfl⟩) hpo2 (fun p hp => by rw [List.mem_singleton.mp hp]; exact ha) (fun p hp => (List.mem_cons.mp hp).elim (fun e => e ▸ .tail _ (.tail _ (.head _))) fun hp => by rw [List.mem_singleton.mp hp]; exact .tail _ (.head _)) hv4 hlt4.2
  · refine vit_tup O rfl (tp po1) ⟨by decide, by decide⟩ rfl (iff_ rfl (iff_ rfl (iff_ rfl (iff_ rfl ?_))))
    refine ca_con (rest := []) O hd hu (realLT hpo1 (.inl rfl)) rfl (pm po1) (fun _ h => nomatch h) fun a1 b1 l1 m1 e1 po2 va1 vb1 hT1 hl1 hpo2 hva1 hvb1 ha1 hb1 => vun (tup_mem hvb1 (.head _)) rfl ?_
    refine ca_con (rest := [(a1, tupO va1 0)]) O hd hu (realLT hpo2 (.inl rfl)) rfl (fun p hp => by rw [List.mem_singleton.mp hp]; exact .tail _ (.tail _ (.head _))) (fun p hp => by rw [List.mem_singleton.mp hp]; exact ⟨.tail _ (.head _), pen_tup hpo2 rfl⟩) fun a2 b2 l2 m2 e2 po3 va2 vb2 hT2 hl2 hpo3 hva2 hvb2 ha2 hb2 => vun (tup_mem hvb2 (.head _)) rfl ?_
    have off : ∀ p ∈ [((a2, tupO va2 0) : Addr × Obj), (a1, tupO va1 0)], @LT.lt Nat _ pen p.1 := fun p hp => (List.mem_cons.mp hp).elim (fun e => e ▸ ha2) fun hp => by rw [List.mem_singleton.mp hp]; exact ha1
    intro c vs5 ep5 hv5 hlt5
    refine ca_con (rest := [(a2, tupO va2 0), (a1, tupO va1 0)]) O hd hu (pickT hpo3 hv5 ⟨by simp, by simp⟩) rfl (fun p hp => (List.mem_cons.mp hp).elim (fun e => e ▸ .tail _ (.tail _ (.tail _ (.head _)))) fun hp => by rw [List.mem_singleton.mp hp]; exact .head _) (fun p hp => (List.mem_cons.mp hp).elim (fun e => by rw [e]; exact ⟨.tail _ (.tail _ (.head _)), offc hpo3 rfl (hlt5.2 (a2, tupO va2 0) (.tail _ (.head _)))⟩) fun hp => by rw [List.mem_singleton.mp hp]; exact ⟨.tail _ (.tail _ (.tail _ (.tail _ (.head _)))), offc hpo3 rfl (hlt5.2 (a1, tupO va1 0) (.tail _ (.tail _ (.tail _ (.head _)))))⟩) fun x po4 hx hpo4 => ?_
    simp only [List.mem_cons, List.not_mem_nil, or_false] at hx
    obtain ⟨C, rfl, hC⟩ : ∃ C, x = .str C ∧ (C = [44] ∨ C = [32, 44, 32] ∨ C = [10, 44] ∨ C = [44, 32, 10, 32] ∨ C = [32, 10, 32, 44, 32]) := by
      rcases hx with rfl | rfl | rfl | rfl | rfl
      · exact ⟨_, rfl, .inl rfl⟩
      · exact ⟨_, rfl, .inr (.inl rfl)⟩
      · exact ⟨_, rfl, .inr (.inr (.inl rfl))⟩
      · exact ⟨_, rfl, .inr (.inr (.inr (.inl rfl)))⟩
      · exact ⟨_, rfl, .inr (.inr (.inr (.inr rfl)))⟩
    have lC : C.length ≤ 5 := by rcases hC with rfl | rfl | rfl | rfl | rfl <;> decide
    intro d vsd epd hvd hltd
    have offd : ∀ p ∈ ((d, tupO vsd epd) : Addr × Obj) :: [(a2, tupO va2 0), (a1, tupO va1 0)], @LT.lt Nat _ pen p.1 := fun p hp => (List.mem_cons.mp hp).elim (fun e => e ▸ hltd.2 (pen, po4) (.head _)) (off p)
    have ne : ∀ p ∈ ((d, tupO vsd epd) : Addr × Obj) :: [(a2, tupO va2 0), (a1, tupO va1 0)], @Ne Nat p.1 pen := fun p hp => Nat.ne_of_gt (offd p hp)
    refine ca_draw (R := (d, tupO vsd epd) :: [(a2, tupO va2 0), (a1, tupO va1 0)]) O hd hu hpo4 ⟨by decide, by decide⟩ rfl (fun p hp => (List.mem_cons.mp hp).elim (fun e => e ▸ .tail _ (.head _)) fun hp => (List.mem_cons.mp hp).elim (fun e => e ▸ .head _) fun hp => .tail _ (.tail _ hp)) ne fun q po5 q0 q1 hpo5 => ?_
    refine ⟨rfl, ⟨by (first | lia | omega), by (first | lia | omega)⟩, ⟨by simp only [List.length_cons, List.length_nil, List.length_replicate]; (first | lia | omega), ⟨by simp only [List.length_append, List.length_cons, List.length_nil, List.length_replicate]; (first | lia | omega), ⟨by simp only [List.length_append, List.length_cons, List.length_nil, List.length_replicate]; (first | lia | omega), ⟨by simp only [List.length_append, List.length_cons, List.length_nil, List.length_replicate]; (first | lia | omega), ?_⟩⟩⟩⟩⟩
    refine ca_draw (R := (d, tupO vsd epd) :: [(a2, tupO va2 0), (a1, tupO va1 0)]) O hd hu hpo5 ⟨by decide, by decide⟩ rfl (fun _ h => h) ne fun n po6 n0 n1 hpo6 => ?_
    refine ⟨rfl, ⟨by (first | lia | omega), by (first | lia | omega)⟩, ⟨by simp only [List.length_append, List.length_cons, List.length_nil, List.length_replicate]; (first | lia | omega), ⟨by simp only [List.length_append, List.length_cons, List.length_nil, List.length_replicate]; (first | lia | omega), fun it vs4 ep4 hv4 hlt4 => ?_⟩⟩⟩
    rw [hlt4.1]
    obtain ⟨_, _, rfl, rfl, rfl⟩ := svs2 hvd
    obtain ⟨_, _, rfl, ⟨t1, rfl⟩, ⟨t2, rfl⟩⟩ := svs2 hva1
    obtain ⟨_, _, rfl, ⟨t3, rfl⟩, ⟨t4, rfl⟩⟩ := svs2 hva2
    refine fin 3 0 (.cplx (sz m1 e1).1 (sz m1 e1).2 (sz m2 e2).1 (sz m2 e2).2) (.ref d) _ [(d, tupO [.ref a1, .ref a2] epd), (a1, tupO [.int (sz m1 e1).1 t1, .int (sz m1 e1).2 t2] 0), (a2, tupO [.int (sz m2 e2).1 t3, .int (sz m2 e2).2 t4] 0)] po6 it vs4 _ ?_ (fun v' h => ⟨d, a1, a2, t1, t2, t3, t4, h, by rw [hltd.1]⟩) hpo6 (fun p hp => ?_) (fun p hp => ?_) hv4 hlt4.2
    · have := it_cplx (n1 := q.toNat) (n2 := n.toNat) hT1 hT2 hl1 hl2 (by (first | lia | omega)) (by (first | lia | omega)) hC
      simp only [List.append_assoc, List.cons_append, List.nil_append, List.headD_cons] at this ⊢
      exact this
    · rcases List.mem_cons.mp hp with rfl | hp
      · exact offd _ (.head _)
      · rcases List.mem_cons.mp hp with rfl | hp
        · exact ha1
        · rw [List.mem_singleton.mp hp]; exact ha2
    · rcases List.mem_cons.mp hp with rfl | hp
      · exact .head _
      · rcases List.mem_cons.mp hp with rfl | hp
        · exact .tail _ (.head _)
        · rcases List.mem_cons.mp hp with rfl | hp
          · exact .tail _ (.tail _ (.tail _ (.head _)))
          · rw [List.mem_singleton.mp hp]; exact .tail _ (.tail _ (.head _))

  · refine vit_tup O rfl (tp po1) ⟨by decide, by decide⟩ rfl (iff_ rfl (iff_ rfl (ift rfl ?_)))
    refine ca_draw (R := []) O hd hu hpo1 ⟨by decide, by decide⟩ rfl (pm po1) no fun q po2 q0 q1 hpo2 => ?_
    have hq : q = 0 ∨ q = 1 ∨ q = 2 ∨ q = 3 := by (first | lia | omega)
    refine ⟨by decide, fun a2 vs2 ep2 hv2 hlt2 => ?_⟩
    rcases hq with rfl | rfl | rfl | rfl
    · refine vit_tup O rfl (tup_mem hv2 (.head _)) ⟨by decide, by decide⟩ rfl fun it vs4 ep4 hv4 hlt4 => ?_
      rw [hlt4.1]
      exact fin 4 0 (.bool true) (.bool true) _ [] po2 it vs4 _ (it_log (.inl ⟨rfl, rfl⟩)) (fun v' h => ⟨h, rfl⟩) hpo2 (fun _ h => (nomatch h)) (fun _ h => .tail _ h) hv4 hlt4.2
    · refine vit_tup O rfl (tup_mem hv2 (.head _)) ⟨by decide, by decide⟩ rfl fun it vs4 ep4 hv4 hlt4 => ?_
      rw [hlt4.1]
      exact fin 4 0 (.bool false) (.bool false) _ [] po2 it vs4 _ (it_log (.inr (.inl ⟨rfl, rfl⟩))) (fun v' h => ⟨h, rfl⟩) hpo2 (fun _ h => (nomatch h)) (fun _ h => .tail _ h) hv4 hlt4.2
    · refine vit_tup O rfl (tup_mem hv2 (.head _)) ⟨by decide, by decide⟩ rfl fun it vs4 ep4 hv4 hlt4 => ?_
      rw [hlt4.1]
      exact fin 4 0 (.bool true) (.bool true) _ [] po2 it vs4 _ (it_log (.inr (.inr (.inl ⟨rfl, rfl⟩)))) (fun v' h => ⟨h, rfl⟩) hpo2 (fun _ h => (nomatch h)) (fun _ h => .tail _ h) hv4 hlt4.2
    · refine vit_tup O rfl (tup_mem hv2 (.head _)) ⟨by decide, by decide⟩ rfl fun it vs4 ep4 hv4 hlt4 => ?_
      rw [hlt4.1]
      exact fin 4 0 (.bool false) (.bool false) _ [] po2 it vs4 _ (it_log (.inr (.inr (.inr ⟨rfl, rfl⟩)))) (fun v' h => ⟨h, rfl⟩) hpo2 (fun _ h => (nomatch h)) (fun _ h => .tail _ h) hv4 hlt4.2
end
section
open PySem PySem.W PySem.Calls PyProof.Rows
example : ∀ (w : World), (Mine.kk.heap_1 w.params).In default → PySem.Challenge.rw_no0260_01 = PySem.Challenge.rw_no0260_01 → True := by
  k_fill
  intros; trivial
section
variable {κ : Kx} {sc : Scope} {dp un : Nat} {m : Mp} {Z : Ld}
noncomputable def LpW (J : Nat → Mp → Ld → Prop) (i : Nat) (its : Ld) (l : Addr × Obj) : Fl → Mp → Ld → Prop
  | .next, m', Z' => ∃ mj Z₂, J (i + 1) mj Z₂ ∧ subM mj m' ∧ (∀ p ∈ its ++ Z₂, p ∈ Z') ∧ l ∈ Z₂ ∧ ∀ p ∈ Z₂, ∀ q ∈ its, p.1 ≠ q.1 ∨ p.2.cls ≠ q.2.cls
  | _, _, _ => False
theorem lpw_post {J : Nat → Mp → Ld → Prop} {i : Nat} {its : Ld} {l : Addr × Obj} {h : Heap} {tk : Nat} {h0 : Heap} {tk0 : Nat} {Q : Flow → Shared → Prop} (hL : κ.env.locals = κ.L) {m : Mp} {Z : Ld} {body : List Stmt} (O : KOk κ sc dp un) (hx : vX κ sc 60 m Z body (LpW J i its l)) (F : FrS κ h m) (N : News κ.g κ.L h Z) :
    wpAny (model κ.prog κ.w) κ.A (execs body κ.env) (UnrPostW κ.g κ.env.locals { κ.st h0 tk0 with heap := h, toks := tk } its (fun m' Z' => SubL [l] Z' ∧ ∃ m, J (i + 1) m Z' ∧ Knows κ.env.scope m m') Q) κ.E (κ.st h tk) := by
  refine vX_of O 60 _ _ _ _ hx h tk _ F N fun fl f m₃ Z₃ h₃ tk₃ y hf F₃ N₃ => ?_
  obtain ⟨m₃', F₃', hm₃⟩ := id F₃
  induction fl with
  | next =>
    obtain rfl := hf
    obtain ⟨mj, Z₂, hj', hsj, hZ, hl, ha⟩ := y
    rw [← hL] at F₃' N₃
    exact ⟨h₃, tk₃, m₃', Z₂, rfl, F₃', fun p hp => N₃ p (hZ p hp), fun p hp q hq => (ha p hp q hq).elim id fun e => cls_ne N₃ (hZ p (List.mem_append_right _ hp)) (hZ q (List.mem_append_left _ hq)) e, ⟨hl, trivial⟩, mj, hj', knows_sub hsj hm₃⟩
  | cont => exact y.elim
  | brk => exact y.elim
  | ret v => exact y.elim
noncomputable def EnR (κ : Kx) (sc : Scope) (J : Nat → Mp → Ld → Prop) (x : Str) (ns : List Str) (body : List Stmt) (l : Addr × Obj) (vs : List Value) (m₀ : Mp) (Z' : Ld) : Prop := l ∈ Z' ∧ J 0 m₀ Z' ∧ ∀ I : Nat, (∀ p ∈ Z', @LT.lt Nat _ p.1 I) → ∀ i v m₁ Z₁ oE oI, vs[i]? = some v → J i m₁ Z₁ → ∃ a, v = .ref a ∧ VUn κ ((I + 1, oE) :: (I, oI) :: Z₁) a ns.length fun xs => msetK x (.int (i : Int)) m₁ fun m₂ => msetLK ns xs m₂ fun m₃ => vX κ sc 60 m₃ ((I + 1, oE) :: (I, oI) :: Z₁) body (LpW J i [(I + 1, oE), (I, oI)] l)
theorem e1_forE {x : Str} {px p p2 p3 pe pc : Pos} {k k2 : Nat} {es : List Expr} {ns : List Str} {e : Expr} {body : List Stmt} {K : Fl → Mp → Ld → Prop} {l : Addr} {vs : List Value} {ep : Nat} {m₀ : Mp} (O : KOk κ sc dp un) (J : Nat → Mp → Ld → Prop) (hns : Nms es ns)
    (hx : (isLoc sc x && ns.all (isLoc sc) && isGlb sc (PySem.Str.ofString "enumerate") && plE e) = true)
    (hit : vE κ sc m Z e fun v Z' => v = .ref l ∧ EnR κ sc J x ns body (l, listOf vs.toArray ep) vs m₀ Z')
    (hs : subM m₀ m) (done : ∀ m₁ Z₁, J vs.length m₁ Z₁ → K .next m₁ Z₁) : E1 κ m Z (.For (.Tuple [.Name x px, .Tuple es k2 p2] k p3) (.Call (.Name (PySem.Str.ofString "enumerate") pe) [e] [] pc) body [] p) K := by
  intro hp tk Q F N q
  simp only [Bool.and_eq_true] at hx
  obtain ⟨⟨⟨hx1, hx4⟩, hx2⟩, hx3⟩ := hx
  obtain ⟨hL, hcl, hh⟩ := O.loc
  have es2 := O.scp
  obtain ⟨m', F', hm⟩ := id F
  refine For_turns (h₀ := κ.g) (m := m') (s := κ.st hp tk) (by rw [hL]; exact F') ?_ (fun _ => rfl) O.pe
  obtain ⟨gd, outer, base, mean, mg, mb, nm, a, cd, hA, hE, B, X, T⟩ := O.ok
  obtain ⟨c, hc⟩ := blAt_mem (show blAt (nmc (PySem.Str.ofString "enumerate")) (PySem.Str.ofString "enumerate") bl = some (Value.type "enumerate") by kernel_rfl!)
  obtain ⟨b1, b2, b3, b4⟩ := bl_ok κ.w _ hc
  dsimp only at b1 b2 b3 b4
  obtain ⟨h1, h2⟩ := isGlb_of hx2
  have hes := es_cons (es := []) (K := fun xs Z' => xs = [.ref l] ∧ EnR κ sc J x ns body (l, listOf vs.toArray ep) vs m₀ Z') hx3 (ev_mono (vE_of O hit) fun v Z' q => es_nil ⟨by rw [q.1], q.2⟩)
  have hx := hes pc hp tk
  have key : ∀ (Q2 : Value → Shared → Prop), (∀ h' tk' Z', (EnR κ sc J x ns body (l, listOf vs.toArray ep) vs m₀ Z') → FrS κ h' m → News κ.g κ.L h' Z' → wpAny (model κ.prog κ.w) κ.A (call (.type "enumerate") [.ref l]) Q2 κ.E (κ.st h' tk')) → wpAny (model κ.prog κ.w) κ.A (eval (.Call (.Name (PySem.Str.ofString "enumerate") pe) [e] [] pc) κ.env) Q2 κ.E (κ.st hp tk) := by
    intro Q2 k
    rw [hE] at hx ⊢
    refine Call_ (nameX_B (s := κ.st hp tk) F' X (topRead_of T) b1 b2 b3 ?_ O.fn h1 h2)
    rw [pl_star hx3] at hx ⊢
    refine callWith_of (P := fun _ => True) rfl (fun _ _ => ⟨.machine, .inr (.inl rfl), Looks.of_pure rfl⟩) (evalArgs_plain (hx _ F N fun xs vs Z' h' tk' kk hvs F2 N2 => ⟨trivial, ?_⟩))
    obtain ⟨rfl, kk⟩ := kk
    obtain ⟨_, rfl, rfl⟩ := svs1 hvs
    exact k h' tk' Z' kk F2 N2
  refine key _ fun h' tk' Z' ⟨hml, j0, turn⟩ F2 N2 => ?_
  obtain ⟨m2, F2, hm2⟩ := F2
  rw [← hL] at F2 N2
  refine ktu_enum (s := κ.st h' tk') hh F2 N2 hml rfl rfl rfl fun I hI => ?_
  refine items_E (fun i m' nx => ∃ m, J i m nx ∧ Knows κ.env.scope m m') ⟨m₀, j0, knows_sub hs hm2⟩ ?_ ?_
  · rintro i v m₁' Z₁ T' t h₁ tk₁ oE oI hv ⟨m₁, hj, hm₁⟩ hTup F₁ hoE hoI N₁
    rw [hL] at F₁ N₁
    rw [es2] at hm₁
    obtain ⟨a1, rfl, ⟨xs, hT, hn, kk⟩⟩ := turn I hI i v m₁ Z₁ oE oI hv hj
    refine unpackN_ (s := κ.st h₁ tk₁) F₁ N₁ hTup hh rfl rfl fun h3 F3 N3 => ?_
    show wpAny _ _ (assignInOrder [assign (.Name x px) κ.env, assign (.Tuple es k2 p2) κ.env] [.int (i : Int) t, .ref a1]) _ _ _
    refine wpAny_assignInOrder_more (as_name (m := m₁) (v := .int (i : Int)) O hx1 ⟨_, rfl⟩ ⟨m₁', F3, by rw [es2]; exact hm₁⟩ N3 fun h4 tk4 F4 N4 => wpAny_assignInOrder_more (as_tup O hns (fun x hx => List.all_eq_true.mp hx4 x hx) hT hn F4 N4 fun h5 tk5 F5 N5 => wpAny_assignInOrder_none ?_))
    exact lpw_post (κ := κ) (h0 := h') (tk0 := tk') hL O (msetLK_of (msetK_of kk)) F5 N5
  · rintro m₁' Z₁ h₁ tk₁ ⟨m₁, hj, hm₁⟩ F₁ N₁
    rw [hL] at F₁ N₁
    exact q .next .next m₁ Z₁ h₁ tk₁ (done m₁ Z₁ hj) rfl ⟨m₁', F₁, hm₁⟩ N₁
noncomputable def LsR (κ : Kx) (sc : Scope) (J : Nat → Mp → Ld → Prop) (ns : List Str) (body : List Stmt) (l : Addr × Obj) (vs : List Value) (m₀ : Mp) (Z' : Ld) : Prop := l ∈ Z' ∧ J 0 m₀ Z' ∧ ∀ I : Nat, (∀ p ∈ Z', @LT.lt Nat _ p.1 I) → ∀ i v m₁ Z₁ oI, oI.cls = .type "list_iterator" → vs[i]? = some v → J i m₁ Z₁ → ∃ a, v = .ref a ∧ VUn κ ((I, oI) :: Z₁) a ns.length fun xs => msetLK ns xs m₁ fun m₃ => vX κ sc 60 m₃ ((I, oI) :: Z₁) body (LpW J i [(I, oI)] l)
theorem e1_forL {p p3 : Pos} {k : Nat} {es : List Expr} {ns : List Str} {e : Expr} {body : List Stmt} {K : Fl → Mp → Ld → Prop} {l : Addr} {vs : List Value} {ep : Nat} {m₀ : Mp} (O : KOk κ sc dp un) (J : Nat → Mp → Ld → Prop) (hns : Nms es ns)
    (hx : (ns.all (isLoc sc) && plE e) = true)
    (hit : vE κ sc m Z e fun v Z' => v = .ref l ∧ LsR κ sc J ns body (l, listOf vs.toArray ep) vs m₀ Z')
    (hs : subM m₀ m) (done : ∀ m₁ Z₁, J vs.length m₁ Z₁ → K .next m₁ Z₁) : E1 κ m Z (.For (.Tuple es k p3) e body [] p) K := by
  intro hp tk Q F N q
  simp only [Bool.and_eq_true] at hx
  obtain ⟨hx4, hx3⟩ := hx
  obtain ⟨hL, hcl, hh⟩ := O.loc
  have es2 := O.scp
  obtain ⟨m', F', hm⟩ := id F
  refine For_turns (h₀ := κ.g) (m := m') (s := κ.st hp tk) (by rw [hL]; exact F') ?_ (fun _ => pl_fold hx3) O.pe
  refine vE_of O hit hp tk _ F N fun v u Z' h' tk' ⟨hv, hml, j0, turn⟩ hu F2 N2 => ?_
  subst hv
  obtain rfl := hu
  obtain ⟨m2, F2, hm2⟩ := F2
  rw [← hL] at F2 N2
  refine iter_listTurns (s := κ.st h' tk') hh F2 N2 hml rfl rfl fun I hI => ?_
  refine items_L (fun i m' nx => ∃ m, J i m nx ∧ Knows κ.env.scope m m') ⟨m₀, j0, knows_sub hs hm2⟩ ?_ ?_
  · rintro i v m₁' Z₁ h₁ tk₁ oI hv ⟨m₁, hj, hm₁⟩ F₁ hoI N₁
    rw [hL] at F₁ N₁
    obtain ⟨a1, rfl, ⟨xs, hT, hn, kk⟩⟩ := turn I hI i v m₁ Z₁ oI hoI hv hj
    exact as_tup O hns (fun x hx => List.all_eq_true.mp hx4 x hx) hT hn ⟨m₁', F₁, hm₁⟩ N₁ fun h5 tk5 F5 N5 => lpw_post (κ := κ) (h0 := h') (tk0 := tk') hL O (msetLK_of kk) F5 N5
  · rintro m₁' Z₁ h₁ tk₁ ⟨m₁, hj, hm₁⟩ F₁ N₁
    rw [hL] at F₁ N₁
    exact q .next .next m₁ Z₁ h₁ tk₁ (done m₁ Z₁ hj) rfl ⟨m₁', F₁, hm₁⟩ N₁
end
end
section
open PySem PySem.W PySem.Calls PyProof.Rows
example : ∀ (w : World), (Mine.kk.heap_1 w.params).In default → PySem.Challenge.rw_no0260_01 = PySem.Challenge.rw_no0260_01 → True := by
  k_fill
  intros; trivial
theorem vcutIf {κ : Kx} {sc : Scope} {m : Mp} {Z : Ld} {n : Nat} {c : Bool} {a b : List Stmt} {K2 : Fl → Mp → Ld → Prop} (C : Mp → Ld → Prop) (main : (∀ m' Z', C m' Z' → K2 .next m' Z') → VIf c (vX κ sc n m Z a K2) (vX κ sc n m Z b K2)) (f : ∀ m' Z', C m' Z' → K2 .next m' Z') : VIf c (vX κ sc n m Z a K2) (vX κ sc n m Z b K2) := main f
noncomputable def SepOk (ρs : List Row) (ρ : Row) (i : Nat) (p1 : List Nat) : Prop := (i = 0 ∧ p1 = []) ∨ ∃ j ρ', i = j + 1 ∧ ρs[j]? = some ρ' ∧ Sep ρ'.null ρ.null p1
theorem sepOk_len {ρs : List Row} {ρ : Row} {i : Nat} {p1 : List Nat} (hs : SepOk ρs ρ i p1) : p1.length ≤ 3 := by
  rcases hs with ⟨_, rfl⟩ | ⟨_, _, _, _, h3⟩
  · exact Nat.zero_le _
  · exact sep_len h3
theorem spl_end {ρs : List Row} {ρ : Row} {i : Nat} {ps : List (List Nat × List Nat)} {p1 p2 : List Nat} (hS : Spl ρs ps i) (hρ : ρs[i]? = some ρ) (hok : ρ.Ok) (hfl : (flat ps).length ≤ 100 * i) (hc : Cell ρ p2) (hs : SepOk ρs ρ i p1) :
    ∃ ps', Spl ρs ps' (i + 1) ∧ (flat ps').length ≤ 100 * (i + 1) ∧ flat ps ++ p1 ++ p2 = flat ps' := by
  refine ⟨ps ++ [(p1, p2)], hS.snoc hρ hc (fun h0 => ?_) (fun j ρ' hj h1 => ?_), ?_, by rw [flat_snoc, ← List.append_assoc]⟩
  · rcases hs with ⟨_, h⟩ | ⟨j, _, h, _⟩
    · exact h
    · (first | lia | omega)
  · rcases hs with ⟨h, _⟩ | ⟨j', ρ2, h, h2, h3⟩
    · (first | lia | omega)
    · have : j' = j := by (first | lia | omega)
      subst this
      rw [h1] at h2; obtain rfl := Option.some.inj h2
      exact h3
  · have l1 := sepOk_len hs
    have l2 := cell_len hc hok.2.1 hok.2.2 hok.1.1
    rw [flat_snoc, List.length_append, List.length_append]
    show _ + (p1.length + p2.length) ≤ _
    (first | lia | omega)
theorem ca_pickR {κ : Kx} {sc : Scope} {dp un : Nat} {m : Mp} {Z : Ld} {pen a : Nat} {po : Obj} {vs : List Value} {ep : Nat} {xs : List SV} {R : Ld} {D U : Nat} {K : SV → Ld → Prop} (O : KOk κ sc dp un) (hD : dp + D < recursionLimit) (hU : un + U < cLine) (hpo : PenObj po) (hv : SVs xs vs) (hl : 2 ≤ xs.length ∧ xs.length ≤ 1000) (hlt : ep = 0 ∧ ∀ p ∈ Z, @LT.lt Nat _ p.1 a) (e : (Nat.ble 7 D && Nat.ble 83 U) = true) (hZ : ∀ p ∈ (pen, po) :: R, p ∈ Z) (hoff : ∀ p ∈ R, @LT.lt Nat _ pen p.1)
    (k : ∀ x po', x ∈ xs → PenObj po' → K x ((pen, po') :: R)) : Ca κ m ((a, tupO vs ep) :: Z) (.ref 389) [.ref pen, .ref a] K :=
  ca_con (rest := R) O hD hU (pickT hpo hv hl) e (fun p hp => (List.mem_cons.mp hp).elim (fun e => e ▸ .tail _ (hZ _ (.head _))) fun hp => by rw [List.mem_singleton.mp hp]; exact .head _) (fun p hp => ⟨.tail _ (hZ _ (.tail _ hp)), fun q => (List.mem_cons.mp q).elim (fun e => Nat.lt_irrefl pen (by have h1 := hoff p hp; rw [show p.1 = pen from congrArg Prod.fst e] at h1; exact h1)) fun q => Nat.lt_irrefl a (by have h1 : p.1 = a := congrArg Prod.fst (List.mem_singleton.mp q); have h2 := hlt.2 p (hZ _ (.tail _ hp)); rw [h1] at h2; exact h2)⟩) k
theorem sepC_of {x : SV} (hx : x ∈ [SV.str [44], .str [32, 44], .str [44, 32], .str [10, 44, 10], .str [44, 10, 32]]) : ∃ p1, x = .str p1 ∧ SepC p1 := by
  simp only [List.mem_cons, List.not_mem_nil, or_false] at hx
  rcases hx with rfl | rfl | rfl | rfl | rfl
  · exact ⟨_, rfl, .inl rfl⟩
  · exact ⟨_, rfl, .inr (.inl rfl)⟩
  · exact ⟨_, rfl, .inr (.inr (.inl rfl))⟩
  · exact ⟨_, rfl, .inr (.inr (.inr (.inl rfl)))⟩
  · exact ⟨_, rfl, .inr (.inr (.inr (.inr rfl)))⟩
theorem sepW_of {x : SV} (hx : x ∈ [SV.str [32], .str [32, 32], .str [10], .str [32, 10, 32]]) : ∃ p1, x = .str p1 ∧ SepW p1 := by
  simp only [List.mem_cons, List.not_mem_nil, or_false] at hx
  rcases hx with rfl | rfl | rfl | rfl
  · exact ⟨_, rfl, .inl rfl⟩
  · exact ⟨_, rfl, .inr (.inl rfl)⟩
  · exact ⟨_, rfl, .inr (.inr (.inl rfl))⟩
  · exact ⟨_, rfl, .inr (.inr (.inr rfl))⟩
theorem sepC_len {p : List Nat} (h : SepC p) : p.length ≤ 3 := sep_len (a := true) (b := true) (.inl h)
theorem sepW_len {p : List Nat} (h : SepW p) : p.length ≤ 3 := sep_len (a := false) (b := false) (.inr ⟨rfl, rfl, h⟩)
theorem isV_sv {x : Wt} {v : Value} {nx : Ld} (h : IsV x v nx) : ∃ sv : SV, sv.Is v := by
  induction x with
  | non => exact h.elim
  | txt l => exact ⟨.str _, h.1⟩
  | int n => exact ⟨.int _, h.1⟩
  | bool b => exact ⟨.bool _, h.1⟩
  | real m e => obtain ⟨a, _, _, h, _⟩ := h; exact ⟨.ref a, h⟩
  | cplx m e m' e' => obtain ⟨a, _, _, _, _, _, _, h, _⟩ := h; exact ⟨.ref a, h⟩
noncomputable def SpV (pen rl : Addr) (lo : Obj) (nx : Ld) (ρs : List Row) (i : Nat) (y : Mp) (Z' : Ld) : Prop := ∃ po' ps, PenObj po' ∧ Z' = (pen, po') :: (rl, lo) :: nx ∧ Spl ρs ps i ∧ (flat ps).length ≤ 100 * i ∧ y = [(PySem.Str.ofString "pen", .ref pen), (PySem.Str.ofString "rows", .ref rl), (PySem.Str.ofString "out", .str (flat ps))]
theorem speltT {prog : Program} {w : World} {pen rl : Nat} {po : Obj} {vs : List Value} {ep : Nat} {ρs : List Row} {nx : Ld} (hpo : PenObj po) (hR : RowsAt ρs vs nx) (hn : ρs.length ≤ 5) (hoff : ∀ p ∈ (rl, listOf vs.toArray ep) :: nx, @LT.lt Nat _ pen p.1) :
    ConT prog w 415 [.ref pen, .ref rl] 12 200 ((pen, po) :: (rl, listOf vs.toArray ep) :: nx) (fun K => ∀ ps po', Spl ρs ps ρs.length → (flat ps).length ≤ 500 → PenObj po' → K (.str (flat ps)) ((pen, po') :: (rl, listOf vs.toArray ep) :: nx)) := by
  refine' conT_v (ns := [PySem.Str.ofString "pen", PySem.Str.ofString "rows"]) ?k1 ?k2 ?k3 ?k4 ?_
  case k1 => k_is
  case k2 => k_is
  case k3 => exact b2 fun _ _ _ => BindsTo.of_eq (binds := [(_, _), (_, _)]) rfl
  case k4 => kernel_rfl!
  rintro κ dp un K rfl rfl O - hd hu hS
  generalize hlo : listOf vs.toArray ep = lo at hoff
  rw [hlo] at hS
  refine e1_forE O (l := rl) (vs := vs) (ep := ep) (ns := [PySem.Str.ofString "item", PySem.Str.ofString "times", PySem.Str.ofString "is_null"]) (SpV pen rl lo nx ρs) ⟨⟨_, rfl⟩, ⟨_, rfl⟩, ⟨_, rfl⟩, trivial⟩ (by kernel_rfl!) ⟨rfl, by rw [hlo]; exact .tail _ (.head _), ⟨po, [], hpo, rfl, .nil ρs, Nat.le_refl _, rfl⟩, fun I hI i v m₁ Z₁ oE oI hv hJ => ?_⟩ ⟨rfl, rfl, rfl, trivial⟩ ?_
  · obtain ⟨po2, ps, hpo2, rfl, hSp, hfl, rfl⟩ := hJ
    obtain ⟨ρ, nr, hρ, hok, ⟨a, it, v', nv, u0, u1, u2, u3, rfl, rfl, hV⟩, hsub⟩ := hR.get hv
    have hi5 : i < ρs.length := by
      rcases Nat.lt_or_ge i ρs.length with q | q
      · exact q
      · rw [List.getElem?_eq_none q] at hρ; obtain ⟨⟩ := hρ
    obtain ⟨R, hRe⟩ : ∃ R : Ld, (I + 1, oE) :: (I, oI) :: (rl, lo) :: nx = R := ⟨_, rfl⟩
    have hpI : pen < I := hI _ (.head _)
    have offR : ∀ p ∈ R, @LT.lt Nat _ pen p.1 := fun p hp => by
      rw [← hRe] at hp
      rcases List.mem_cons.mp hp with rfl | hp
      · exact Nat.lt_succ_of_lt hpI
      · rcases List.mem_cons.mp hp with rfl | hp
        · exact hpI
        · exact hoff p hp
    have mem1 : ∀ po, ∀ p ∈ (pen, po) :: R, p ∈ (I + 1, oE) :: (I, oI) :: (pen, po) :: (rl, lo) :: nx := fun po p hp => by
      rw [← hRe] at hp
      simp only [List.mem_cons] at hp ⊢
      rcases hp with q | q | q | q | q <;> simp [q]
    have mem2 : ∀ p ∈ nx, p ∈ R := fun p hp => by rw [← hRe]; exact .tail _ (.tail _ (.tail _ hp))
    have fin : ∀ p1 p2 po3 Z' m', PenObj po3 → (∀ p ∈ (pen, po3) :: R, p ∈ Z') → Cell ρ p2 → SepOk ρs ρ i p1 → subM [(PySem.Str.ofString "pen", .ref pen), (PySem.Str.ofString "rows", .ref rl), (PySem.Str.ofString "out", .str (flat ps ++ p1 ++ p2))] m' → LpW (SpV pen rl lo nx ρs) i [(I + 1, oE), (I, oI)] (rl, lo) .next m' Z' := by
      intro p1 p2 po3 Z' m' hpo3 hZ hc hs hsub'
      obtain ⟨ps', hS', hfl', e⟩ := spl_end hSp hρ hok hfl hc hs
      rw [e] at hsub'
      refine ⟨_, (pen, po3) :: (rl, lo) :: nx, ⟨po3, ps', hpo3, rfl, hS', hfl', rfl⟩, hsub', fun p hp => hZ p ?_, .tail _ (.head _), fun p hp q hq => ?_⟩
      · rw [← hRe]
        simp only [List.mem_cons, List.mem_append, List.cons_append, List.nil_append] at hp ⊢
        rcases hp with q | q | q | q | q <;> simp [q]
      · have h1 : @LT.lt Nat _ p.1 I := by
          rcases List.mem_cons.mp hp with rfl | hp
          · exact hpI
          · exact hI p (.tail _ hp)
        have h2 : @LE.le Nat _ I q.1 := by
          rcases List.mem_cons.mp hq with rfl | hq
          · exact Nat.le_succ _
          · rw [List.mem_singleton.mp hq]; exact Nat.le_refl _
        exact .inl fun e => Nat.lt_irrefl I (Nat.lt_of_le_of_lt (by rw [← e] at h2; exact h2) h1)
    rw [hlo]
    refine ⟨a, rfl, vun (tup_mem (vs := [.ref it, .int ρ.times u0, .bool ρ.null]) (xs := [.ref it, .int ρ.times, .bool ρ.null]) ⟨rfl, ⟨_, rfl⟩, rfl, trivial⟩ (.tail _ (.tail _ (.tail _ (.tail _ (hsub _ (.head _))))))) rfl ?_⟩
    refine vcutIf (fun m' Z' => ∃ p1 po3, m' = [(PySem.Str.ofString "pen", .ref pen), (PySem.Str.ofString "rows", .ref rl), (PySem.Str.ofString "out", .str (flat ps ++ p1)), (PySem.Str.ofString "spot", .int (i : Int)), (PySem.Str.ofString "item", .ref it), (PySem.Str.ofString "times", .int ρ.times), (PySem.Str.ofString "is_null", .bool ρ.null)] ∧ (∀ p ∈ (pen, po3) :: R, p ∈ Z') ∧ PenObj po3 ∧ SepOk ρs ρ i p1) (fun go => ?_) ?_
    · refine ⟨fun hb => ?_, fun hb => ?_⟩
      · obtain ⟨j, rfl⟩ : ∃ j, i = j + 1 := ⟨i - 1, by have := of_decide_eq_true hb; (first | lia | omega)⟩
        have hvl := hR.len
        have hj : j < vs.length := by (first | lia | omega)
        have hv2 := List.getElem?_eq_getElem hj
        generalize vs[j] = v2 at hv2
        obtain ⟨ρ2, nr2, hρ2, hok2, ⟨a2, it2, v2', nv2, w0, w1, w2, w3, rfl, rfl, hV2⟩, hsub2⟩ := hR.get hv2
        refine ⟨fun hn1 => ift rfl ?_, fun hn1 => ?_⟩
        · intro a5 vs5 ep5 hv5 hlt5
          refine ca_pickR (R := R) O hd hu hpo2 hv5 ⟨by simp, by simp⟩ hlt5 rfl (mem1 po2) offR fun x po4 hx hpo4 => ?_
          obtain ⟨p1, rfl, hp1⟩ := sepC_of hx
          have hpl := sepC_len hp1
          exact ⟨by (first | lia | omega), go _ _ ⟨p1, po4, rfl, fun _ h => h, hpo4, .inr ⟨j, ρ2, rfl, hρ2, .inl hp1⟩⟩⟩
        · refine vit_list (x := .ref a2) (vs := vs) (ep := ep) rfl (by rw [hlo]; exact .tail _ (.tail _ (.tail _ (.head _)))) ⟨by (first | lia | omega), by (first | lia | omega)⟩ (by rw [show (((j + 1 : Nat) : Int) - 1).toNat = j by (first | lia | omega)]; exact hv2) rfl ?_
          refine vit_tup O rfl (tup_mem (vs := [.ref it2, .int ρ2.times w0, .bool ρ2.null]) (xs := [.ref it2, .int ρ2.times, .bool ρ2.null]) ⟨rfl, ⟨_, rfl⟩, rfl, trivial⟩ (.tail _ (.tail _ (.tail _ (.tail _ (hsub2 _ (.head _))))))) ⟨by decide, by decide⟩ rfl ?_
          refine ⟨fun hn2 => ift rfl ?_, fun hn2 => ?_⟩
          · intro a5 vs5 ep5 hv5 hlt5
            refine ca_pickR (R := R) O hd hu hpo2 hv5 ⟨by simp, by simp⟩ hlt5 rfl (mem1 po2) offR fun x po4 hx hpo4 => ?_
            obtain ⟨p1, rfl, hp1⟩ := sepC_of hx
            have hpl := sepC_len hp1
            exact ⟨by (first | lia | omega), go _ _ ⟨p1, po4, rfl, fun _ h => h, hpo4, .inr ⟨j, ρ2, rfl, hρ2, .inl hp1⟩⟩⟩
          · refine ca_draw (R := R) O hd hu hpo2 ⟨by decide, by decide⟩ rfl (mem1 po2) (fun p hp => Nat.ne_of_gt (offR p hp)) fun r po3 r0 r1 hpo3 => ?_
            refine ⟨fun hn3 => ift rfl ?_, fun hn3 => iff_ rfl ?_⟩
            · intro a5 vs5 ep5 hv5 hlt5
              refine ca_pickR (R := R) O hd hu hpo3 hv5 ⟨by simp, by simp⟩ hlt5 rfl (fun _ h => h) offR fun x po4 hx hpo4 => ?_
              obtain ⟨p1, rfl, hp1⟩ := sepC_of hx
              have hpl := sepC_len hp1
              exact ⟨by (first | lia | omega), go _ _ ⟨p1, po4, rfl, fun _ h => h, hpo4, .inr ⟨j, ρ2, rfl, hρ2, .inl hp1⟩⟩⟩
            · intro a5 vs5 ep5 hv5 hlt5
              refine ca_pickR (R := R) O hd hu hpo3 hv5 ⟨by simp, by simp⟩ hlt5 rfl (fun _ h => h) offR fun x po4 hx hpo4 => ?_
              obtain ⟨p1, rfl, hp1⟩ := sepW_of hx
              have hpl := sepW_len hp1
              exact ⟨by (first | lia | omega), go _ _ ⟨p1, po4, rfl, fun _ h => h, hpo4, .inr ⟨j, ρ2, rfl, hρ2, .inr ⟨hn2, hn1, hp1⟩⟩⟩⟩
      · exact go _ _ ⟨[], po2, by rw [List.append_nil], mem1 po2, hpo2, .inl ⟨by have := of_decide_eq_false hb; (first | lia | omega), rfl⟩⟩
    · rintro m' Z' ⟨p1, po3, rfl, hZ, hpo3, hs⟩
      have l1 := sepOk_len hs
      have fl : (flat ps ++ p1).length ≤ 520 := by rw [List.length_append]; (first | lia | omega)
      have ok2 := hok.2
      have okT := hok.1.1
      obtain ⟨sv, hsv⟩ := isV_sv hV
      have hIT : TupAt κ Z' it [.int ρ.kind, .int ρ.len, sv, .str ρ.T] := tup_mem (vs := [.int ρ.kind u1, .int ρ.len u2, v', .str (tx ρ.T) u3]) ⟨⟨_, rfl⟩, ⟨_, rfl⟩, hsv, ⟨_, rfl⟩, trivial⟩ (hZ _ (.tail _ (mem2 _ (hsub _ (.tail _ (.head _))))))
      refine ⟨fun hb => ?_, fun hb => ?_⟩
      · refine ⟨fun h1 => ift rfl ?_, fun h1 => ?_⟩
        · refine ca_str ⟨by (first | lia | omega), by (first | lia | omega)⟩ fun hl => ?_
          exact ⟨by simp only [List.length_append, List.length_cons, List.length_nil] at fl ⊢; (first | lia | omega), ⟨by simp only [List.length_append, List.length_cons, List.length_nil] at fl ⊢; (first | lia | omega), fin p1 (strI ρ.times ++ [42]) po3 _ _ hpo3 hZ (.nul hb) hs ⟨rfl, rfl, rfl, trivial⟩⟩⟩
        · refine ca_draw (R := R) O hd hu hpo3 ⟨by decide, by decide⟩ rfl hZ (fun p hp => Nat.ne_of_gt (offR p hp)) fun r po4 r0 r1 hpo4 => ?_
          refine ⟨fun h2 => ift rfl ?_, fun h2 => iff_ rfl ?_⟩
          · refine ca_str ⟨by (first | lia | omega), by (first | lia | omega)⟩ fun hl => ?_
            exact ⟨by simp only [List.length_append, List.length_cons, List.length_nil] at fl ⊢; (first | lia | omega), ⟨by simp only [List.length_append, List.length_cons, List.length_nil] at fl ⊢; (first | lia | omega), fin p1 (strI ρ.times ++ [42]) po4 _ _ hpo4 (fun _ h => h) (.nul hb) hs ⟨rfl, rfl, rfl, trivial⟩⟩⟩
          · exact ⟨by simp only [List.length_append, List.length_cons, List.length_nil] at fl ⊢; (first | lia | omega), fin p1 [] po4 _ _ hpo4 (fun _ h => h) (.non hb (by have := of_decide_eq_false h1; (first | lia | omega))) hs ⟨rfl, rfl, rfl, trivial⟩⟩
      · refine ⟨fun h1 => ?_, fun h1 => ?_⟩
        · refine ca_str ⟨by (first | lia | omega), by (first | lia | omega)⟩ fun hl => ⟨by simp only [List.length_append, List.length_cons, List.length_nil] at fl ⊢; (first | lia | omega), ?_⟩
          refine vit_tup O rfl hIT ⟨by decide, by decide⟩ rfl ?_
          exact ⟨by simp only [List.length_append, List.length_cons, List.length_nil] at fl ⊢; (first | lia | omega), ⟨by simp only [List.length_append, List.length_cons, List.length_nil] at fl ⊢; (first | lia | omega), fin p1 (strI ρ.times ++ [42] ++ ρ.T) po3 _ _ hpo3 hZ (.rep hb (of_decide_eq_true h1)) hs ⟨rfl, rfl, rfl, trivial⟩⟩⟩
        · refine vit_tup O rfl hIT ⟨by decide, by decide⟩ rfl ?_
          exact ⟨by simp only [List.length_append, List.length_cons, List.length_nil] at fl ⊢; (first | lia | omega), ⟨by simp only [List.length_append, List.length_cons, List.length_nil] at fl ⊢; (first | lia | omega), fin p1 ρ.T po3 _ _ hpo3 hZ (.one hb (by have := of_decide_eq_false h1; (first | lia | omega))) hs ⟨rfl, rfl, rfl, trivial⟩⟩⟩
  · rintro m₁ Z₁ ⟨po2, ps, hpo2, rfl, hSp, hfl, rfl⟩
    rw [hR.len] at hSp hfl
    exact hS ps po2 hSp (by (first | lia | omega)) hpo2
end
section
open PySem PySem.W PySem.Calls PyProof.Rows
example : ∀ (w : World), (Mine.kk.heap_1 w.params).In default → PySem.Challenge.rw_no0260_01 = PySem.Challenge.rw_no0260_01 → True := by
  k_fill
  intros; trivial
structure KL (κ : Kx) (sc : Scope) (dp un : Nat) : Prop where
  ok : ∃ (gd : Option (List Code)) (mean : ExcName → Option Value) (mg mb : Str → Option Value) (nms : List (Str × NameKind)) (nm : Str) (a : Addr) (cd : Value), κ.A = (aT dp un gd []).deeper κ.env ∧ κ.env = envOf nm sc κ.L a cd ∧ sc = { kind := .function, names := nms, isGenerator := false, isCoroutine := false } ∧ Below (aT dp un gd []) κ.g [] κ.g ∧ (Mine.kk.heap_1 κ.w.params).In κ.g ∧ Top Mine.view (looseW Mine.view []) mean mg mb κ.g
  pe : PassesOwn (model κ.prog κ.w) κ.A κ.env κ.E
section
variable {κ : Kx} {sc : Scope} {dp un : Nat} {m : Mp} {Z : Ld}
theorem KL.k (O : KL κ sc dp un) : KOk κ sc dp un := by
  obtain ⟨gd, mean, mg, mb, nms, nm, a, cd, hA, hE, hs, B, X, T⟩ := O.ok
  exact ⟨⟨gd, [], κ.g, mean, mg, mb, (nm, []), a, cd, hA, hE, B, X, T⟩, by rw [hs], O.pe⟩
theorem lim_is (w : World) : nsIn (Mine.kk.heap_1 w.params) mainGlobals (PySem.Str.ofString "Limits") = some (some (.ref 364)) := by k_is
theorem src_is (w : World) : nsIn (Mine.kk.heap_1 w.params) mainGlobals (PySem.Str.ofString "ListSource") = some (some (.ref 342)) := by k_is
theorem rd_is (w : World) : nsIn (Mine.kk.heap_1 w.params) mainGlobals (PySem.Str.ofString "ListReader") = some (some (.ref 209)) := by k_is
theorem cls_keep (w : World) : (keepIn (Mine.kk.heap_1 w.params) (.ref 364) && keepIn (Mine.kk.heap_1 w.params) (.ref 342) && keepIn (Mine.kk.heap_1 w.params) (.ref 209)) = true := by kernel_rfl!
theorem ev_limits {k1 k2 k3 k4 : Nat} {p0 p1 p2 p3 p4 q1 q2 q3 q4 p : Pos} {K : SV → Ld → Prop} (O : KL κ sc dp un) (hd : dp + 50 < recursionLimit) (hu : un + 2000 < cLine) (hg : isGlb sc (PySem.Str.ofString "Limits") = true)
    (k : ∀ lm : LM, (∀ p ∈ Z, p.1 < lm.d) → lm.d < lm.a → K (.ref lm.a) (lm.led κ.w ++ Z)) :
    Ev κ m Z (.Call (.Name (PySem.Str.ofString "Limits") p0) [] [⟨some (PySem.Str.ofString "width"), .Constant (.int 16) k1 p1, q1⟩, ⟨some (PySem.Str.ofString "real_digits"), .Constant (.int 9) k2 p2, q2⟩, ⟨some (PySem.Str.ofString "double_digits"), .Constant (.int 12) k3 p3, q3⟩, ⟨some (PySem.Str.ofString "top_exponent"), .Constant (.int 99) k4 p4, q4⟩] p) K := by
  intro hp tk Q F N q
  have O1 := O.k
  obtain ⟨gd, mean, mg, mb, nms, nm, a, cd, hA, hE, hs, B, X, T⟩ := O.ok
  obtain ⟨m', F', hm⟩ := id F
  obtain ⟨h1, h2⟩ := isGlb_of hg
  have ck := cls_keep κ.w
  simp only [Bool.and_eq_true] at ck
  rw [hA, hE, hs]
  have he : ∀ env kws, eval (.Call (.Name (PySem.Str.ofString "Limits") p0) [] kws p) env = (do callWith p (← eval (.Name (PySem.Str.ofString "Limits") p0) env) [] (backTo p (starEach [] env)) (backToKw p (keywordEach kws env))) := fun _ _ => by rfl
  rw [he]
  rw [hs] at h1
  refine wpAny_bind (name_K (s := κ.st hp tk) F' X (topRead_of T) (lim_is κ.w) (callWith_KW0 X ck.1.1 (by rfl) ?_) (by rfl) h1 h2)
  refine kwAll_cons (wpAny_Constant_int (kwAll_cons (wpAny_Constant_int (kwAll_cons (wpAny_Constant_int (kwAll_cons (wpAny_Constant_int (kwAll_nil ⟨Frag.In.keeps X F'.keep, ?_⟩))))))))
  exact mkLim B F' N X T hd hu fun lm h' tk' F2 N2 l1 l2 => q _ _ _ h' tk' (k lm l1 l2) rfl ⟨m', F2, hm⟩ N2
theorem es_one {e : Expr} {P : SV → Ld → Prop} (he : plE e = true) (h : Ev κ m Z e P) : Es κ m Z [e] fun xs Z' => ∃ v, xs = [v] ∧ P v Z' :=
  es_cons he (ev_mono h fun v _ q => es_nil ⟨v, rfl, q⟩)
theorem ev_src {e : Expr} {p0 p : Pos} {K : SV → Ld → Prop} (O : KL κ sc dp un) (hd : dp + 50 < recursionLimit) (hu : un + 2000 < cLine) (hg : isGlb sc (PySem.Str.ofString "ListSource") = true) (he : plE e = true)
    (h : Ev κ m Z e fun v Z' => ∃ lst o news, v = .ref lst ∧ Z' = (lst, o) :: news ∧ ∀ (sr dsr : Nat) (k7 k8 ta : Tok), @LT.lt Nat _ lst dsr → (∀ p ∈ news, @LT.lt Nat _ p.1 dsr) → dsr < sr → K (.ref sr) ((sr, instObj 342 dsr) :: (dsr, dictOf [⟨PyData.keyHash κ.w.params (Str.ofString "records"), .str (Str.ofString "records") k7, .ref lst⟩, ⟨PyData.keyHash κ.w.params (Str.ofString "at"), .str (Str.ofString "at") k8, .int 0 ta⟩] 2) :: (lst, o) :: news)) :
    Ev κ m Z (.Call (.Name (PySem.Str.ofString "ListSource") p0) [e] [] p) K := by
  intro hp tk Q F N q
  obtain ⟨gd, mean, mg, mb, nms, nm, a, cd, hA, hE, hs, B, X, T⟩ := O.ok
  obtain ⟨m', F', hm⟩ := id F
  obtain ⟨h1, h2⟩ := isGlb_of hg
  have ck := cls_keep κ.w
  simp only [Bool.and_eq_true] at ck
  have hx := es_one he h p hp tk
  rw [hA, hE, hs] at hx ⊢
  rw [hs] at h1
  refine Call_ (name_K (s := κ.st hp tk) F' X (topRead_of T) (src_is κ.w) ?_ (by rfl) h1 h2)
  refine callWith_K X ck.1.2 (hx _ F N fun xs vs Z' h' tk' k hvs F2 N2 => ?_) (pl_star he) rfl
  obtain ⟨m2, F2, hm2⟩ := F2
  obtain ⟨_, rfl, lst, o, news, rfl, rfl, k⟩ := k
  refine ⟨Frag.In.keeps X F2.keep, ?_⟩
  obtain ⟨_, rfl, rfl⟩ := svs1 hvs
  exact mkSrc B F2 N2 X T hd hu fun sr dsr k7 k8 ta h3 tk3 F3 N3 l1 l2 l3 => q _ _ _ h3 tk3 (k sr dsr k7 k8 ta l1 l2 l3) rfl ⟨m2, F3, hm2⟩ N3
theorem ev_rd {e : Expr} {p0 p : Pos} {K : SV → Ld → Prop} (O : KL κ sc dp un) (hd : dp + 80 < recursionLimit) (hu : un + 3000 < cLine) (hg : isGlb sc (PySem.Str.ofString "ListReader") = true) (he : plE e = true)
    (h : Ev κ m Z e fun v Z' => ∃ (c : RC) (σ : RS) (l : List Nat) (t : Tok) (news : Ld), v = .ref c.sr ∧ Z' = c.src κ.w σ.at_ σ.tat ++ news ∧ (∀ p ∈ news, @LT.lt Nat _ p.1 c.lst) ∧ (c.lst < c.dsr ∧ c.dsr < c.sr) ∧ (0 ≤ σ.at_ ∧ σ.at_ < c.items.length) ∧ c.items.length ≤ 100000 ∧ c.items[σ.at_.toNat]? = some (.str (tx l) t) ∧
      ∀ (c' : RC) (σ' : RS), c'.lst = c.lst → c'.dsr = c.dsr → c'.sr = c.sr → c'.sr < c'.dr → c'.dr < c'.r → c'.items = c.items → σ'.at_ = σ.at_ + 1 → σ'.record = l → σ'.col = 0 → σ'.left = 0 → σ'.held = .none → σ'.beh = false → σ'.don = false → K (.ref c'.r) (c'.led κ.w σ' ++ news)) :
    Ev κ m Z (.Call (.Name (PySem.Str.ofString "ListReader") p0) [e] [] p) K := by
  intro hp tk Q F N q
  obtain ⟨gd, mean, mg, mb, nms, nm, a, cd, hA, hE, hs, B, X, T⟩ := O.ok
  obtain ⟨m', F', hm⟩ := id F
  obtain ⟨h1, h2⟩ := isGlb_of hg
  have ck := cls_keep κ.w
  simp only [Bool.and_eq_true] at ck
  have hx := es_one he h p hp tk
  rw [hA, hE, hs] at hx ⊢
  rw [hs] at h1
  refine Call_ (name_K (s := κ.st hp tk) F' X (topRead_of T) (rd_is κ.w) ?_ (by rfl) h1 h2)
  refine callWith_K X ck.2 (hx _ F N fun xs vs Z' h' tk' k hvs F2 N2 => ?_) (pl_star he) rfl
  obtain ⟨m2, F2, hm2⟩ := F2
  obtain ⟨_, rfl, c, σ, l, t, news, rfl, rfl, hnw, ord, h0, hfit, hi, k⟩ := k
  refine ⟨Frag.In.keeps X F2.keep, ?_⟩
  obtain ⟨_, rfl, rfl⟩ := svs1 hvs
  exact mkRd B F2 N2 X T hd hu hnw ord h0.1 h0.2 hfit hi fun c' σ' h3 tk3 F3 N3 g1 g2 g3 g4 g5 g6 g7 g8 g9 g10 g11 g12 g13 => q _ _ _ h3 tk3 (k c' σ' g1 g2 g3 g4 g5 g6 g7 g8 g9 g10 g11 g12 g13) rfl ⟨m2, F3, hm2⟩ N3
theorem ev_list0 {p : Pos} {K : SV → Ld → Prop} (k : ∀ l, (∀ p ∈ Z, @LT.lt Nat _ p.1 l) → K (.ref l) ((l, listOf [].toArray 0) :: Z)) : Ev κ m Z (.List [] p) K := by
  intro hp tk Q F N q
  obtain ⟨m', F', hm⟩ := F
  exact wpAny_List_spliced (args_nil ⟨Nat.zero_le _, q _ _ _ _ tk (k hp.objs.size fun p hp => Heap.lt_size (N p hp).1) rfl ⟨m', F'.push _, hm⟩ (News.push F' N _)⟩)
theorem ev_append {x : Str} {p0 p p2 : Pos} {a : Expr} {K : SV → Ld → Prop} {l : Addr} (O : KOk κ sc dp un) (ha : plE a = true) (hx : mget x m = some (.ref l))
    (h0 : ∃ o : Obj, (l, o) ∈ Z ∧ o.cls = .type "list" ∧ o.dict = none)
    (h : Ev κ m Z a fun v Z' => ∃ vs ep pre post, Z' = pre ++ (l, listOf vs.toArray ep) :: post ∧ (∀ p ∈ pre, p.1 ≠ l ∨ p.2.cls ≠ .type "list") ∧ (∀ p ∈ post, p.1 ≠ l ∨ p.2.cls ≠ .type "list") ∧ vs.length ≤ 1000 ∧ ∀ u, v.Is u → K .none (pre ++ (l, listOf (vs ++ [u]).toArray (ep + 1)) :: post))
    (he : ∀ env, ∃ pl, eval (.Call (.Attribute (.Name x p0) (PySem.Str.ofString "append") p) [a] [] p2) env = (do
      let ov ← eval (.Name x p0) env
      standAt p.atName
      let (f, first) ← holding [ov] (getMethod ov (PySem.Str.ofString "append") pl)
      callWith p2 f first (backTo p2 (starEach [a] env)) []) := by exact fun _ => ⟨_, rfl⟩) : Ev κ m Z (.Call (.Attribute (.Name x p0) (PySem.Str.ofString "append") p) [a] [] p2) K := by
  intro hp tk Q F N q
  obtain ⟨pl, he⟩ := he κ.env
  refine MethodCall_ (ev_name (K := fun v Z' => v = .ref l ∧ Z' = Z) O hx ⟨rfl, rfl⟩ hp tk _ F N fun v u Z' h' tk' k hu F2 N2 => ?_) he
  obtain ⟨rfl, rfl⟩ := k
  obtain rfl := hu
  obtain ⟨o, ho, hc, hdn⟩ := h0
  refine getMethod_append_N (s := κ.st h' tk') N2 ho ?_ hc hdn
  refine callWith_method1 (es_one ha h p2 h' tk' _ F2 N2 fun xs vs Z'' h2 tk2 k2 hvs F3 N3 => ?_) (pl_star ha) rfl
  obtain ⟨v, rfl, vs0, ep, pre, post, rfl, d1, d2, hl, k⟩ := k2
  obtain ⟨m3, F3, hm3⟩ := F3
  obtain ⟨u, rfl, hu⟩ := svs1 hvs
  have z := N3 (l, listOf vs0.toArray ep) (List.mem_append.mpr (.inr (.head _)))
  refine append_at (s := κ.st h2 tk2) (hsz := by rw [List.size_toArray, sizeLine_eq]; (first | lia | omega)) z.1 fun h4 hs ho' => ?_
  refine q _ _ _ h4 tk2 (k u hu) rfl ⟨m3, F3.change hs z.2.1 z.2.2, hm3⟩ (news_set N3 (fun p hp => (d1 p hp).elim id fun e => cls_ne N3 (List.mem_append_left _ hp) (List.mem_append_right _ (.head _)) e) (fun p hp => (d2 p hp).elim id fun e => cls_ne N3 (List.mem_append_right _ (.tail _ hp)) (List.mem_append_right _ (.head _)) e) hs ?_)
  rw [ho', List.push_toArray]
open PySem.Builtin.Str in
theorem ev_split {x : Str} {p0 : Pos} {a : Expr} {p p2 : Pos} {l : List Nat} {K : SV → Ld → Prop} (O : KOk κ sc dp un) (ha : plE a = true) (hx : mget x m = some (.str l)) (hl : l.length ≤ 100000)
    (h : Ev κ m Z a fun w Z' => w = .str [10] ∧ ∀ (D : Nat) (ls : List (Str × Tok)), ls.map (·.1) = Txt.split (tx l) (tx [10]) → (∀ p ∈ Z', @LT.lt Nat _ p.1 D) → K (.ref D) ((D, listOf (strValues ls).toArray 0) :: Z')) (he : ∀ env, ∃ pl, eval (.Call (.Attribute (.Name x p0) (PySem.Str.ofString "split") p) [a] [] p2) env = (do
      let ov ← eval (.Name x p0) env
      standAt p.atName
      let (f, first) ← holding [ov] (getMethod ov (PySem.Str.ofString "split") pl)
      callWith p2 f first (backTo p2 (starEach [a] env)) []) := by exact fun _ => ⟨_, rfl⟩) : Ev κ m Z (.Call (.Attribute (.Name x p0) (PySem.Str.ofString "split") p) [a] [] p2) K := by
  intro hp tk Q F N q
  obtain ⟨pl, he⟩ := he κ.env
  refine MethodCall_ (ev_name (K := fun v Z' => v = .str l ∧ Z' = Z) O hx ⟨rfl, rfl⟩ hp tk _ F N fun v u Z' h' tk' k hu F2 N2 => ?_) he
  obtain ⟨rfl, rfl⟩ := k
  obtain ⟨t, rfl⟩ := hu
  refine GM.split ?_
  refine callWith_method1 (es_one ha h p2 h' tk' _ F2 N2 fun xs vs Z'' h2 tk2 k2 hvs F3 N3 => ?_) (pl_star ha) rfl
  obtain ⟨v, rfl, rfl, k⟩ := k2
  obtain ⟨m3, F3, hm3⟩ := F3
  obtain ⟨_, rfl, ⟨t2, rfl⟩⟩ := svs1 hvs
  exact KSpl.split1 (s := κ.st h2 tk2) F3 N3 (by rfl) (fun D ls h4 tk4 e1 _ F4 N4 hlt => q _ _ _ h4 tk4 (k D ls e1 hlt) rfl ⟨m3, F4, hm3⟩ N4) (by rw [tx_len, sizeLine_eq]; (first | lia | omega))
end
end
section
open PySem PySem.W PySem.Calls PyProof.Rows
example : ∀ (w : World), (Mine.kk.heap_1 w.params).In default → PySem.Challenge.rw_no0260_01 = PySem.Challenge.rw_no0260_01 → True := by
  k_fill
  intros; trivial
section
variable {κ : Kx} {sc : Scope} {dp un : Nat} {m : Mp} {Z : Ld}
theorem ca_penL {scr : Addr} {vs : List Value} {ns : List Int} {K : SV → Ld → Prop} (O : KL κ sc dp un) (hd : dp + 100 < recursionLimit) (hu : un + 5000 < cLine) (hL : κ.g.IsList scr vs.toArray) (hI : IntsAre vs ns) (hn : ns.length ≤ 63)
    (k : ∀ a o, PenObj o → K (.ref a) [(a, o)]) : Ca κ m [] (.ref 375) [.ref scr] K := by
  intro us h tk Q hvs F N q
  obtain ⟨gd, mean, mg, mb, nms, nm, a, cd, hA, hE, hs, B, X, T⟩ := O.ok
  obtain ⟨m', F', hm⟩ := id F
  have fn := O.k.fn
  rw [hA]
  obtain ⟨_, rfl, rfl⟩ := svs1 hvs
  refine con_call (s := κ.st h tk) (rest := []) (pen_con hI hn) B F' N X T (fun _ h => nomatch h) .nil ?_ (by (first | lia | omega)) (by (first | lia | omega)) (fun v h2 tk2 z pz F2 N2 => ?_) (by rw [hE]; rfl) (by rw [hE]; exact fn)
  · exact fun g2 k1 _ _ => stays_list k1 hL
  · obtain ⟨a, o, rfl, ho, rfl⟩ := pz
    exact q _ _ _ h2 tk2 (k a o ho) rfl ⟨m', F2, hm⟩ N2
theorem ca_isend {c : RC} {σ : RS} {rest : List Nat} {lm : Addr} {K : SV → Ld → Prop} (O : KL κ sc dp un) (hd : dp + 100 < recursionLimit) (hu : un + 5000 < cLine) (hR : Rd c σ rest) (hb : σ.beh = true) (hd0 : σ.don = false) (hl : ¬ 0 < σ.left) (hg : rest.dropWhile gap = [] ∨ ∃ y, rest.dropWhile gap = 44 :: y ∧ y.dropWhile gap = [])
    (hs : ∀ p ∈ c.led κ.w σ, p ∈ Z) (k : K (.bool true) []) : Ca κ m Z (.ref 422) [.ref c.r, .ref lm] K := by
  intro us h tk Q hvs F N q
  obtain ⟨gd, mean, mg, mb, nms, nm, a, cd, hA, hE, _, B, X, T⟩ := O.ok
  obtain ⟨m', F', hm⟩ := id F
  have fn := O.k.fn
  rw [hA]
  obtain ⟨_, _, rfl, rfl, rfl⟩ := svs2 hvs
  exact con_callE (s := κ.st h tk) (isend_con hR hb hd0 hl hg) B F' N X T hs (by (first | lia | omega)) (by (first | lia | omega)) (fun h2 tk2 F2 => q _ _ [] h2 tk2 k rfl ⟨m', F2, hm⟩ fun _ h => nomatch h) (by rw [hE]; rfl) (by rw [hE]; exact fn)
theorem vit_last {e i : Expr} {a : Addr} {x : SV} {v : Value} {vi : List Value} {ep : Nat} {K : SV → Ld → Prop} (hi : plE i = true) (hm : (a, listOf (vi ++ [v]).toArray ep) ∈ Z) (hv : x.Is v) (hg : ∀ r, letTemporaryGo e (.ref a) r = pure ()) (k : K x Z) : VIt κ m Z e i a (-1) K := by
  refine ⟨fun va vb h tk Q ha hb F N q => ?_⟩
  obtain rfl := ha
  obtain ⟨t, rfl⟩ := hb
  exact item_last (s := κ.st h tk) (News.isList N hm) (q x v Z h tk k hv F N) (pl_sub hi) hg
theorem ev_not {x : Expr} {p : Pos} {K : SV → Ld → Prop} (O : KOk κ sc dp un) (h : vE κ sc m Z x fun v Z' => ∃ c, v = .bool c ∧ K (.bool (!c)) Z') : Ev κ m Z (.UnaryOp .Not x p) K := by
  intro hp tk Q F N q
  refine wpAny_UnaryOp (vE_of O h hp tk _ F N fun v u Z' h' tk' k hu F2 N2 => ?_)
  obtain ⟨c, rfl, k⟩ := k
  obtain rfl := hu
  exact not_of (wpAny_truthy_bool (q _ _ Z' h' tk' k rfl F2 N2))
theorem op2_neB {a b : Bool} {K : SV → Ld → Prop} (k : K (.bool (a != b)) Z) : Op2 κ m Z (compareOp .NotEq) (.bool a) (.bool b) K := by
  rintro _ _ hp tk Q rfl rfl F N q
  exact ne_bool (q _ _ Z hp tk k rfl F N)
theorem op2_neN {K : SV → Ld → Prop} (k : K (.bool false) Z) : Op2 κ m Z (compareOp .NotEq) .none .none K := by
  rintro _ _ hp tk Q rfl rfl F N q
  exact EqNone.ne_none_none (q _ _ Z hp tk k rfl F N)
theorem op2_neW {x : Wt} {a b : Addr} {nx nv : Ld} {K : SV → Ld → Prop} (O : KL κ sc dp un) (hu : un + 5000 < cLine) (h1 : IsW x (.ref a) nx) (h2 : IsV x (.ref b) nv) (hx : SeqAt.shaped (datOf x) = true) (N1 : ∀ p ∈ nx, p ∈ Z) (N2 : ∀ p ∈ nv, p ∈ Z) (k : K (.bool false) Z) : Op2 κ m Z (compareOp .NotEq) (.ref a) (.ref b) K := by
  rintro _ _ hp tk Q rfl rfl F N q
  obtain ⟨gd, mean, mg, mb, nms, nm, a, cd, hA, hE, _, B, X, T⟩ := O.ok
  obtain ⟨m', F', hm⟩ := id F
  rw [hA]
  exact ne_wt (s := κ.st hp tk) (X.keeps F'.keep) h1 h2 (fun p hp => (N p (N1 p hp)).1) (fun p hp => (N p (N2 p hp)).1) hx (by show un + 3 + 64 < _; (first | lia | omega)) (q _ _ Z hp tk k rfl F N)
noncomputable def isB : SV → Bool
  | .bool _ => true
  | _ => false
theorem isi_ok (w : World) : BOk w (0, PySem.Str.ofString "isinstance", .builtin "isinstance") := bok (by k_is) (by decide +kernel) (by decide +kernel) (fun _ => by intro q; obtain ⟨⟩ := q)
theorem bool_ok (w : World) : BOk w (0, PySem.Str.ofString "bool", .type "bool") := bok (by k_is) (by decide +kernel) (by decide +kernel) (fun _ => by intro q; obtain ⟨⟩ := q)
theorem ev_isi {x : Str} {px pb pf p : Pos} {v : SV} {K : SV → Ld → Prop} (O : KOk κ sc dp un) (hg : (isGlb sc (PySem.Str.ofString "isinstance") && isGlb sc (PySem.Str.ofString "bool")) = true) (hx : mget x m = some v) (hv : ∀ a, v = .ref a → ∃ xs, TupAt κ Z a xs) (k : K (.bool (isB v)) Z) :
    Ev κ m Z (.Call (.Name (PySem.Str.ofString "isinstance") pf) [.Name x px, .Name (PySem.Str.ofString "bool") pb] [] p) K := by
  intro hp tk Q F N q
  have hvn := ev_name (p := px) (K := fun u Z' => u = v ∧ Z' = Z) O hx ⟨rfl, rfl⟩ hp tk
  obtain ⟨gd, outer, base, mean, mg, mb, nm, a, cd, hA, hE, B, X, T⟩ := O.ok
  obtain ⟨m', F', hm⟩ := id F
  obtain ⟨b1, b2, b3, b4⟩ := isi_ok κ.w
  obtain ⟨c1, c2, c3, c4⟩ := bool_ok κ.w
  obtain ⟨hg1, hg2⟩ := Bool.and_eq_true_iff.mp hg
  obtain ⟨h1, h2⟩ := isGlb_of hg1
  obtain ⟨g1, g2⟩ := isGlb_of hg2
  dsimp only at b1 b2 b3 b4 c1 c2 c3 c4
  rw [hE] at hvn ⊢
  refine Call_ (nameX_B (s := κ.st hp tk) F' X (topRead_of T) b1 b2 b3 ?_ O.fn h1 h2)
  rw [pl_star (e := .Name x px) rfl]
  refine callWith_of (P := fun _ => True) rfl (fun _ _ => ⟨.machine, .inr (.inl rfl), Looks.of_pure rfl⟩) (evalArgs_plain (args_cons (hvn _ F N fun u uv Z' h' tk' kk hu F2 N2 => ?_) rfl))
  obtain ⟨rfl, rfl⟩ := kk
  obtain ⟨m2, F2, hm2⟩ := F2
  refine args_cons (nameX_B (s := κ.st h' tk') F2 X (topRead_of T) c1 c2 c3 (args_nil ⟨trivial, ?_⟩) O.fn g1 g2) rfl
  have fin : ∀ tk2, Q (.bool (isB u)) (κ.st h' tk2) := fun tk2 => q _ _ Z' h' tk2 k rfl ⟨m2, F2, hm2⟩ N2
  show wpAny _ _ (call (.builtin "isinstance") [uv, .type "bool"]) _ _ _
  induction u with
  | int n => obtain ⟨t, rfl⟩ := hu; exact IsiPair.int_bool (s := κ.st h' tk') (fin _)
  | str l => obtain ⟨t, rfl⟩ := hu; exact IsiPair.str_bool (s := κ.st h' tk') (fin _)
  | bool b => obtain rfl := hu; exact IsiPair.bool_bool (s := κ.st h' tk') (fin _)
  | none => obtain rfl := hu; exact IsiPair.NoneType_bool (s := κ.st h' tk') (fin _)
  | ref a1 =>
    obtain rfl := hu
    obtain ⟨xs, hT⟩ := hv a1 rfl
    obtain ⟨vs, ⟨o, ho, hc, _⟩, _⟩ := hT h' m2 X F2 N2
    exact IsiPair.tuple_bool (s := κ.st h' tk') ho hc (fin _)
noncomputable def LpR (J : Nat → Mp → Ld → Prop) (i : Nat) (I : Addr) (oI : Obj) : Fl → Mp → Ld → Prop
  | .next, m', Z' => ∃ mj Z₂, J (i + 1) mj Z₂ ∧ subM mj m' ∧ (∀ p ∈ (I, oI) :: Z₂, p ∈ Z') ∧ ∀ p ∈ Z₂, p.1 ≠ I ∨ p.2.cls ≠ .type "range_iterator"
  | _, _, _ => False
theorem lpr_post {J : Nat → Mp → Ld → Prop} {i : Nat} {I : Addr} {oI : Obj} {h : Heap} {tk : Nat} {Q : Flow → Shared → Prop} (hL : κ.env.locals = κ.L) (hoI : oI.cls = .type "range_iterator") {m : Mp} {Z : Ld} {body : List Stmt} (O : KOk κ sc dp un) (hx : vX κ sc 60 m Z body (LpR J i I oI)) (F : FrS κ h m) (N : News κ.g κ.L h Z) :
    wpAny (model κ.prog κ.w) κ.A (execs body κ.env) (PostM κ.g κ.env.locals (fun m' Z' => ∃ m, J (i + 1) m Z' ∧ Knows κ.env.scope m m') I oI (κ.st h tk) Q) κ.E (κ.st h tk) := by
  refine vX_of O 60 _ _ _ _ hx h tk _ F N fun fl f m₃ Z₃ h₃ tk₃ y hf F₃ N₃ => ?_
  obtain ⟨m₃', F₃', hm₃⟩ := id F₃
  induction fl with
  | next =>
    obtain rfl := hf
    obtain ⟨mj, Z₂, hj', hsj, hZ, ha⟩ := y
    rw [← hL] at F₃' N₃
    exact ⟨h₃, tk₃, m₃', Z₂, rfl, F₃', fun p hp => N₃ p (hZ p ((List.mem_append.mp hp).elim (fun h => .tail _ h) fun h => by rw [List.mem_singleton.mp h]; exact .head _)), fun p hp => (ha p hp).elim id fun e => cls_ne N₃ (hZ p (.tail _ hp)) (hZ _ (.head _)) (by rw [hoI]; exact e), mj, hj', knows_sub hsj hm₃⟩
  | cont => exact y.elim
  | brk => exact y.elim
  | ret v => exact y.elim
noncomputable def RgR (κ : Kx) (sc : Scope) (m : Mp) (x : Str) (body : List Stmt) (K : Fl → Mp → Ld → Prop) (J : Nat → Mp → Ld → Prop) (v : SV) (Z' : Ld) : Prop := ∃ (n : Nat) (m₀ : Mp), v = .int (n : Int) ∧ n ≤ 1000000 ∧ subM m₀ m ∧ J 0 m₀ Z' ∧ (∀ I : Nat, (∀ p ∈ Z', @LT.lt Nat _ p.1 I) → ∀ i m₁ Z₁ oI, oI.cls = .type "range_iterator" → i < n → J i m₁ Z₁ → msetK x (.int (i : Int)) m₁ fun m₂ => vX κ sc 60 m₂ ((I, oI) :: Z₁) body (LpR J i I oI)) ∧ ∀ m₁ Z₁, J n m₁ Z₁ → K .next m₁ Z₁
theorem e1_forRangeX {x : Str} {px p p2 p3 : Pos} {e : Expr} {body : List Stmt} {K : Fl → Mp → Ld → Prop} (O : KOk κ sc dp un) (J : Nat → Mp → Ld → Prop) (hx : (isLoc sc x && isGlb sc (PySem.Str.ofString "range") && plE e) = true)
    (hit : vE κ sc m Z e (RgR κ sc m x body K J)) : E1 κ m Z (.For (.Name x px) (.Call (.Name (PySem.Str.ofString "range") p2) [e] [] p3) body [] p) K := by
  intro hp tk Q F N q
  simp only [Bool.and_eq_true] at hx
  obtain ⟨⟨hx1, hx2⟩, hx3⟩ := hx
  obtain ⟨hL, hcl, hh⟩ := O.loc
  have es := O.scp
  refine For_invV κ.g (by show κ.env.scope.names.lookup x = _; rw [es]; exact (isLoc_of hx1).1) hcl ?_ (fun _ => rfl) O.pe
  obtain ⟨gd, outer, base, mean, mg, mb, nm, a, cd, hA, hE, B, X, T⟩ := O.ok
  obtain ⟨m', F', hm⟩ := id F
  obtain ⟨c, hc⟩ := blAt_mem (show blAt (nmc (PySem.Str.ofString "range")) (PySem.Str.ofString "range") bl = some (Value.type "range") by kernel_rfl!)
  obtain ⟨b1, b2, b3, b4⟩ := bl_ok κ.w _ hc
  dsimp only at b1 b2 b3 b4
  obtain ⟨h1, h2⟩ := isGlb_of hx2
  have hx := es_one hx3 (vE_of O hit) p3 hp tk
  have key : ∀ (Q2 : Value → Shared → Prop), (∀ v u h' tk' Z', RgR κ sc m x body K J v Z' → v.Is u → FrS κ h' m → News κ.g κ.L h' Z' → wpAny (model κ.prog κ.w) κ.A (call (.type "range") [u]) Q2 κ.E (κ.st h' tk')) → wpAny (model κ.prog κ.w) κ.A (eval (.Call (.Name (PySem.Str.ofString "range") p2) [e] [] p3) κ.env) Q2 κ.E (κ.st hp tk) := by
    intro Q2 k
    rw [hE] at hx ⊢
    refine Call_ (nameX_B (s := κ.st hp tk) F' X (topRead_of T) b1 b2 b3 ?_ O.fn h1 h2)
    rw [pl_star hx3] at hx ⊢
    refine callWith_of (P := fun _ => True) rfl (fun _ _ => ⟨.machine, .inr (.inl rfl), Looks.of_pure rfl⟩) (evalArgs_plain (hx _ F N fun xs vs Z' h' tk' kk hvs F2 N2 => ⟨trivial, ?_⟩))
    obtain ⟨v, rfl, kk⟩ := kk
    obtain ⟨u, rfl, hu⟩ := svs1 hvs
    exact k v u h' tk' Z' kk hu F2 N2
  refine key _ fun v u h' tk' Z' ⟨n, m₀, hv, hn, hs, j0, turn, done⟩ hu F2 N2 => ?_
  subst hv
  obtain ⟨t, rfl⟩ := hu
  obtain ⟨m2, F2, hm2⟩ := F2
  rw [← hL] at F2 N2
  refine range1_rows (s := κ.st h' tk') F2 N2 fun h3 tk3 t₁ u₁ v₁ hr F3 N3 _ => ?_
  refine for_range2 (s := κ.st h3 tk3) (fun i m' nx => ∃ m, J i m nx ∧ Knows κ.env.scope m m') hh hr (rs_small hn) (rs_size n) F3 N3 ⟨m₀, j0, knows_sub hs hm2⟩ ?_ ?_
  · rintro i tt m₁' Z₁ h₁ tk₁ I oI hoI hi hoff hI ⟨m₁, hj, hm₁⟩ F₁ N₁
    rw [hL] at F₁ N₁
    rw [es] at hm₁
    rw [Int.zero_add] at F₁
    exact lpr_post (κ := κ) hL hoI O (msetK_of (turn I hI i m₁ Z₁ oI hoI hi hj)) (frS_ins es hx1 F₁ hm₁ ⟨_, rfl⟩) (news_rot N₁)
  · rintro m₁' Z₁ h₁ tk₁ ⟨m₁, hj, hm₁⟩ F₁ N₁
    rw [hL] at F₁ N₁
    exact q .next .next m₁ Z₁ h₁ tk₁ (done m₁ Z₁ hj) rfl ⟨m₁', F₁, hm₁⟩ N₁
end
end
section
open PySem PySem.W PySem.Calls PyProof.Rows
example : ∀ (w : World), (Mine.kk.heap_1 w.params).In default → PySem.Challenge.rw_no0260_01 = PySem.Challenge.rw_no0260_01 → True := by
  k_fill
  intros; trivial
section
variable {κ : Kx} {sc : Scope} {dp un : Nat} {m : Mp} {Z : Ld}
theorem two_at {v : Value} {a : Addr} {m' e : Int} {nx : Ld} (h : Two v m' e nx) (hv : v = .ref a) (hm : ∀ p ∈ nx, p ∈ Z) : ∃ xs, TupAt κ Z a xs := by
  subst hv
  exact ⟨_, tup_two h hm⟩
theorem w_tup {x : Wt} {a : Addr} {nx : Ld} (hw : IsW x (.ref a) nx) (hm : ∀ p ∈ nx, p ∈ Z) : ∃ xs, TupAt κ Z a xs := by
  induction x with
  | non => obtain ⟨⟩ := hw.1
  | txt l => obtain ⟨⟨_, h⟩, _⟩ := hw; obtain ⟨⟩ := h
  | int n => obtain ⟨⟨_, h⟩, _⟩ := hw; obtain ⟨⟩ := h
  | bool b => obtain ⟨⟩ := hw.1
  | real m e => exact two_at hw rfl hm
  | cplx m e m' e' =>
    obtain ⟨a1, ep, v1, v2, n1, n2, h, h1, h2, rfl⟩ := hw
    obtain ⟨⟩ := h
    obtain ⟨b1, rfl⟩ := two_ref h1
    obtain ⟨b2, rfl⟩ := two_ref h2
    exact ⟨[.ref b1, .ref b2], tup_mem (vs := [.ref b1, .ref b2]) (ep := ep) ⟨rfl, rfl, trivial⟩ (hm _ (.head _))⟩
noncomputable def bW : Wt → Bool
  | .bool _ => true
  | _ => false
theorem is_str {sv : SV} {l : List Nat} {t : Tok} (h : sv.Is (.str (tx l) t)) : sv = .str l := by
  match sv, h with
  | .str l', ⟨_, h⟩ => injection h with h _; rw [tx_inj h]
  | .int _, ⟨_, h⟩ => obtain ⟨⟩ := h
theorem is_int {sv : SV} {n : Int} {t : Tok} (h : sv.Is (.int n t)) : sv = .int n := by
  match sv, h with
  | .int _, ⟨_, h⟩ => injection h with h _; rw [h]
  | .str _, ⟨_, h⟩ => obtain ⟨⟩ := h
theorem is_bool {sv : SV} {b : Bool} (h : sv.Is (.bool b)) : sv = .bool b := by
  match sv, h with
  | .bool _, h => injection h with h; rw [h]
  | .str _, ⟨_, h⟩ => obtain ⟨⟩ := h
  | .int _, ⟨_, h⟩ => obtain ⟨⟩ := h
theorem is_none {sv : SV} (h : sv.Is .none) : sv = .none := by
  match sv, h with
  | .none, _ => rfl
  | .str _, ⟨_, h⟩ => obtain ⟨⟩ := h
  | .int _, ⟨_, h⟩ => obtain ⟨⟩ := h
theorem is_ref {sv : SV} {a : Addr} (h : sv.Is (.ref a)) : sv = .ref a := by
  match sv, h with
  | .ref _, h => injection h with h; rw [h]
  | .str _, ⟨_, h⟩ => obtain ⟨⟩ := h
  | .int _, ⟨_, h⟩ => obtain ⟨⟩ := h
theorem isB_of {x : Wt} {sv : SV} {v : Value} {nx : Ld} (hs : sv.Is v) (hw : IsW x v nx) : isB sv = bW x := by
  induction x with
  | non => obtain ⟨rfl, _⟩ := hw; rw [is_none hs]; rfl
  | txt l => obtain ⟨⟨_, rfl⟩, _⟩ := hw; rw [is_str hs]; rfl
  | int n => obtain ⟨⟨_, rfl⟩, _⟩ := hw; rw [is_int hs]; rfl
  | bool b => obtain ⟨rfl, _⟩ := hw; rw [is_bool hs]; rfl
  | real m e => obtain ⟨b, rfl⟩ := two_ref hw; rw [is_ref hs]; rfl
  | cplx m e m' e' => obtain ⟨a1, ep, v1, v2, n1, n2, rfl, _⟩ := hw; rw [is_ref hs]; rfl
theorem bW_kind {x : Wt} {kind : Int} (h : KindOk kind x) : (kind == 4) = bW x := by
  induction x with
  | non => exact h.elim
  | txt l => rw [show kind = 5 from h]; rfl
  | int n => rw [show kind = 0 from h]; rfl
  | bool b => rw [show kind = 4 from h]; rfl
  | real m e => rcases h with rfl | rfl <;> rfl
  | cplx m e m' e' => rw [show kind = 3 from h]; rfl
theorem vne_wt {x : Wt} {sv sv2 : SV} {v v2 : Value} {nx nv : Ld} {K : Bool → Ld → Prop} (O : KL κ sc dp un) (hu : un + 5000 < cLine) (hs : sv.Is v) (hw : IsW x v nx) (hs2 : sv2.Is v2) (hv : IsV x v2 nv) (N1 : ∀ p ∈ nx, p ∈ Z) (N2 : ∀ p ∈ nv, p ∈ Z) (k : K false Z) : vCmp κ m Z .NotEq sv sv2 K := by
  induction x with
  | non => exact hv.elim
  | txt l =>
    obtain ⟨⟨_, rfl⟩, _⟩ := hw
    obtain ⟨⟨_, rfl⟩, _⟩ := hv
    rw [is_str hs, is_str hs2]
    show K (l != l) Z
    rw [show (l != l) = false from by simp]
    exact k
  | int n =>
    obtain ⟨⟨_, rfl⟩, _⟩ := hw
    obtain ⟨⟨_, rfl⟩, _⟩ := hv
    rw [is_int hs, is_int hs2]
    show K (n != n) Z
    rw [show (n != n) = false from by simp]
    exact k
  | bool b =>
    obtain ⟨rfl, _⟩ := hw
    obtain ⟨rfl, _⟩ := hv
    rw [is_bool hs, is_bool hs2]
    exact op2_neB ⟨_, rfl, by rw [show (b != b) = false from by induction b <;> rfl]; exact k⟩
  | real m e =>
    obtain ⟨b, rfl⟩ := two_ref hw
    obtain ⟨a, _, _, rfl, _⟩ := id hv
    rw [is_ref hs, is_ref hs2]
    exact op2_neW O hu hw hv rfl N1 N2 ⟨_, rfl, k⟩
  | cplx m e m' e' =>
    obtain ⟨b, _, _, _, _, _, rfl, _⟩ := id hw
    obtain ⟨a, _, _, _, _, _, _, rfl, _⟩ := id hv
    rw [is_ref hs, is_ref hs2]
    exact op2_neW O hu hw hv rfl N1 N2 ⟨_, rfl, k⟩
end
end
section
open PySem PySem.W PySem.Calls PyProof.Rows
example : ∀ (w : World), (Mine.kk.heap_1 w.params).In default → PySem.Challenge.rw_no0260_01 = PySem.Challenge.rw_no0260_01 → True := by
  k_fill
  intros; trivial
theorem lv_mk {c : RC} {p : Addr × Obj} (h1 : Lv c p) (h2 : Mk c p) : False := by
  obtain ⟨m1, m2, m3, m4⟩ := h2
  rcases h1 with h | h | h | ⟨h, h'⟩
  · exact m1 h
  · exact m2 h
  · exact m3 h
  · exact h' (m4 h)
noncomputable def OutF (lm : LM) (rl : Addr) (sl : Bool) (c : RC) : Mp := [(PySem.Str.ofString "limits", .ref lm.a), (PySem.Str.ofString "rows", .ref rl), (PySem.Str.ofString "is_slashed", .bool sl), (PySem.Str.ofString "reader", .ref c.r)]
noncomputable def OutV (w : World) (c : RC) (lm : LM) (rl : Addr) (lo : Obj) (nx : Ld) (ps : List (List Nat × List Nat)) (en : List Nat) (sl : Bool) (i : Nat) (y : Mp) (Z' : Ld) : Prop :=
  ∃ σ P hs, RdP c σ P hs ∧ Stt ps en sl i P ∧ (∀ p ∈ hs ++ (c.led w σ ++ lm.led w) ++ ((rl, lo) :: nx), p ∈ Z') ∧ y = OutF lm rl sl c
noncomputable def InnF (lm : LM) (rl : Addr) (sl : Bool) (c : RC) (it : Addr) (ρ : Row) : Mp := [(PySem.Str.ofString "limits", .ref lm.a), (PySem.Str.ofString "rows", .ref rl), (PySem.Str.ofString "is_slashed", .bool sl), (PySem.Str.ofString "reader", .ref c.r), (PySem.Str.ofString "item", .ref it), (PySem.Str.ofString "times", .int ρ.times), (PySem.Str.ofString "is_null", .bool ρ.null)]
noncomputable def InnV (w : World) (c : RC) (lm : LM) (rl it : Addr) (lo : Obj) (nx : Ld) (ρ : Row) (ps : List (List Nat × List Nat)) (en : List Nat) (sl : Bool) (i : Nat) (t : Nat) (y : Mp) (Z' : Ld) : Prop :=
  ∃ σ P hs, RdP c σ P hs ∧ Rdg ρ ps en sl i t P ∧ (∀ p ∈ hs ++ (c.led w σ ++ lm.led w) ++ ((rl, lo) :: nx), p ∈ Z') ∧ y = InnF lm rl sl c it ρ
theorem law_read {κ : Kx} {dp un : Nat} {pen rl : Nat} {po : Obj} {vs : List Value} {ep : Nat} {ρs : List Row} {nx : Ld} {ps : List (List Nat × List Nat)} {en ld : List Nat} {sl : Bool} {lm : LM} (OL : KL κ LB.2.2.1 dp un) (hd : dp + 100 < recursionLimit) (hu : un + 5000 < cLine)
    (hT : Text ρs ps en sl) (hR : RowsAt ρs vs nx) (h0 : 0 < ρs.length) (hld : ld = [] ∨ ld = [32] ∨ ld = [10, 32]) (htl : ((ld ++ flat ps) ++ en).length ≤ 600) :
    vX κ LB.2.2.1 53 [(PySem.Str.ofString "pen", .ref pen), (PySem.Str.ofString "limits", .ref lm.a), (PySem.Str.ofString "rows", .ref rl), (PySem.Str.ofString "text", .str ((ld ++ flat ps) ++ en)), (PySem.Str.ofString "is_slashed", .bool sl)] ((pen, po) :: (rl, listOf vs.toArray ep) :: (nx ++ lm.led κ.w)) (LB.2.1.drop 7) (fun fl _ _ => fl = .ret (.bool true)) := by
  have O := OL.k
  have hTup := hR.tup
  refine ev_rd OL (by (first | lia | omega)) (by (first | lia | omega)) rfl rfl (ev_src OL (by (first | lia | omega)) (by (first | lia | omega)) rfl rfl (ev_split O rfl rfl (by (first | lia | omega)) (vE_of O ⟨rfl, fun D ls e7 hlt => ?_⟩)))
  obtain ⟨r0, t0, rest7, ev7, hnl7, hlen7, hst7, hfit7, htx7⟩ := split_nl e7 (by (first | lia | omega))
  rw [ev7] at hst7 hfit7 ⊢
  refine ⟨D, _, _, rfl, rfl, fun sr dsr k7 k8 ta q1 q2 q3 => ?_⟩
  refine ⟨⟨0, 0, sr, dsr, D, fun i => [t0, t0, t0, t0, t0, t0, t0, k7, k8].getD i t0, .str (tx r0) t0 :: rest7, 0⟩, ⟨[], t0, 0, t0, 0, t0, .none, false, false, 0, ta⟩, r0, t0, _, rfl, rfl, hlt, ⟨q1, q3⟩, ⟨Int.le_refl 0, by dsimp only [List.length_cons]; (first | lia | omega)⟩, by dsimp only; (first | lia | omega), rfl, fun c σ c1 c2 c3 c4 c5 c6 c7 c8 c9 c10 c11 c12 c13 => ?_⟩
  dsimp only at c1 c2 c3 c6 c7
  have hP0 := start_rdp q1 q3 c1 c2 c3 c4 c5 c6 c7 c8 c9 c10 c11 c12 c13 hnl7 hlen7 hst7 htl hfit7 htx7
  rw [List.append_assoc] at hP0
  have hS0 := stt_start hT h0 hld
  have hlm : lm.d < c.lst := by rw [c1]; exact hlt (lm.d, _) (.tail _ (.tail _ (List.mem_append_right _ (.tail _ (.head _)))))
  have hrl : @Ne Nat rl c.lst := by rw [c1]; exact Nat.ne_of_lt (hlt _ (.tail _ (.head _)))
  clear c1 c2 c3 c4 c5 c6 c7 c8 c9 c10 c11 c12 c13 q1 q2 q3 ev7 hnl7 hlen7 hst7 hfit7 htx7 e7
  refine e1_forL O (l := rl) (vs := vs) (ep := ep) (ns := [PySem.Str.ofString "item", PySem.Str.ofString "times", PySem.Str.ofString "is_null"]) (OutV κ.w c lm rl (listOf vs.toArray ep) nx ps en sl) ⟨⟨_, rfl⟩, ⟨_, rfl⟩, ⟨_, rfl⟩, trivial⟩ (by kernel_rfl!) ⟨rfl, ?_, ⟨σ, _, [], hP0, hS0, fun p hp => ?_, rfl⟩, fun I hI i v m₁ Z₁ oI hoI hv hJ => ?_⟩ ⟨rfl, rfl, rfl, rfl, trivial⟩ ?_
  · exact List.mem_append_right _ (.tail _ (.head _))
  · simp only [List.nil_append, List.mem_append, List.mem_cons] at hp ⊢
    rcases hp with (q | q) | q | q <;> simp [q]
  · obtain ⟨σ, P, hs, hP, hS, hZ, rfl⟩ := hJ
    obtain ⟨ρ, nr, hρ, hok, ⟨a2, it, v2', nv, w0, w1, w2, w3, rfl, rfl, hV⟩, hsub⟩ := hR.get hv
    have hOk := hT.ok ρ (List.mem_of_getElem? hρ)
    have hK := kind_of hOk.1
    obtain ⟨sv2, hsv2⟩ := isV_sv hV
    obtain ⟨n, hn⟩ := Int.eq_ofNat_of_zero_le (show 0 ≤ ρ.times by have := hOk.2.1; (first | lia | omega))
    have hnx : ∀ p ∈ nx, p ∈ Z₁ := fun p hp => hZ p (List.mem_append_right _ (.tail _ hp))
    refine ⟨a2, rfl, vun (tup_mem (vs := [.ref it, .int ρ.times w0, .bool ρ.null]) (xs := [.ref it, .int ρ.times, .bool ρ.null]) ⟨rfl, ⟨_, rfl⟩, rfl, trivial⟩ (.tail _ (hnx _ (hsub _ (.head _))))) rfl ?_⟩
    refine e1_forRangeX O (InnV κ.w c lm rl it (listOf vs.toArray ep) ((I, oI) :: nx) ρ ps en sl i) (by kernel_rfl!) ⟨n, InnF lm rl sl c it ρ, by rw [hn], by have := hOk.2.2; (first | lia | omega), ⟨rfl, rfl, rfl, rfl, rfl, rfl, rfl, trivial⟩, ⟨σ, P, hs, hP, .inl ⟨rfl, hS⟩, fun p hp => ?_, rfl⟩, fun I2 hI2 t m₁ Z₂ oI2 hoI2 hlt hJ2 => ?_, ?_⟩
    · simp only [List.mem_append, List.mem_cons] at hp ⊢
      rcases hp with (q | q | q) | q | q | q
      · exact .inr (hZ p (by simp [q]))
      · exact .inr (hZ p (by simp [q]))
      · exact .inr (hZ p (by simp [q]))
      · exact .inr (hZ p (by simp [q]))
      · exact .inl q
      · exact .inr (hZ p (by simp [q]))
    · obtain ⟨σ, P, hs, hP, hG, hZ2, rfl⟩ := hJ2
      obtain ⟨o, P', hNx, hW, hG'⟩ := rdg_next hT hρ hG (by (first | lia | omega))
      have hnx2 : ∀ p ∈ nx, p ∈ Z₂ := fun p hp => hZ2 p (List.mem_append_right _ (.tail _ (.tail _ hp)))
      have hIT : ∀ Z : Ld, (∀ p ∈ nx, p ∈ Z) → TupAt κ Z it [.int ρ.kind, .int ρ.len, sv2, .str ρ.T] := fun Z hz => tup_mem (vs := [.int ρ.kind w1, .int ρ.len w2, v2', .str (tx ρ.T) w3]) ⟨⟨_, rfl⟩, ⟨_, rfl⟩, hsv2, ⟨_, rfl⟩, trivial⟩ (hz _ (hsub _ (.tail _ (.head _))))
      refine vit_tup O rfl (hIT _ fun p hp => .tail _ (hnx2 p hp)) ⟨by decide, by decide⟩ rfl (vit_tup O rfl (hIT _ fun p hp => .tail _ (hnx2 p hp)) ⟨by decide, by decide⟩ rfl ?_)
      refine ca_con (rest := (I2, oI2) :: (rl, listOf vs.toArray ep) :: (I, oI) :: nx) O hd hu (itemT (P' := P') (x := want ρ) hP hNx hW hlm) rfl (fun p hp => .tail _ (hZ2 p (List.mem_append_left _ hp))) (fun p hp => ⟨?_, fun q => ?_⟩) fun sv v nx2 hs' σ' hsv hIW hP' => ?_
      · simp only [List.mem_cons] at hp ⊢
        rcases hp with q | q | q | q
        · exact .inl q
        · exact .inr (hZ2 p (by simp [q]))
        · exact .inr (hZ2 p (by simp [q]))
        · exact .inr (hnx2 p q)
      · exact lv_mk (lv_all hTup hrl rfl hoI hoI2 p hp) (all_mk hP p q)
      · have fin : ∀ (m' : Mp) (Z' : Ld), (∀ p ∈ (nx2 ++ (hs' ++ (c.led κ.w σ' ++ lm.led κ.w))) ++ (I2, oI2) :: (rl, listOf vs.toArray ep) :: (I, oI) :: nx, p ∈ Z') → subM (InnF lm rl sl c it ρ) m' → ∃ (mj : Mp) (Z₃ : Ld), InnV κ.w c lm rl it (listOf vs.toArray ep) ((I, oI) :: nx) ρ ps en sl i (t + 1) mj Z₃ ∧ subM mj m' ∧ (∀ p ∈ (I2, oI2) :: Z₃, p ∈ Z') ∧ ∀ p ∈ Z₃, p.1 ≠ I2 ∨ p.2.cls ≠ .type "range_iterator" := by
          intro m' Z' hz hsm
          refine ⟨InnF lm rl sl c it ρ, _, ⟨σ', P', hs', hP', hG', fun _ h => h, rfl⟩, hsm, fun p hp => hz p ?_, fun p hp => .inr ?_⟩
          · simp only [List.mem_append, List.mem_cons] at hp ⊢
            rcases hp with q | (q | q | q) | q | q | q <;> simp [q]
          · rcases List.mem_append.mp hp with hp | hp
            · exact (all_mk hP' p hp).2.1
            rcases List.mem_cons.mp hp with rfl | hp
            · show Value.type "list" ≠ _; decide
            rcases List.mem_cons.mp hp with rfl | hp
            · rw [hoI]; decide
            · rw [(hTup p hp).1]; decide
        have mem2 : ∀ p ∈ nx, p ∈ (nx2 ++ (hs' ++ (c.led κ.w σ' ++ lm.led κ.w))) ++ (I2, oI2) :: (rl, listOf vs.toArray ep) :: (I, oI) :: nx := fun p hp => List.mem_append_right _ (.tail _ (.tail _ (.tail _ hp)))
        have mem3 : ∀ p ∈ nx2, p ∈ (nx2 ++ (hs' ++ (c.led κ.w σ' ++ lm.led κ.w))) ++ (I2, oI2) :: (rl, listOf vs.toArray ep) :: (I, oI) :: nx := fun p hp => List.mem_append_left _ (List.mem_append_left _ hp)
        refine ⟨fun hnull => ?_, fun hnull => ?_⟩
        · unfold want at hIW
          rw [if_pos hnull] at hIW
          obtain ⟨rfl, rfl⟩ := (show v = .none ∧ nx2 = [] from hIW)
          obtain rfl := is_none hsv
          refine op2_neN ⟨_, rfl, iff_ rfl ?_⟩
          refine ev_isi O (v := .none) rfl rfl (fun a ha => nomatch ha) ?_
          refine ev_and2 O (vit_tup O rfl (hIT _ mem2) ⟨by decide, by decide⟩ rfl ⟨_, rfl, ⟨fun h4 => ?_, fun h4 => ?_⟩⟩)
          · refine ev_not O ⟨_, rfl, ?_⟩
            refine op2_neB ⟨_, rfl, iff_ (by rw [hnull]; rfl) ?_⟩
            exact fin _ _ (fun _ h => h) ⟨rfl, rfl, rfl, rfl, rfl, rfl, rfl, trivial⟩
          · refine op2_neB ⟨_, rfl, iff_ rfl ?_⟩
            exact fin _ _ (fun _ h => h) ⟨rfl, rfl, rfl, rfl, rfl, rfl, rfl, trivial⟩
        · unfold want at hIW
          rw [if_neg (by rw [hnull]; decide)] at hIW
          refine vit_tup O rfl (hIT _ mem2) ⟨by decide, by decide⟩ rfl ?_
          refine vne_wt OL hu hsv hIW hsv2 hV mem3 (fun p hp => mem2 p (hsub p (.tail _ (.tail _ hp)))) (iff_ rfl ?_)
          have hB := (isB_of hsv hIW).trans (bW_kind hK).symm
          refine ev_isi O (v := sv) rfl rfl (fun a ha => w_tup (by rw [ha] at hsv; obtain rfl := hsv; exact hIW) mem3) ?_
          refine ev_and2 O (vit_tup O rfl (hIT _ mem2) ⟨by decide, by decide⟩ rfl ⟨_, rfl, ⟨fun h4 => ?_, fun h4 => ?_⟩⟩)
          · refine ev_not O ⟨_, rfl, ?_⟩
            refine op2_neB ⟨_, rfl, iff_ (by rw [hnull, hB, h4]; rfl) ?_⟩
            exact fin _ _ (fun _ h => h) ⟨rfl, rfl, rfl, rfl, rfl, rfl, rfl, trivial⟩
          · refine op2_neB ⟨_, rfl, iff_ (by rw [hB, h4]; rfl) ?_⟩
            exact fin _ _ (fun _ h => h) ⟨rfl, rfl, rfl, rfl, rfl, rfl, rfl, trivial⟩
    · rintro m₁ Z₂ ⟨σ, P, hs, hP, hG, hZ2, rfl⟩
      have hS' := rdg_done hG hOk.2.1 hn.symm
      refine ⟨OutF lm rl sl c, hs ++ (c.led κ.w σ ++ lm.led κ.w) ++ ((rl, listOf vs.toArray ep) :: nx), ⟨σ, P, hs, hP, hS', fun _ h => h, rfl⟩, ⟨rfl, rfl, rfl, rfl, trivial⟩, fun p hp => hZ2 p ?_, List.mem_append_right _ (.head _), fun p hp q hq => .inr ?_⟩
      · simp only [List.mem_append, List.mem_cons, List.not_mem_nil, or_false] at hp ⊢
        rcases hp with q | (q | q | q) | q | q <;> simp [q]
      · rw [List.mem_singleton.mp hq]
        rcases List.mem_append.mp hp with hp | hp
        · rw [hoI]; exact (all_mk hP p hp).2.2.1
        rcases List.mem_cons.mp hp with rfl | hp
        · rw [hoI]; show Value.type "list" ≠ _; decide
        · rw [hoI, (hTup p hp).1]; decide
  · rintro m₁ Z₁ ⟨σ, P, hs, hP, hS, hZ, rfl⟩
    rw [hR.len] at hS
    have hmk : ∀ p ∈ hs ++ (c.led κ.w σ ++ lm.led κ.w), p ∈ Z₁ := fun p hp => hZ p (List.mem_append_left _ hp)
    refine ⟨fun hsl => ?_, fun hsl => ?_⟩
    · subst hsl
      obtain ⟨P', P2, hN1, hN2⟩ := end_slash hT hS
      refine ev_and2 O (ca_con (rest := []) O hd hu (itemT (P' := P') (x := .non) hP hN1 (.inl ⟨rfl, rfl⟩) hlm) rfl hmk (fun _ h => nomatch h) fun sv v nx2 hs' σ' hsv hIW hP' => ?_)
      obtain ⟨rfl, rfl⟩ := (show v = .none ∧ nx2 = [] from hIW)
      obtain rfl := is_none hsv
      refine ⟨_, rfl, ift rfl (ca_con (rest := []) O hd hu (itemT (P' := P2) (x := .non) hP' hN2 (.inl ⟨rfl, rfl⟩) hlm) rfl (fun p hp => List.mem_append_left _ hp) (fun _ h => nomatch h) fun sv2 v2 nx3 hs2 σ2 hsv2 hIW2 hP2 => ?_)⟩
      obtain ⟨rfl, rfl⟩ := (show v2 = .none ∧ nx3 = [] from hIW2)
      obtain rfl := is_none hsv2
      exact rfl
    · subst hsl
      obtain ⟨hb, hdn, hl, hg⟩ := end_none hT hS
      obtain ⟨hR', hb', hdn', hl', hh⟩ := hP
      exact ca_isend OL hd hu hR' (hb'.trans hb) (hdn'.trans hdn) (by rw [hl']; exact hl) hg (fun p hp => hmk p (List.mem_append_right _ (List.mem_append_left _ hp))) rfl
end
section
open PySem PySem.W PySem.Calls PyProof.Rows
example : ∀ (w : World), (Mine.kk.heap_1 w.params).In default → PySem.Challenge.rw_no0260_01 = PySem.Challenge.rw_no0260_01 → True := by
  k_fill
  intros; trivial
noncomputable def MakeF (pen rl : Addr) (lm : LM) : Mp := [(PySem.Str.ofString "pen", .ref pen), (PySem.Str.ofString "limits", .ref lm.a), (PySem.Str.ofString "rows", .ref rl)]
noncomputable def MakeV (w : World) (pen rl : Nat) (lm : LM) (i : Nat) (y : Mp) (Z' : Ld) : Prop := ∃ (po : Obj) (ρs : List Row) (vs : List Value) (nx : Ld) (ep : Nat), PenObj po ∧ Z' = (pen, po) :: (rl, listOf vs.toArray ep) :: (nx ++ lm.led w) ∧ RowsAt ρs vs nx ∧ ρs.length = i ∧ (∀ p ∈ nx, @LT.lt Nat _ pen p.1) ∧ y = MakeF pen rl lm
theorem law_make {κ : Kx} {dp un : Nat} {scr : Addr} {sv : List Value} {ns : List Int} (OL : KL κ LB.2.2.1 dp un) (hd : dp + 100 < recursionLimit) (hu : un + 5000 < cLine) (hL : κ.g.IsList scr sv.toArray) (hI : IntsAre sv ns) (hn : ns.length ≤ 63) :
    vX κ LB.2.2.1 60 [(PySem.Str.ofString "script", .ref scr)] [] LB.2.1 (fun fl _ _ => fl = .ret (.bool true)) := by
  have O := OL.k
  refine ca_penL OL hd hu hL hI hn fun pen po hpo => ?_
  refine ev_limits OL (by (first | lia | omega)) (by (first | lia | omega)) rfl fun lm hl1 hl2 => ?_
  refine ev_list0 fun rl hrl => ?_
  have l1 : @LT.lt Nat _ pen lm.d := hl1 _ (.head _)
  have l2 : @LT.lt Nat _ lm.a rl := hrl (lm.a, _) (.head _)
  have hlt : ∀ o, ∀ p ∈ (rl, o) :: lm.led κ.w, @LT.lt Nat _ pen p.1 := fun o p hp => by
    unfold LM.led at hp
    simp only [List.mem_cons, List.not_mem_nil, or_false] at hp
    rcases hp with rfl | rfl | rfl <;> dsimp only <;> (first | lia | omega)
  refine e1_forRangeX O (MakeV κ.w pen rl lm) (by kernel_rfl!) ?_
  refine ca_draw (R := (rl, listOf [].toArray 0) :: lm.led κ.w) O hd hu hpo ⟨by decide, by decide⟩ rfl (fun p hp => ?_) (fun p hp => Nat.ne_of_gt (hlt _ p hp)) fun r po1 r0 r1 hpo1 => ?_
  · simp only [List.mem_append, List.mem_cons] at hp ⊢
    rcases hp with q | q | q <;> simp [q]
  obtain ⟨n, rfl⟩ := Int.eq_ofNat_of_zero_le r0
  refine ⟨n + 1, MakeF pen rl lm, by rw [Int.add_comm]; rfl, by (first | lia | omega), ⟨rfl, rfl, rfl, trivial⟩, ⟨po1, [], [], [], 0, hpo1, rfl, .nil, rfl, (fun _ h => nomatch h), rfl⟩, fun I hI i m₁ Z₁ oI hoI hi hJ => ?_, ?_⟩
  · obtain ⟨po, ρs, vs, nx, ep, hpo, rfl, hR, hlen, hoff, rfl⟩ := hJ
    generalize hlo : listOf vs.toArray ep = lo
    have hpI : pen < I := hI _ (.head _)
    have offR : ∀ p ∈ (I, oI) :: (rl, lo) :: (nx ++ lm.led κ.w), @LT.lt Nat _ pen p.1 := fun p hp => by
      rcases List.mem_cons.mp hp with rfl | hp
      · exact hpI
      rcases List.mem_cons.mp hp with rfl | hp
      · exact hlt lo _ (.head _)
      rcases List.mem_append.mp hp with hp | hp
      · exact hoff p hp
      · exact hlt lo _ (.tail _ hp)
    refine ev_append O rfl rfl ⟨lo, .tail _ (.tail _ (.head _)), by rw [← hlo], by rw [← hlo]⟩ (vE_of O ?_)
    refine ca_con (rest := (I, oI) :: (rl, lo) :: (nx ++ lm.led κ.w)) O hd hu (item2T hpo) rfl (fun p hp => by rw [List.mem_singleton.mp hp]; exact .tail _ (.head _)) (fun p hp => ⟨?_, fun q => Nat.lt_irrefl pen (by have h1 := offR p hp; rw [show p.1 = pen from congrArg Prod.fst (List.mem_singleton.mp q)] at h1; exact h1)⟩) fun it kind len x T v' nv po' t1 t2 t3 hIt hIsV hpo' l3 l4 => ?_
    · rcases List.mem_cons.mp hp with q | hp
      · exact q ▸ .head _
      · exact .tail _ (.tail _ hp)
    have offR2 : ∀ o, ∀ p ∈ (it, o) :: (nv ++ (I, oI) :: (rl, lo) :: (nx ++ lm.led κ.w)), @LT.lt Nat _ pen p.1 := fun o p hp => by
      rcases List.mem_cons.mp hp with rfl | hp
      · exact l3
      rcases List.mem_append.mp hp with hp | hp
      · exact l4 p hp
      · exact offR p hp
    refine ca_draw (R := (it, tupO [.int kind t1, .int len t2, v', .str (tx T) t3] 0) :: (nv ++ (I, oI) :: (rl, lo) :: (nx ++ lm.led κ.w))) O hd hu hpo' ⟨by decide, by decide⟩ rfl (fun p hp => ?_) (fun p hp => Nat.ne_of_gt (offR2 _ p hp)) fun r2 po2 r20 r21 hpo2 => ca_max O ?_
    · simp only [List.mem_append, List.mem_cons, List.cons_append] at hp ⊢
      rcases hp with q | q | q | q | q | q | q <;> simp [q]
    refine ca_draw (R := (it, tupO [.int kind t1, .int len t2, v', .str (tx T) t3] 0) :: (nv ++ (I, oI) :: (rl, lo) :: (nx ++ lm.led κ.w))) O hd hu hpo2 ⟨by decide, by decide⟩ rfl (fun p hp => hp) (fun p hp => Nat.ne_of_gt (offR2 _ p hp)) fun r3 po3 r30 r31 hpo3 => ?_
    intro D vsD epD hvD hltD
    obtain ⟨_, _, _, rfl, rfl, ⟨u0, rfl⟩, rfl⟩ := svs3 hvD
    have htm : 1 ≤ 1 + (if r2 - 2 > 0 then r2 - 2 else 0) ∧ 1 + (if r2 - 2 > 0 then r2 - 2 else 0) ≤ 3 := by split <;> (first | lia | omega)
    generalize 1 + (if r2 - 2 > 0 then r2 - 2 else 0) = tm at hvD hltD htm ⊢
    generalize (r3 == 3) = nb at hvD hltD ⊢
    rw [hltD.1]
    have hvl : vs.length ≤ 1000 := by rw [hR.len]; (first | lia | omega)
    have hR2 := hR.snoc (ρ := ⟨kind, len, x, T, tm, nb⟩) (v := .ref D) ⟨D, it, v', nv, u0, t1, t2, t3, rfl, rfl, hIsV⟩ ⟨hIt, htm⟩
    dsimp only at hR2
    have cl : ∀ p ∈ nx ++ lm.led κ.w, p.2.cls = .type "tuple" ∨ p.2.cls = .ref 364 ∨ p.2.cls = .type "dict" := fun p hp => by
      rcases List.mem_append.mp hp with hp | hp
      · exact .inl (hR.tup p hp).1
      · unfold LM.led at hp
        simp only [List.mem_cons, List.not_mem_nil, or_false] at hp
        rcases hp with rfl | rfl
        · exact .inr (.inl rfl)
        · exact .inr (.inr rfl)
    have cn : ∀ p ∈ nv, p.2.cls = .type "tuple" := fun p hp => (isV_tup hIsV p hp).1
    refine ⟨vs, ep, (D, tupO [.ref it, .int tm u0, .bool nb] 0) :: (pen, po3) :: (it, tupO [.int kind t1, .int len t2, v', .str (tx T) t3] 0) :: (nv ++ [(I, oI)]), nx ++ lm.led κ.w, ?_, fun p hp => ?_, fun p hp => .inr ?_, hvl, fun u hu => ?_⟩
    · rw [hlo]; simp
    · simp only [List.mem_append, List.mem_cons, List.not_mem_nil, or_false] at hp
      rcases hp with rfl | rfl | rfl | hp | rfl
      · exact .inr (by show Value.type "tuple" ≠ _; decide)
      · exact .inl (Nat.ne_of_lt (hlt lo _ (.head _)))
      · exact .inr (by show Value.type "tuple" ≠ _; decide)
      · exact .inr (by rw [cn p hp]; decide)
      · exact .inr (by rw [hoI]; decide)
    · rcases cl p hp with e | e | e <;> (rw [e]; decide)
    · obtain rfl := (show u = .ref D from hu)
      refine ⟨MakeF pen rl lm, (pen, po3) :: (rl, listOf (vs ++ [Value.ref D]).toArray (ep + 1)) :: ((((D, tupO [.ref it, .int tm u0, .bool nb] 0) :: (it, tupO [.int kind t1, .int len t2, v', .str (tx T) t3] 0) :: nv) ++ nx) ++ lm.led κ.w), ⟨po3, _, vs ++ [Value.ref D], _, ep + 1, hpo3, rfl, hR2, by rw [List.length_append, hlen]; rfl, fun p hp => ?_, rfl⟩, ⟨rfl, rfl, rfl, trivial⟩, fun p hp => ?_, fun p hp => .inr ?_⟩
      · simp only [List.mem_append, List.mem_cons, List.cons_append] at hp
        rcases hp with rfl | rfl | hp | hp
        · exact hltD.2 _ (.head _)
        · exact l3
        · exact l4 p hp
        · exact hoff p hp
      · simp only [List.mem_append, List.mem_cons, List.not_mem_nil, or_false, List.cons_append, or_assoc] at hp ⊢
        rcases hp with q | q | q | q | q | q | q | q <;> simp [q]
      · rcases List.mem_cons.mp hp with rfl | hp
        · rw [hpo3.cls]; decide
        rcases List.mem_cons.mp hp with rfl | hp
        · show Value.type "list" ≠ _; decide
        · simp only [List.mem_append, List.mem_cons, List.cons_append, or_assoc] at hp
          have e : p.2.cls = .type "tuple" ∨ p.2.cls = .ref 364 ∨ p.2.cls = .type "dict" := by
            rcases hp with rfl | rfl | hp | hp | hp
            · exact .inl rfl
            · exact .inl rfl
            · exact .inl (cn p hp)
            · exact cl p (List.mem_append_left _ hp)
            · exact cl p (List.mem_append_right _ hp)
          rcases e with e | e | e <;> (rw [e]; decide)
  · rintro m₁ Z₁ ⟨po, ρs, vs, nx, ep, hpo, rfl, hR, hlen, hoff, rfl⟩
    obtain ⟨vi, v1, ρ1, nr1, rfl, hρ1, hok1, ⟨a1, it1, v1', nv1, u0, u1, u2, u3, rfl, rfl, hV1⟩, hsub1⟩ := hR.last (by (first | lia | omega))
    have offL : ∀ p ∈ (rl, listOf (vi ++ [Value.ref a1]).toArray ep) :: (nx ++ lm.led κ.w), @LT.lt Nat _ pen p.1 := fun p hp => by
      rcases List.mem_cons.mp hp with rfl | hp
      · exact hlt _ _ (.head _)
      rcases List.mem_append.mp hp with hp | hp
      · exact hoff p hp
      · exact hlt (listOf [].toArray 0) _ (.tail _ hp)
    intro a5 vs5 ep5 hv5 hlt5
    refine ca_pickR (R := (rl, listOf (vi ++ [Value.ref a1]).toArray ep) :: (nx ++ lm.led κ.w)) O hd hu hpo hv5 ⟨by simp, by simp⟩ hlt5 rfl (fun _ h => h) offL fun x po4 hx hpo4 => ?_
    simp only [List.mem_cons, List.not_mem_nil, or_false] at hx
    obtain ⟨ld, rfl, hld⟩ : ∃ ld, x = .str ld ∧ (ld = [] ∨ ld = [32] ∨ ld = [10, 32]) := by
      rcases hx with rfl | rfl | rfl
      · exact ⟨_, rfl, .inl rfl⟩
      · exact ⟨_, rfl, .inr (.inl rfl)⟩
      · exact ⟨_, rfl, .inr (.inr rfl)⟩
    have hldl : ld.length ≤ 2 := by rcases hld with rfl | rfl | rfl <;> decide
    refine ca_con (rest := lm.led κ.w) O hd hu (speltT (ep := ep) hpo4 hR (by (first | lia | omega)) fun p hp => offL p ?_) rfl (fun p hp => ?_) (fun p hp => ⟨?_, fun q => ?_⟩) fun ps po5 hSpl hln hpo5 => ⟨by (first | lia | omega), ?_⟩
    · simp only [List.mem_append, List.mem_cons] at hp ⊢
      rcases hp with q | q <;> simp [q]
    · simp only [List.mem_append, List.mem_cons] at hp ⊢
      rcases hp with q | q | q <;> simp [q]
    · exact .tail _ (.tail _ (List.mem_append_right _ hp))
    · have e : p.2.cls = .ref 364 ∨ p.2.cls = .type "dict" := by
        unfold LM.led at hp
        simp only [List.mem_cons, List.not_mem_nil, or_false] at hp
        rcases hp with rfl | rfl
        · exact .inl rfl
        · exact .inr rfl
      have e2 : p.2.cls = .type "list" ∨ p.2.cls = .type "tuple" := by
        rcases List.mem_cons.mp q with rfl | q
        · exact .inl hpo4.cls
        rcases List.mem_cons.mp q with rfl | q
        · exact .inl rfl
        · exact .inr (hR.tup p q).1
      rcases e with e | e <;> rcases e2 with e2 | e2 <;> (rw [e] at e2; revert e2; decide)
    refine ev_mono (ev_or2 O (K := fun v Z' => ∃ sl po6, v = .bool sl ∧ Z' = (pen, po6) :: (rl, listOf (vi ++ [Value.ref a1]).toArray ep) :: (nx ++ lm.led κ.w) ∧ PenObj po6 ∧ (ρ1.null = true → sl = true)) ?_) ?_
    · refine vit_last (x := .ref a1) rfl (.tail _ (.head _)) rfl (fun _ => rfl) (vit_tup O rfl (tup_mem (vs := [.ref it1, .int ρ1.times u0, .bool ρ1.null]) (xs := [.ref it1, .int ρ1.times, .bool ρ1.null]) ⟨rfl, ⟨_, rfl⟩, rfl, trivial⟩ (.tail _ (.tail _ (List.mem_append_left _ (hsub1 _ (.head _)))))) ⟨by decide, by decide⟩ rfl ⟨_, rfl, ⟨fun hn1 => ?_, fun hn1 => ?_⟩⟩)
      · exact ⟨true, po5, rfl, rfl, hpo5, fun _ => rfl⟩
      · exact ca_draw (R := (rl, listOf (vi ++ [Value.ref a1]).toArray ep) :: (nx ++ lm.led κ.w)) O hd hu hpo5 ⟨by decide, by decide⟩ rfl (fun _ h => h) (fun p hp => Nat.ne_of_gt (offL p hp)) fun r6 po6 _ _ hpo6 => ⟨_, po6, rfl, rfl, hpo6, fun h => absurd (hn1.symm.trans h) (by decide)⟩
    rintro _ _ ⟨sl, po6, rfl, rfl, hpo6, hsl⟩
    have hT : ∀ en, EnOk sl en → Text ρs ps en sl := fun en he => ⟨hSpl, hR.ok, he, fun ρ q1 q2 => hsl (by rw [hρ1] at q1; obtain rfl := Option.some.inj q1; exact q2)⟩
    refine ⟨fun h => ?_, fun h => ?_⟩
    · intro a7 vs7 ep7 hv7 hlt7
      refine ca_pickR (R := (rl, listOf (vi ++ [Value.ref a1]).toArray ep) :: (nx ++ lm.led κ.w)) O hd hu hpo6 hv7 ⟨by simp, by simp⟩ hlt7 rfl (fun _ h => h) offL fun x po7 hx hpo7 => ?_
      simp only [List.mem_cons, List.not_mem_nil, or_false] at hx
      obtain ⟨en, rfl, hen, hel⟩ : ∃ en, x = .str en ∧ EnOk sl en ∧ en.length ≤ 4 := by
        rcases hx with rfl | rfl | rfl
        · exact ⟨_, rfl, .inl ⟨h, .inl rfl⟩, by decide⟩
        · exact ⟨_, rfl, .inl ⟨h, .inr (.inl rfl)⟩, by decide⟩
        · exact ⟨_, rfl, .inl ⟨h, .inr (.inr rfl)⟩, by decide⟩
      exact ⟨by rw [List.length_append]; (first | lia | omega), law_read OL hd hu (hT en hen) hR (by (first | lia | omega)) hld (by rw [List.length_append, List.length_append]; (first | lia | omega))⟩
    · intro a7 vs7 ep7 hv7 hlt7
      refine ca_pickR (R := (rl, listOf (vi ++ [Value.ref a1]).toArray ep) :: (nx ++ lm.led κ.w)) O hd hu hpo6 hv7 ⟨by simp, by simp⟩ hlt7 rfl (fun _ h => h) offL fun x po7 hx hpo7 => ?_
      simp only [List.mem_cons, List.not_mem_nil, or_false] at hx
      obtain ⟨en, rfl, hen, hel⟩ : ∃ en, x = .str en ∧ EnOk sl en ∧ en.length ≤ 4 := by
        rcases hx with rfl | rfl | rfl | rfl
        · exact ⟨_, rfl, .inr ⟨h, .inl rfl⟩, by decide⟩
        · exact ⟨_, rfl, .inr ⟨h, .inr (.inl rfl)⟩, by decide⟩
        · exact ⟨_, rfl, .inr ⟨h, .inr (.inr (.inl rfl))⟩, by decide⟩
        · exact ⟨_, rfl, .inr ⟨h, .inr (.inr (.inr rfl))⟩, by decide⟩
      exact ⟨by rw [List.length_append]; (first | lia | omega), law_read OL hd hu (hT en hen) hR (by (first | lia | omega)) hld (by rw [List.length_append, List.length_append]; (first | lia | omega))⟩
theorem law_go : GoalL LB.2.1 LB.2.2.1 LB.2.2.2.1 := by
  unfold GoalL
  intro w mean mg mb dp un gd g L a scr cd s vs ns Q E hd hu B F N X T hL hI hn hE ret
  have OL : KL ⟨PySem.Challenge.rw_no0260_01.prog, w, (aT dp un gd []).deeper (envOf LB.2.2.2.1 LB.2.2.1 L a cd), envOf LB.2.2.2.1 LB.2.2.1 L a cd, g, L, s, E⟩ LB.2.2.1 dp un := ⟨⟨gd, mean, mg, mb, _, _, a, cd, rfl, rfl, rfl, B, X, T⟩, hE⟩
  refine vX_of OL.k 60 _ _ _ _ (law_make OL hd hu hL hI hn) s.heap s.toks Q ⟨_, F, knows_zip (ns := [PySem.Str.ofString "script"]) (xs := [.ref scr]) (vs := [.ref scr]) ⟨rfl, trivial⟩ (by kernel_rfl!) rfl⟩ N (fun fl fw m' Z' h' tk' k hfl F' _ => ?_)
  obtain rfl := k
  obtain ⟨u, rfl, rfl⟩ := hfl
  obtain ⟨m2, F2, _⟩ := F'
  exact ret h' tk' m2 F2
end
section
open PySem PySem.W PySem.Calls PyProof.Rows
noncomputable def hdx.tw13621958421664552365 : Nat := 0
noncomputable def hdx.tw14090284624843534012 : Nat := 0
noncomputable def hdx.tw84875930693409747 : Nat := 0
noncomputable def hdx.tw12794336909317039344 : Nat := 0
noncomputable def hdx.tw14978752347239200011 : Nat := 0
noncomputable def hdx.tw3645669340912716563 : Nat := 0
noncomputable def hdx.tw3913422088284748507 : Nat := 0
noncomputable def hdx.tw7756963486632425250 : Nat := 0
noncomputable def hdx.tw11473167249597610227 : Nat := 0
noncomputable def hdx.tw7948558210671016749 : Nat := 0
noncomputable def hdx.tw12646241362507586863 : Nat := 0
noncomputable def hdx.tw4005153839263176976 : Nat := 0
noncomputable def hdx.tw9079213770932928529 : Nat := 0
noncomputable def hdx.tw5693888961822732430 : Nat := 0
noncomputable def hdx.tw14586031539414160272 : Nat := 0
noncomputable def hdx.tw12023012282133076722 : Nat := 0
noncomputable def hdx.tw17593756249777037717 : Nat := 0
noncomputable def hdx.tw16196218814506653375 : Nat := 0
noncomputable def hdx.tw7208240509209418578 : Nat := 0
noncomputable def hdx.tw11515147229649130612 : Nat := 0
noncomputable def hdx.tw17075150009419757640 : Nat := 0
noncomputable def hdx.tw15954137024335739287 : Nat := 0
noncomputable def hdx.tw5360107696591207231 : Nat := 0
noncomputable def hdx.tw4619951748407440113 : Nat := 0
noncomputable def hdx.tw8777017965672116840 : Nat := 0
noncomputable def hdx.tw582327572981222469 : Nat := 0
noncomputable def hdx.tw9412919941992487337 : Nat := 0
noncomputable def hdx.tw17601081035908215487 : Nat := 0
noncomputable def hdx.tw17847513712020367905 : Nat := 0
noncomputable def hdx.tw17568867728482003588 : Nat := 0
noncomputable def hdx.tw18415692690662700267 : Nat := 0
noncomputable def hdx.tw17232349515195586196 : Nat := 0
noncomputable def hdx.tw12052765825483242615 : Nat := 0
noncomputable def hdx.tw5059931083316975904 : Nat := 0
noncomputable def hdx.tw3192341236944561261 : Nat := 0
noncomputable def hdx.tw1995874101337085491 : Nat := 0
noncomputable def hdx.tw1082102485769527193 : Nat := 0
noncomputable def hdx.tw5985232166639502999 : Nat := 0
noncomputable def hdx.tw2116277771065558145 : Nat := 0
noncomputable def hdx.tw6141538238860004499 : Nat := 0
noncomputable def hdx.tw637591128139111178 : Nat := 0
noncomputable def hdx.tw6649976812566562612 : Nat := 0
noncomputable def hdx.tw1728778503900741014 : Nat := 0
noncomputable def hdx.tw5328674648101353959 : Nat := 0
noncomputable def hdx.tw16286876664219943258 : Nat := 0
noncomputable def hdx.tw14433594377317562107 : Nat := 0
noncomputable def hdx.tw12523354309584168661 : Nat := 0
noncomputable def hdx.tw3709209062388683010 : Nat := 0
noncomputable def hdx.tw15834383266715129711 : Nat := 0
noncomputable def hdx.tw1192885790850840728 : Nat := 0
noncomputable def hdx.tw6433729911373238517 : Nat := 0
noncomputable def hdx.tw12313045728619779818 : Nat := 0
noncomputable def hdx.tw8555955137914357800 : Nat := 0
noncomputable def hdx.tw4301892234271262854 : Nat := 0
noncomputable def hdx.tw4838250552842157455 : Nat := 0
noncomputable def hdx.tw6705419985462329557 : Nat := 0
noncomputable def hdx.tw15265395486962813422 : Nat := 0
noncomputable def hdx.tw11233821810271452931 : Nat := 0
noncomputable def hdx.tw10406150872936748529 : Nat := 0
noncomputable def hdx.tw1972108522367403529 : Nat := 0
noncomputable def hdx.tw15671598221465228534 : Nat := 0
noncomputable def hdx.tw16302159872891563146 : Nat := 0
noncomputable def hdx.tw5406008801441316737 : Nat := 0
noncomputable def hdx.tw11078440211413924588 : Nat := 0
noncomputable def hdx.tw12900576416758664460 : Nat := 0
noncomputable def hdx.tw14446847391066253762 : Nat := 0
noncomputable def hdx.tw3499749315779059354 : Nat := 0
noncomputable def hdx.tw13104435317923764781 : Nat := 0
noncomputable def hdx.tw10217665054196928255 : Nat := 0
noncomputable def hdx.tw7654691229531048268 : Nat := 0
noncomputable def hdx.tw6697547145641553894 : Nat := 0
noncomputable def hdx.tw3564287663811300862 : Nat := 0
noncomputable def hdx.tw2843142823915918097 : Nat := 0
noncomputable def hdx.tw9409537567691438086 : Nat := 0
noncomputable def hdx.tw1276945570879339878 : Nat := 0
noncomputable def hdx.tw5065960381556720169 : Nat := 0
noncomputable def hdx.tw17442969993681058771 : Nat := 0
noncomputable def hdx.tw17665737474999353408 : Nat := 0
noncomputable def hdx.tw13129703820758474196 : Nat := 0
noncomputable def hdx.tw7382874535813935119 : Nat := 0
noncomputable def hdx.tw8020893750639294887 : Nat := 0
noncomputable def hdx.tw7929344018686475116 : Nat := 0
noncomputable def hdx.tw10951607000393433550 : Nat := 0
noncomputable def hdx.tw8441336199095553518 : Nat := 0
noncomputable def hdx.tw733187150190197927 : Nat := 0
noncomputable def hdx.tw3593019715707843614 : Nat := 0
noncomputable def hdx.tw11578074195871968587 : Nat := 0
noncomputable def hdx.tw10441041258344599749 : Nat := 0
noncomputable def hdx.tw851837672301890471 : Nat := 0
noncomputable def hdx.tw7767355764584403046 : Nat := 0
noncomputable def hdx.tw9835677451396285755 : Nat := 0
noncomputable def hdx.tw16678223327191222261 : Nat := 0
noncomputable def hdx.tw4556465615819868078 : Nat := 0
noncomputable def hdx.tw15174282228005035574 : Nat := 0
noncomputable def hdx.tw8754884766819145787 : Nat := 0
noncomputable def hdx.tw2178676106264117391 : Nat := 0
noncomputable def hdx.tw7493400405481521187 : Nat := 0
noncomputable def hdx.tw5630239216004255137 : Nat := 0
noncomputable def hdx.tw8516185388746235783 : Nat := 0
noncomputable def hdx.tw17701526787073945742 : Nat := 0
noncomputable def hdx.tw8087485324176767001 : Nat := 0
noncomputable def hdx.tw15042332034325960718 : Nat := 0
noncomputable def hdx.tw12298186587672302238 : Nat := 0
noncomputable def hdx.tw11581373274737533026 : Nat := 0
noncomputable def hdx.tw10349473682594449981 : Nat := 0
noncomputable def hdx.tw11522366763458423193 : Nat := 0
noncomputable def hdx.tw5348298441657156085 : Nat := 0
noncomputable def hdx.tw14650242626018051126 : Nat := 0
noncomputable def hdx.tw7588148150464725741 : Nat := 0
noncomputable def hdx.tw16284999700036597817 : Nat := 0
noncomputable def hdx.tw6392203597269669241 : Nat := 0
noncomputable def hdx.tw2814366135791808946 : Nat := 0
noncomputable def hdx.tw11185148042668281505 : Nat := 0
noncomputable def hdx.tw11388591071182995016 : Nat := 0
noncomputable def hdx.tw3501709826607874653 : Nat := 0
noncomputable def hdx.tw10297514276478950717 : Nat := 0
noncomputable def hdx.tw12635588955759496997 : Nat := 0
noncomputable def hdx.tw6663216703098371146 : Nat := 0
noncomputable def hdx.tw16535174256780669495 : Nat := 0
noncomputable def hdx.tw3522473756258067556 : Nat := 0
noncomputable def hdx.tw18427672949982962225 : Nat := 0
noncomputable def hdx.tw7190204759224369055 : Nat := 0
noncomputable def hdx.tw2332179854472702555 : Nat := 0
noncomputable def hdx.tw9739498329565824639 : Nat := 0
noncomputable def hdx.tw14531365210256918122 : Nat := 0
noncomputable def hdx.tw10121793167571375384 : Nat := 0
noncomputable def hdx.tw6417378638471410451 : Nat := 0
noncomputable def hdx.tw9593306784295756071 : Nat := 0
noncomputable def hdx.tw10283324217907189409 : Nat := 0
noncomputable def hdx.tw10138009557510111992 : Nat := 0
noncomputable def hdx.tw4957944246896843125 : Nat := 0
noncomputable def hdx.tw15687922160928513878 : Nat := 0
noncomputable def hdx.tw3028743508504213235 : Nat := 0
noncomputable def hdx.tw10598149449993524125 : Nat := 0
noncomputable def hdx.tw13331389132668992040 : Nat := 0
noncomputable def hdx.tw12841369549841986740 : Nat := 0
noncomputable def hdx.tw8119540684395119108 : Nat := 0
noncomputable def hdx.tw4849328358135419483 : Nat := 0
noncomputable def hdx.tw11575508544117185540 : Nat := 0
noncomputable def hdx.tw5231109205170973173 : Nat := 0
noncomputable def hdx.tw10995585114878408033 : Nat := 0
noncomputable def hdx.tw12445566163321100736 : Nat := 0
noncomputable def hdx.tw5518913457677203722 : Nat := 0
noncomputable def hdx.tw4192235915691096520 : Nat := 0
noncomputable def hdx.tw2854212090634251903 : Nat := 0
noncomputable def hdx.tw17174540433398791919 : Nat := 0
noncomputable def hdx.tw15368086413713276134 : Nat := 0
noncomputable def hdx.tw10227702916350360140 : Nat := 0
noncomputable def hdx.tw2804849314950835914 : Nat := 0
noncomputable def hdx.tw12331383661426589313 : Nat := 0
noncomputable def hdx.tw16625623742985165887 : Nat := 0
noncomputable def hdx.tw13406769057357949175 : Nat := 0
noncomputable def hdx.tw7604527684314998777 : Nat := 0
noncomputable def hdx.tw10205543830944778134 : Nat := 0
noncomputable def hdx.tw14563039259911214161 : Nat := 0
noncomputable def hdx.tw711315453752034009 : Nat := 0
noncomputable def hdx.tw18390342758081890369 : Nat := 0
noncomputable def hdx.tw12478788136511962927 : Nat := 0
noncomputable def hdx.tw11629336433674813117 : Nat := 0
noncomputable def hdx.tw13536076783097482858 : Nat := 0
noncomputable def hdx.tw398990832647445966 : Nat := 0
noncomputable def hdx.tw14570875228864844752 : Nat := 0
noncomputable def hdx.tw940491495621676967 : Nat := 0
noncomputable def hdx.tw7318471463460347990 : Nat := 0
noncomputable def hdx.tw3547315504432945145 : Nat := 0
noncomputable def hdx.tw18400836527100259688 : Nat := 0
noncomputable def hdx.tw16403614330401555828 : Nat := 0
noncomputable def hdx.tw13853881831057575859 : Nat := 0
noncomputable def hdx.tw17499841780572447534 : Nat := 0
noncomputable def hdx.tw682936352443621598 : Nat := 0
noncomputable def hdx.tw14606245878660997911 : Nat := 0
set_option Elab.async true in
theorem hdx : PySem.Challenge.rw_no0260_01.Holds := by
  w_on
  o_law
  o_head (kHook Mine.kk.heap_1 kAs kE)
  (case hw => w_witness2)
  exact (LB.2.2.2.2 law_go)
end
end Mine
theorem PySem.Challenge.cw_no0260_01_holds : PySem.Challenge.rw_no0260_01.Holds :=
  Mine.hdx
