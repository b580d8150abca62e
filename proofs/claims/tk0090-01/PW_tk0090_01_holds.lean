import PyProof.Rows.All
import Wide.All
import OpenK.AllK
import Wide.FinOn
import PyProof.ExcClass
import PyProof.InstSpecial
import PyProof.InstStore
import PyProof.InstStoreFacts
import PyProof.InstLoad
import PyProof.ExcArgsOwn
import PyProof.WalksMore
import PyProof.Rows.LoopInvT
import KE.KLcPair
import KE.KPairTest
import KE.KTryDeep
import Lean
import PySem.Challenge.RW_tk0090_01
open PySem PySem.W PySem.Calls PyProof.Rows
set_option Elab.async false
set_option maxRecDepth 100000
set_option maxHeartbeats 8000000
set_option linter.all false
set_option compiler.extract_closed false
namespace Mine

/-! the head, in few checks and without twins of the row's own terms (so the compiled file stays small) -/
noncomputable abbrev pw : Program := PySem.Challenge.pw_tk0090_01
noncomputable def vw : Program := { pw with main := { pw.main with body := ((pw.main.body.eraseIdx 17).eraseIdx 4).eraseIdx 0 } }
noncomputable def lo : List Str := [Str.ofString "MOST_STREAMS", Str.ofString "FRAME_TYPES"]
noncomputable def lv : List (Str × WData) := [(Str.ofString "MOST_STREAMS", WData.int 1152921504606846976)]
noncomputable def xt (s : Shared) : Bool := xlAt vw lv s && recOk (RowW.records (OpenLaw.row PySem.Challenge.rw_tk0090_01).toRowW) s
/-- what the text's top leaves: `left_of` goes from one run of the top to it -/
theorem left_of {p q : Program} {loose : List Str} {Xt : Shared → Bool} {α : Type} {Yf : Shared → α} {Ya : World → α} {N m₀ : Nat} {ann : Option Value}
    (e : opening p = plainProg p.main.scope.names) (hN : Nat.ble 600 N = true) (f : ∀ s, fenceModules? p s = some s)
    (size : ∀ w : World, ((boot_heap w.params).isNs mainGlobals && (Array.mk [] : Array GenState).size == 0, (boot_heap w.params).objs.size, (boot_heap w.params).nsMap mainGlobals "__annotations__") = (true, m₀, ann))
    (h : ∀ w : World, (fun os => (topRun treeTable p w m₀ ann N ⟨boot_heap w.params, Array.mk [], boot_drawn, boot_toks, os⟩ (topStub p)).map fun s => (staticsOk (importedModules p.main.body) (boot_heap w.params) s.heap && namesBound p s.heap && gensDone s && laidKept (boot_heap w.params) s.heap,
      openSeen q loose (importedModules p.main.body) Xt true s, Yf s)) = fun _ => some (true, openGood q loose, Ya w)) : LeftO p q loose Xt Yf Ya N true := fun w => by
  obtain ⟨⟨h0, gs, d, k, os⟩, e1, e'⟩ := Option.map_eq_some_iff.mp (boot_open e hN f w)
  obtain ⟨rfl, rfl, rfl, rfl⟩ : h0 = boot_heap w.params ∧ gs = Array.mk [] ∧ d = boot_drawn ∧ k = boot_toks := by simpa using e'
  obtain ⟨z1, z2, z3⟩ : _ ∧ _ ∧ _ := by simpa only [Prod.mk.injEq] using size w
  obtain ⟨s1, r, l⟩ := Option.map_eq_some_iff.mp (congrFun (h w) os)
  obtain ⟨l1, l2, l3⟩ : _ ∧ _ ∧ _ := by simpa only [Prod.mk.injEq] using l
  have t : topFrom treeTable p w N ⟨boot_heap w.params, Array.mk [], boot_drawn, boot_toks, os⟩ = some s1 := by
    unfold topFrom
    dsimp only
    rw [z1, z2, z3, r]
    show (match staticsOk (importedModules p.main.body) (boot_heap w.params) s1.heap && namesBound p s1.heap && gensDone s1 && laidKept (boot_heap w.params) s1.heap with | true => _ | false => _) = _
    rw [l1]
  unfold openEnds
  rw [e1]
  show (topFrom treeTable p w N _).map _ = _
  rw [t]
  exact congrArg some (Prod.ext l2 l3)
theorem hd_1 : opening pw = plainProg pw.main.scope.names := by kernel_rfl
theorem hd_2 : ∀ s, fenceModules? pw s = some s := by intro s; kernel_rfl
theorem hd_3 : ∀ w : World, ((boot_heap w.params).isNs mainGlobals && (Array.mk [] : Array GenState).size == 0, (boot_heap w.params).objs.size, (boot_heap w.params).nsMap mainGlobals "__annotations__") = (true, 11, some (.ref 6)) := by intro w; kernel_rfl
theorem hd_4 : OpenLaw.wellSaid PySem.Challenge.rw_tk0090_01 = true := by
  rw [PySem.W.Fast.te9446332074065402090]
  kernel_rfl
theorem hd_5 : (chainsOk vw && opensWell (OpenLaw.row PySem.Challenge.rw_tk0090_01).prog && (frees (OpenLaw.row PySem.Challenge.rw_tk0090_01).toRowW && (OpenLaw.row PySem.Challenge.rw_tk0090_01).within.isEmpty)) = true := by decide +kernel
/-- the head but for the top's run: of any written part H -/
theorem hd_of (H : Hook) {d : DefRec} {kwd : List (Str × PySem.Expr)} (hdef : defOf vw (OpenLaw.row PySem.Challenge.rw_tk0090_01).name = some (d, kwd))
    (hp : (OpenLaw.row PySem.Challenge.rw_tk0090_01).prog.theDef (OpenLaw.row PySem.Challenge.rw_tk0090_01).name = some (d.params, d.body, d.scope)) (hk : kwWritten? d.params.kwonlyargs d.params.kw_defaults = some kwd)
    (hw : (OpenLaw.row PySem.Challenge.rw_tk0090_01).toRowW.promised)
    (hc : LeftO pw vw lo xt H.obs H.val 2852 ∧ WalkO vw lo (XL vw lv) H.says (OpenLaw.row PySem.Challenge.rw_tk0090_01).toRowW d kwd fun f vs => PySem.call f vs) :
    (OpenLaw.row PySem.Challenge.rw_tk0090_01).Holds :=
  holds_open (q := vw) (loose := lo) (Xt := xt) (XP := XL vw lv) (Yf := H.obs) (Ya := H.val) (YP := H.says) (N := 2852) hc.1 H.of H.keeps
    (fun s e => xl_of s (Bool.and_eq_true_iff.mp e).1) XL.keeps hdef hp hk (fun s e => recFacts_of (Bool.and_eq_true_iff.mp e).2) rfl (row_said hd_4) hd_5 ⟨rfl, rfl, rfl, rfl, rfl, by decide +kernel⟩ hw hc.2
local macro_rules | `(tactic| o_law) => `(tactic| refine holds_law hd_4 fun said => ?_)
local macro_rules | `(tactic| o_head $H) => `(tactic| refine hd_of $H (by rfl) (by rfl) (by rfl) ?hw ?hc)
open_top hd0 for PySem.Challenge.rw_tk0090_01
noncomputable abbrev row1 : String := "special-get-raises"
noncomputable abbrev runOf (b : Bool) (w : World) : Prop := (fun os => (topRun treeTable pw (w.withFollow row1 b) 11 (some (.ref 6)) 2852 ⟨boot_heap w.params, Array.mk [], boot_drawn, boot_toks, os⟩ (topStub pw)).map fun s => (staticsOk (importedModules pw.main.body) (boot_heap w.params) s.heap && namesBound pw s.heap && gensDone s && laidKept (boot_heap w.params) s.heap,
    openSeen vw lo (importedModules pw.main.body) xt true s, ((Mine.hd0.heap_1 w.params).map (·.1)).map s.heap.get?)) = fun _ => some (true, openGood vw lo, (Mine.hd0.heap_1 w.params).map fun p => some p.2)
theorem run_f : ∀ w : World, runOf false w := by
  intro w
  unfold runOf
  rw [PySem.W.Fast.te14082659384304107361, PySem.W.Fast.te14364793385576792824, PySem.W.Fast.te4187177175401517315, PySem.W.Fast.te5923862056798008813]
  kernel_rfl
theorem run_t : ∀ w : World, runOf true w := by
  intro w
  unfold runOf
  rw [PySem.W.Fast.te14082659384304107361, PySem.W.Fast.te14364793385576792824, PySem.W.Fast.te4187177175401517315, PySem.W.Fast.te5923862056798008813]
  kernel_rfl
theorem left {as : List Addr} (e : ∀ P, as = (Mine.hd0.heap_1 P).map (·.1)) : LeftO pw vw lo xt (kHook Mine.hd0.heap_1 as e).obs (kHook Mine.hd0.heap_1 as e).val 2852 :=
  left_of hd_1 (by decide) hd_2 hd_3 (byRow2 row1 (fun w => by have h := run_f w; unfold runOf at h; rw [← e w.params] at h; exact h) (fun w => by have h := run_t w; unfold runOf at h; rw [← e w.params] at h; exact h))
/-! part B1 -/
section
open PySem PySem.W PySem.Calls PyProof.Rows
/-! the law's objects: which they are, and the ledger that holds them -/
inductive RK where
  | first | known | opened | heard | told | lost | over
inductive FK where
  | ownL | peerL | ownM | peerM | toldL | owes
inductive Slot where
  | ends | inst (e : Bool) | dct (e : Bool) | fld (e : Bool) (f : FK)
  | net | outer (k : RK) | row (k : RK) (e : Bool) | over (e s : Bool) | wire | box | scr

noncomputable abbrev Led := List (Addr × Obj)

noncomputable def slots : List Slot := [.ends, .inst false, .inst true, .dct false, .dct true,
  .fld false .ownL, .fld false .peerL, .fld false .ownM, .fld false .peerM, .fld false .toldL, .fld false .owes,
  .fld true .ownL, .fld true .peerL, .fld true .ownM, .fld true .peerM, .fld true .toldL, .fld true .owes,
  .net, .outer .first, .outer .known, .outer .opened, .outer .heard, .outer .told, .outer .lost, .outer .over,
  .row .first false, .row .known false, .row .opened false, .row .heard false, .row .told false, .row .lost false, .row .over false,
  .row .first true, .row .known true, .row .opened true, .row .heard true, .row .told true, .row .lost true, .row .over true,
  .over false false, .over false true, .over true false, .over true true, .wire, .box, .scr]

noncomputable def Lg (lay : Slot → Addr) (O : Slot → Obj) : Led := slots.map fun sl => (lay sl, O sl)

noncomputable def pos : Slot → Nat
  | .ends => 0 | .inst false => 1 | .inst true => 2 | .dct false => 3 | .dct true => 4
  | .fld false .ownL => 5 | .fld false .peerL => 6 | .fld false .ownM => 7 | .fld false .peerM => 8 | .fld false .toldL => 9 | .fld false .owes => 10
  | .fld true .ownL => 11 | .fld true .peerL => 12 | .fld true .ownM => 13 | .fld true .peerM => 14 | .fld true .toldL => 15 | .fld true .owes => 16
  | .net => 17 | .outer .first => 18 | .outer .known => 19 | .outer .opened => 20 | .outer .heard => 21 | .outer .told => 22 | .outer .lost => 23 | .outer .over => 24
  | .row .first false => 25 | .row .known false => 26 | .row .opened false => 27 | .row .heard false => 28 | .row .told false => 29 | .row .lost false => 30 | .row .over false => 31
  | .row .first true => 32 | .row .known true => 33 | .row .opened true => 34 | .row .heard true => 35 | .row .told true => 36 | .row .lost true => 37 | .row .over true => 38
  | .over false false => 39 | .over false true => 40 | .over true false => 41 | .over true true => 42 | .wire => 43 | .box => 44 | .scr => 45
theorem slot_at : ∀ sl : Slot, slots[pos sl]? = some sl := by
  intro sl
  rcases sl with _ | e | e | ⟨e, f⟩ | _ | k | ⟨k, e⟩ | ⟨e, s⟩ | _ | _ | _
  · rfl
  · cases e <;> rfl
  · cases e <;> rfl
  · cases e <;> cases f <;> rfl
  · rfl
  · cases k <;> rfl
  · cases e <;> cases k <;> rfl
  · cases e <;> cases s <;> rfl
  · rfl
  · rfl
  · rfl
theorem slot_mem : ∀ sl : Slot, sl ∈ slots := fun sl => List.mem_of_getElem? (slot_at sl)

theorem slot_nodup : slots.Nodup :=
  List.Pairwise.of_map pos (fun _ _ h e => h (congrArg pos e)) (show (slots.map pos).Pairwise (· ≠ ·) from (show slots.map pos = List.range 46 from rfl) ▸ List.nodup_range)

open Classical in
noncomputable def put (O : Slot → Obj) (sl : Slot) (o : Obj) : Slot → Obj := fun x => if x = sl then o else O x
theorem put_self {O : Slot → Obj} {sl : Slot} {o : Obj} : put O sl o sl = o := by unfold put; rw [if_pos rfl]
theorem put_ne {O : Slot → Obj} {sl x : Slot} {o : Obj} (h : x ≠ sl) : put O sl o x = O x := by unfold put; rw [if_neg h]

theorem ne_ix {a b : Slot} (h : Nat.beq a.ctorIdx b.ctorIdx = false) : a ≠ b := fun e => by subst e; rw [Nat.beq_refl] at h; cases h
theorem ne_rk {k k' : RK} {x e : Bool} (h : Nat.beq k.ctorIdx k'.ctorIdx = false) : Slot.row k x ≠ Slot.row k' e := fun q => by cases q; rw [Nat.beq_refl] at h; cases h
theorem ne_ok {k k' : RK} (h : Nat.beq k.ctorIdx k'.ctorIdx = false) : Slot.outer k ≠ Slot.outer k' := fun q => by cases q; rw [Nat.beq_refl] at h; cases h
theorem ne_fk {f f' : FK} {x e : Bool} (h : Nat.beq f.ctorIdx f'.ctorIdx = false) : Slot.fld x f ≠ Slot.fld e f' := fun q => by cases q; rw [Nat.beq_refl] at h; cases h
structure Lay (lay : Slot → Addr) (W : Led) : Prop where
  inj : ∀ a b, lay a = lay b → a = b
  off : ∀ p ∈ W, ∀ sl, p.1 ≠ lay sl

theorem Lay.nil {lay : Slot → Addr} {W : Led} (h : Lay lay W) : Lay lay [] := ⟨h.inj, fun _ hp => nomatch hp⟩
theorem Lay.cons {lay : Slot → Addr} {W : Led} {p : Addr × Obj} (h : Lay lay W) (hp : ∀ sl, p.1 ≠ lay sl) : Lay lay (p :: W) :=
  ⟨h.inj, fun q hq => by rcases List.mem_cons.mp hq with rfl | hq; exact hp; exact h.off q hq⟩

theorem mem_O {lay : Slot → Addr} {O : Slot → Obj} {W : Led} {sl : Slot} {o : Obj} (h : O sl = o) : (lay sl, o) ∈ W ++ Lg lay O := by
  subst h
  exact List.mem_append_right _ (List.mem_map.mpr ⟨sl, slot_mem sl, rfl⟩)
theorem mem_W {lay : Slot → Addr} {O : Slot → Obj} {W : Led} {p : Addr × Obj} (h : p ∈ W) : p ∈ W ++ Lg lay O := List.mem_append_left _ h

theorem Upd.append {d : Addr} {o o' : Obj} {l l' : Led} : ∀ {W : Led}, (∀ p ∈ W, p.1 ≠ d) → Upd d o o' l l' → Upd d o o' (W ++ l) (W ++ l')
  | [], _, h => h
  | p :: W, hW, h => .tail (hW p (.head _)) (Upd.append (fun q hq => hW q (.tail _ hq)) h)

theorem upd_map {lay : Slot → Addr} {O : Slot → Obj} {sl : Slot} {o' : Obj} (hi : ∀ a b, lay a = lay b → a = b) : ∀ l : List Slot, l.Nodup → sl ∈ l →
    Upd (lay sl) (O sl) o' (l.map fun x => (lay x, O x)) (l.map fun x => (lay x, put O sl o' x))
  | [], _, h => nomatch h
  | x :: r, hn, h => by
    have ⟨h1, h2⟩ := List.nodup_cons.mp hn
    by_cases e : x = sl
    · subst e
      have q : (r.map fun y => (lay y, put O x o' y)) = r.map fun y => (lay y, O y) :=
        List.map_congr_left fun y hy => by rw [put_ne]; rintro rfl; exact h1 hy
      rw [List.map_cons, List.map_cons, q, put_self]
      refine .head fun p hp => ?_
      obtain ⟨y, hy, rfl⟩ := List.mem_map.mp hp
      intro z
      exact h1 (hi _ _ z ▸ hy)
    · rw [List.map_cons, List.map_cons, put_ne e]
      refine .tail (fun z => e (hi _ _ z)) (upd_map hi r h2 ?_)
      rcases List.mem_cons.mp h with rfl | h
      · exact absurd rfl e
      · exact h
theorem upd_O {lay : Slot → Addr} {O : Slot → Obj} {W : Led} {sl : Slot} {o o' : Obj} (hl : Lay lay W) (h : O sl = o) :
    Upd (lay sl) o o' (W ++ Lg lay O) (W ++ Lg lay (put O sl o')) := by
  subst h
  exact Upd.append (fun p hp => hl.off p hp sl) (upd_map hl.inj _ slot_nodup (slot_mem sl))
end

/-! part B2 -/
section
open PySem PySem.W PySem.Calls PyProof.Rows
noncomputable abbrev PR : Program := PySem.Challenge.rw_tk0090_01.row.prog

noncomputable def b2i (b : Bool) : Int := if b = true then 1 else 0
theorem b2i_not (e : Bool) : 1 - b2i e = b2i (!e) := by cases e <;> rfl
theorem b2i_01 (e : Bool) : 0 ≤ b2i e ∧ b2i e ≤ 1 := by cases e <;> decide
theorem b2i_one (s : Bool) : (b2i s == 1) = s := by cases s <;> rfl
noncomputable def roleS : Bool → Str
  | false => Str.ofString "client"
  | true => Str.ofString "server"
noncomputable def sidOf (n : Int) (e s : Bool) : Int := 4 * n + b2i e + 2 * b2i s

noncomputable def pairL (f : Bool → Value) (n : Nat) : Obj := listOf #[f false, f true] n
noncomputable def pairT (f : Bool → Value) : Obj := { cls := .type "tuple", data := .seq #[f false, f true] 0 }
noncomputable abbrev rowI (g : Bool → Int) (tk : Bool → Tok) (n : Nat) : Obj := pairL (fun s => .int (g s) (tk s)) n
noncomputable def setB {α : Type} (g : Bool → α) (s : Bool) (v : α) : Bool → α := fun x => if x = s then v else g x
theorem setB_self {α : Type} {g : Bool → α} {s : Bool} {v : α} : setB g s v s = v := by unfold setB; rw [if_pos rfl]

/-- a called def's contract: from a ledger of this make it comes back with one of that make -/
noncomputable def Fn (w : World) (f : Addr) (d : Nat) (vs : List Value) (lay : Slot → Addr) (W : Led) (O : Slot → Obj) (P : Value → Led → (Slot → Obj) → Prop) : Prop :=
  ∀ (p : Program) (loose : List Str) (mean : ExcName → Option Value) (mg mb : Str → Option Value) (dp un : Nat) (gd : Option (List Code)) (cn : Str) (cs : Scope) (a : Addr) (ccd : Value) (cl : List (Str × Addr)) (outer : List Env) (A₀ : Around) (base h₀ : Heap) (L : Addr) (m : Str → Option Value) (s : Shared)
    (Q E : Value → Shared → Prop),
    Below A₀ base outer h₀ → Fr h₀ L s.heap m → (Mine.hd0.heap_1 w.params).In h₀ → News h₀ L s.heap (W ++ Lg lay O) → Top p loose mean mg mb h₀ → cs.kind = .function → dp + d < recursionLimit → un + 8 * d < cLine →
    (∀ r W' O' h' tk', Fr h₀ L h' m → News h₀ L h' (W' ++ Lg lay O') → Lay lay W' → (∀ p ∈ W, p ∈ W') → P r W' O' → Q r { s with heap := h', toks := tk' }) →
    wpAny (model PR w) (ktrTop dp un gd cn cs L a ccd cl outer) (call (.ref f) vs) Q E s

theorem Fn.use {w : World} {f : Addr} {d : Nat} {vs : List Value} {lay : Slot → Addr} {W : Led} {O : Slot → Obj} {P : Value → Led → (Slot → Obj) → Prop}
    {p : Program} {loose : List Str} {mean : ExcName → Option Value} {mg mb : Str → Option Value} {dp un : Nat} {gd : Option (List Code)} {cn : Str} {cs : Scope} {a : Addr} {ccd : Value} {cl : List (Str × Addr)} {outer : List Env} {A₀ : Around} {base h₀ : Heap} {L : Addr} {m : Str → Option Value} {s : Shared}
    {Q E : Value → Shared → Prop}
    (B : Below A₀ base outer h₀) (F : Fr h₀ L s.heap m) (X : (Mine.hd0.heap_1 w.params).In h₀) (N : News h₀ L s.heap (W ++ Lg lay O)) (T : Top p loose mean mg mb h₀) (hk : cs.kind = .function) (C : Fn w f d vs lay W O P) (hd : dp + d < recursionLimit) (hu : un + 8 * d < cLine)
    (ret : ∀ r W' O' h' tk', Fr h₀ L h' m → News h₀ L h' (W' ++ Lg lay O') → Lay lay W' → (∀ p ∈ W, p ∈ W') → P r W' O' → Q r { s with heap := h', toks := tk' }) :
    wpAny (model PR w) (ktrTop dp un gd cn cs L a ccd cl outer) (call (.ref f) vs) Q E s := C p loose mean mg mb dp un gd cn cs a ccd cl outer A₀ base h₀ L m s Q E B F X N T hk hd hu ret

theorem news_cons {h₀ h : Heap} {L : Addr} {q : Addr × Obj} {W l : Led} (N : News h₀ L h (q :: (W ++ l))) : News h₀ L h ((q :: W) ++ l) := N


section
variable {M : Model} {A : Around} {α : Type} {c : Sem α} {Q : α → Shared → Prop} {E : Value → Shared → Prop} {s : Shared} {hp : Heap} {gn : Array GenState} {dr : Drawn} {tk : Nat} {os : OsState} {P : Prop} {h₀ h : Heap} {L : Addr} {m : Str → Option Value}
/-- the count of the tokens made a variable -/
theorem genT (H : ∀ tk, wpAny M A c Q E ⟨hp, gn, dr, tk, os⟩) : wpAny M A c Q E ⟨hp, gn, dr, tk, os⟩ := H tk
/-- the post made a let -/
theorem letQ (H : let q := Q; wpAny M A c q E s) : wpAny M A c Q E s := H
/-- the locals made a let -/
theorem letm (F : Fr h₀ L h m) (k : let m1 := m; Fr h₀ L h m1 → P) : P := k F
end
/-! room for a further call -/
theorem room {a k d D R : Nat} (h : a + D < R) (hk : Nat.ble (k + d) D = true) : a + k + d < R := by
  have := Nat.le_of_ble_eq_true hk
  omega
section
variable {dp un D k d : Nat} {gd : Option (List Code)} {cn : Str} {cs : Scope} {L a : Addr} {ccd : Value} {cl : List (Str × Addr)} {outer : List Env}
theorem roomK (h : dp + D < recursionLimit) (hk : Nat.ble (k + d) D = true) : (ktrTop dp un gd cn cs L a ccd cl outer).depth + k + d < recursionLimit := room (a := dp) h hk
theorem roomK0 (h : dp + D < recursionLimit) : (ktrTop dp un gd cn cs L a ccd cl outer).depth < recursionLimit := Nat.lt_of_le_of_lt (Nat.le_add_right dp D) h
theorem unitK (h : un + 8 * D < cLine) (hk : Nat.ble (k + 8 * d) (8 * D) = true) : (ktrTop dp un gd cn cs L a ccd cl outer).units + k + 8 * d < cLine := room (a := un) h hk
end
theorem fill0 : (∀ w : World, Mine.hd0.heap_1 w.params = Mine.hd0.heap_1 w.params) ∧ PySem.Challenge.rw_tk0090_01 = PySem.Challenge.rw_tk0090_01 := by
  w_top off
  k_fill
  exact ⟨fun _ => rfl, rfl⟩
end

/-! part B4 -/
section

section
variable {w : World} {A : Around} {E : Value → Shared → Prop} {s : Shared} {h₀ : Heap} {L a : Addr} {m : Str → Option Value} {news : Led} {value slice : PySem.Expr} {f : Bool → Value} {n : Nat} {k : Int} {u : Tok} {Q : Value → Shared → Prop} {lay : Slot → Addr} {W : Led} {O : Slot → Obj}
theorem get_pairL (N : News h₀ L s.heap news) (hm : (a, pairL f n) ∈ news) (b : Bool) (hk : k = b2i b) (h : Q (f b) s) : wpAny (model PR w) A (getItem (.ref a) (.int k u)) Q E s := by
  subst hk
  have hl : s.heap.IsList a #[f false, f true] := PySem.IsL.isList (n := n) (N _ hm).1
  exact wpAny_getItem_list hl (b2i_01 b).1 (by have := b2i_01 b; omega) (by cases b <;> rfl) h
theorem sub_pairL (N : News h₀ L s.heap news) (hm : (a, pairL f n) ∈ news) (b : Bool) (hk : k = b2i b) (h : Q (f b) s)
    (hs : subscripted slice false (.ref a) (.int k u) = operate [.ref a, .int k u] (getItem (.ref a) (.int k u)) := by with_unfolding_all rfl) :
    wpAny (model PR w) A (subscriptTail value slice (.ref a) (.int k u)) Q E s := by
  have hl : s.heap.IsList a #[f false, f true] := PySem.IsL.isList (n := n) (N _ hm).1
  exact tail_any hl.typeIs slot_list_getitem.lookup (get_pairL N hm b hk h) hs
theorem sub_pairT (N : News h₀ L s.heap news) (hm : (a, pairT f) ∈ news) (b : Bool) (hk : k = b2i b) (h : Q (f b) s)
    (hs : subscripted slice false (.ref a) (.int k u) = operate [.ref a, .int k u] (getItem (.ref a) (.int k u)) := by with_unfolding_all rfl) (hg : ∀ r, letTemporaryGo value (.ref a) r = pure () := by intro _; with_unfolding_all rfl) :
    wpAny (model PR w) A (subscriptTail value slice (.ref a) (.int k u)) Q E s := by
  subst hk
  have hl : IsTup s.heap a ([f false, f true] : List Value).toArray := News.isTup N hm
  exact item_tupleL hl (by cases b <;> decide) (by cases b <;> decide) (j := if b = true then 1 else 0) (by cases b <;> rfl) (by cases b <;> rfl) h hs hg
theorem set_pairL {v : Value} {sl : Slot} {Q : Unit → Shared → Prop} (F : Fr h₀ L s.heap m) (N : News h₀ L s.heap (W ++ Lg lay O)) (hl : Lay lay W) (b : Bool) (hO : O sl = pairL f n) (hk : k = b2i b)
    (h : ∀ h', Fr h₀ L h' m → News h₀ L h' (W ++ Lg lay (put O sl (pairL (setB f b v) n))) → Q () { s with heap := h' }) :
    wpAny (model PR w) A (setItem (.ref (lay sl)) (.int k u) v) Q E s := by
  subst hk
  have U := upd_O (o' := pairL (setB f b v) n) hl hO
  obtain ⟨pre, post, e1, e2, ha, hb⟩ := U.split
  have z := N (lay sl, pairL f n) (e1 ▸ List.mem_append.mpr (.inr (.head _)))
  refine ki_setAt (items := #[f false, f true]) (n := n) z.1 (b2i_01 b).1 (by have := b2i_01 b; omega) (by cases b <;> simp [b2i]) (h _ (F.change (Heap.SameBut.update ..) z.2.1 z.2.2) ?_)
  rw [e2]
  refine news_set (o := pairL f n) (e1 ▸ N) ha hb (Heap.SameBut.update ..) ?_
  rw [Heap.get?_update_self _ z.1 (by cases b <;> rfl)]
  cases b <;> rfl
theorem set_rowI {v : Int} {t : Tok} {g : Bool → Int} {tk : Bool → Tok} {sl : Slot} {Q : Unit → Shared → Prop} (F : Fr h₀ L s.heap m) (N : News h₀ L s.heap (W ++ Lg lay O)) (hl : Lay lay W) (b : Bool) (hO : O sl = rowI g tk n) (hk : k = b2i b)
    (h : ∀ h', Fr h₀ L h' m → News h₀ L h' (W ++ Lg lay (put O sl (rowI (setB g b v) (setB tk b t) n))) → Q () { s with heap := h' }) :
    wpAny (model PR w) A (setItem (.ref (lay sl)) (.int k u) (.int v t)) Q E s := by
  refine set_pairL F N hl b hO hk fun h' F' N' => h h' F' ?_
  have e : pairL (setB (fun s => Value.int (g s) (tk s)) b (.int v t)) n = rowI (setB g b v) (setB tk b t) n := by cases b <;> rfl
  rw [← e]; exact N'
theorem set_rowB {v : Bool} {g : Bool → Bool} {sl : Slot} {Q : Unit → Shared → Prop} (F : Fr h₀ L s.heap m) (N : News h₀ L s.heap (W ++ Lg lay O)) (hl : Lay lay W) (b : Bool) (hO : O sl = pairL (fun s => .bool (g s)) n) (hk : k = b2i b)
    (h : ∀ h', Fr h₀ L h' m → News h₀ L h' (W ++ Lg lay (put O sl (pairL (fun s => .bool (setB g b v s)) n))) → Q () { s with heap := h' }) :
    wpAny (model PR w) A (setItem (.ref (lay sl)) (.int k u) (.bool v)) Q E s := by
  refine set_pairL F N hl b hO hk fun h' F' N' => h h' F' ?_
  have e : pairL (setB (fun s => Value.bool (g s)) b (.bool v)) n = pairL (fun s => .bool (setB g b v s)) n := by cases b <;> rfl
  rw [← e]; exact N'
end

section
variable {w : World} {A : Around} {E : Value → Shared → Prop} {s : Shared} {h₀ : Heap} {L a : Addr} {m : Str → Option Value} {news : Led} {value slice : PySem.Expr} {x y : Value} {n : Nat} {k : Int} {u : Tok} {Q : Value → Shared → Prop} {lay : Slot → Addr} {W : Led} {O : Slot → Obj}
theorem sub_two0 (N : News h₀ L s.heap news) (hm : (a, listOf #[x, y] n) ∈ news) (h : Q x s)
    (hs : subscripted slice false (.ref a) (.int 0 u) = operate [.ref a, .int 0 u] (getItem (.ref a) (.int 0 u)) := by with_unfolding_all rfl) :
    wpAny (model PR w) A (subscriptTail value slice (.ref a) (.int 0 u)) Q E s := by
  have hl : s.heap.IsList a #[x, y] := PySem.IsL.isList (n := n) (N _ hm).1
  exact tail_any hl.typeIs slot_list_getitem.lookup (wpAny_getItem_list hl (by decide) (by decide) rfl h) hs
theorem sub_two1 (N : News h₀ L s.heap news) (hm : (a, listOf #[x, y] n) ∈ news) (h : Q y s)
    (hs : subscripted slice false (.ref a) (.int 1 u) = operate [.ref a, .int 1 u] (getItem (.ref a) (.int 1 u)) := by with_unfolding_all rfl) :
    wpAny (model PR w) A (subscriptTail value slice (.ref a) (.int 1 u)) Q E s := by
  have hl : s.heap.IsList a #[x, y] := PySem.IsL.isList (n := n) (N _ hm).1
  exact tail_any hl.typeIs slot_list_getitem.lookup (wpAny_getItem_list hl (by decide) (by decide) rfl h) hs
theorem set_two1 {v : Value} {sl : Slot} {Q : Unit → Shared → Prop} (F : Fr h₀ L s.heap m) (N : News h₀ L s.heap (W ++ Lg lay O)) (hl : Lay lay W) (hO : O sl = listOf #[x, y] n)
    (h : ∀ h', Fr h₀ L h' m → News h₀ L h' (W ++ Lg lay (put O sl (listOf #[x, v] n))) → Q () { s with heap := h' }) :
    wpAny (model PR w) A (setItem (.ref (lay sl)) (.int 1 u) v) Q E s := by
  have U := upd_O (o' := listOf #[x, v] n) hl hO
  obtain ⟨pre, post, e1, e2, ha, hb⟩ := U.split
  have z := N (lay sl, listOf #[x, y] n) (e1 ▸ List.mem_append.mpr (.inr (.head _)))
  refine ki_setAt (items := #[x, y]) (n := n) z.1 (by decide) (by decide) (by simp) (h _ (F.change (Heap.SameBut.update ..) z.2.1 z.2.2) ?_)
  rw [e2]
  refine news_set (o := listOf #[x, y] n) (e1 ▸ N) ha hb (Heap.SameBut.update ..) ?_
  rw [Heap.get?_update_self _ z.1 (by rfl)]
  rfl
theorem sub_ints {vs : List Value} {ns : List Int} (N : News h₀ L s.heap news) (hm : (a, listOf vs.toArray n) ∈ news) (hi : IntsAre vs ns) (h0 : 0 ≤ k) (h1 : k < ns.length) (hfit : k < 2 ^ 63) (h : ∀ t, Q (.int (ns.getD k.toNat 0) t) s)
    (hs : subscripted slice false (.ref a) (.int k u) = operate [.ref a, .int k u] (getItem (.ref a) (.int k u)) := by with_unfolding_all rfl) :
    wpAny (model PR w) A (subscriptTail value slice (.ref a) (.int k u)) Q E s := ksa_sub N hm hi h0 h1 hfit h hs
theorem len_vals {vs : List Value} (N : News h₀ L s.heap news) (hm : (a, listOf vs.toArray n) ∈ news) (hfit : vs.length ≤ 1000000) (h : Q (.int (vs.length : Nat) (s.toks + 1)) { s with toks := s.toks + 1 + 1 }) :
    wpAny (model PR w) A (call (.builtin "len") [.ref a]) Q E s := by
  have hl : s.heap.IsList a vs.toArray := PySem.IsL.isList (n := n) (N _ hm).1
  have e : vs.toArray.size = vs.length := by simp
  refine Calls.call_len_list hl (by rw [e]; omega) ?_
  rw [e]
  exact h
end

theorem lay_cells2 {lay : Slot → Addr} {W : Led} {L c1 c2 : Addr} {o1 o2 : Obj} (hl : Lay lay W) (hS : ∀ sl, lay sl < L) (h1 : L < c1) (h2 : L < c2) : Lay lay ((c1, o1) :: (c2, o2) :: W) :=
  (hl.cons fun sl q => Nat.ne_of_gt (Nat.lt_trans (hS sl) h2) q).cons fun sl q => Nat.ne_of_gt (Nat.lt_trans (hS sl) h1) q
theorem lay_cells3 {lay : Slot → Addr} {W : Led} {L c1 c2 c3 : Addr} {o1 o2 o3 : Obj} (hl : Lay lay W) (hS : ∀ sl, lay sl < L) (h1 : L < c1) (h2 : L < c2) (h3 : L < c3) : Lay lay ((c1, o1) :: (c2, o2) :: (c3, o3) :: W) :=
  (lay_cells2 hl hS h2 h3).cons fun sl q => Nat.ne_of_gt (Nat.lt_trans (hS sl) h1) q
theorem lt1 (L : Addr) : L < L + 1 := Nat.lt_succ_self _
theorem lt2 (L : Addr) : L < L + 1 + 1 := Nat.lt_trans (lt1 L) (lt1 _)
theorem lt3 (L : Addr) : L < L + 1 + 1 + 1 := Nat.lt_trans (lt2 L) (lt1 _)
theorem ne21 (L : Addr) : L + 1 + 1 ≠ L + 1 := Nat.ne_of_gt (lt1 _)
theorem lay_lt {lay : Slot → Addr} {W : Led} {O : Slot → Obj} {L : Addr} (h : ∀ p ∈ W ++ Lg lay O, p.1 < L) : (∀ p ∈ W, p.1 < L) ∧ ∀ sl, lay sl < L :=
  ⟨fun p hp => h p (mem_W hp), fun sl => h (lay sl, O sl) (mem_O rfl)⟩
section
variable {w : World} {A : Around} {E : Value → Shared → Prop} {s : Shared} {h₀ : Heap} {L a c1 c2 : Addr} {o1 o2 : Obj} {m : Str → Option Value} {cn : Str} {cs : Scope} {ccd : Value} {cl : List (Str × Addr)} {x : Str} {v : Value} {v₀ : Option Value} {Q : Unit → Shared → Prop} {lay : Slot → Addr} {W : Led} {O : Slot → Obj}
theorem st_c1 (F : Fr h₀ L s.heap m) (N : News h₀ L s.heap (((c1, o1) :: (c2, o2) :: W) ++ Lg lay O)) (hl : Lay lay ((c1, o1) :: (c2, o2) :: W)) (hW : ∀ p ∈ W, p.1 < L) (hS : ∀ sl, lay sl < L) (h12 : c1 ≠ c2) (h1 : L < c1) (hc : cl.lookup x = some c1) (hd : o1.data = .cell v₀)
    (h : ∀ h' o', Fr h₀ L h' m → News h₀ L h' (((c1, o') :: (c2, o2) :: W) ++ Lg lay O) → Lay lay ((c1, o') :: (c2, o2) :: W) → o'.data = .cell (some v) → Q () { s with heap := h' })
    (hk : cs.kind = .function := by rfl) (hx : (envX cn cs L a ccd cl).kindOf x = some .cell := by rfl) : wpAny (model PR w) A (storeName (envX cn cs L a ccd cl) x v) Q E s := by
  refine storeX_C (g := fun o' => ((c1, o') :: (c2, o2) :: W) ++ Lg lay O) F N hc ?_ hd (fun h' o' F' N' d' => h h' o' F' N' ?_ d') hk hx
  · refine UpdF.head fun p hp => ?_
    rcases List.mem_cons.mp hp with rfl | hp
    · exact h12.symm
    · rcases List.mem_append.mp hp with hp | hp
      · exact Nat.ne_of_lt (Nat.lt_trans (hW p hp) h1)
      · obtain ⟨sl, _, rfl⟩ := List.mem_map.mp hp
        exact Nat.ne_of_lt (Nat.lt_trans (hS sl) h1)
  · exact ⟨hl.inj, fun p hp sl => by
      rcases List.mem_cons.mp hp with rfl | hp
      · exact (Nat.ne_of_lt (Nat.lt_trans (hS sl) h1)).symm
      · exact hl.off p (.tail _ hp) sl⟩
end
noncomputable def tupOf (vs : List Value) : Obj := { cls := .type "tuple", data := .seq vs.toArray 0 }
section
variable {w : World} {A : Around} {E : Value → Shared → Prop} {s : Shared} {h₀ : Heap} {L t : Addr} {m : Str → Option Value} {vs : List Value} {n : Nat} {lay : Slot → Addr} {W : Led} {O : Slot → Obj}
theorem lay_new {o : Obj} (N : News h₀ L s.heap (W ++ Lg lay O)) (hl : Lay lay W) : Lay lay ((s.heap.objs.size, o) :: W) :=
  hl.cons fun sl q => by
    have h1 := (N (lay sl, O sl) (mem_O rfl)).1
    have h2 := Heap.lt_size h1
    exact Nat.ne_of_gt h2 q
theorem new_tup {Q : Value → Shared → Prop} (F : Fr h₀ L s.heap m) (N : News h₀ L s.heap (W ++ Lg lay O)) (hl : Lay lay W) (hsz : vs.length ≤ 1000)
    (h : ∀ t h', Fr h₀ L h' m → News h₀ L h' (((t, tupOf vs) :: W) ++ Lg lay O) → Lay lay ((t, tupOf vs) :: W) → Q (.ref t) { s with heap := h' }) : wpAny (model PR w) A (newTuple vs) Q E s :=
  newTuple_N F N (fun h' F' N' => h _ h' F' N' (lay_new N hl)) (Nat.le_trans hsz (by rw [sizeLine_eq]; decide))
theorem new_list {Q : Value → Shared → Prop} (F : Fr h₀ L s.heap m) (N : News h₀ L s.heap (W ++ Lg lay O)) (hl : Lay lay W) (hsz : vs.length ≤ 1000)
    (h : ∀ t h', Fr h₀ L h' m → News h₀ L h' (((t, listOf vs.toArray 0) :: W) ++ Lg lay O) → Lay lay ((t, listOf vs.toArray 0) :: W) → Q (.ref t) { s with heap := h' }) : wpAny (model PR w) A (newList vs) Q E s :=
  newList_N F N (fun h' F' N' => h _ h' F' N' (lay_new N hl)) (Nat.le_trans hsz (by rw [sizeLine_eq]; decide))
theorem unpack_drop {Q : List Value → Shared → Prop} (F : Fr h₀ L s.heap m) (N : News h₀ L s.heap (((t, tupOf vs) :: W) ++ Lg lay O)) (hh : A.handled = none) (hn : n = vs.length)
    (h : ∀ h', Fr h₀ L h' m → News h₀ L h' (W ++ Lg lay O) → Q vs { s with heap := h' }) : wpAny (model PR w) A (unpackItems (.ref t) n none) Q E s := by
  have ht : IsTup s.heap t vs.toArray := ⟨_, (N (t, tupOf vs) (mem_W (.head _))).1, rfl, 0, rfl⟩
  refine unpackItemsN_ F N ht hh (by simp [hn]) fun h' F' N' => ?_
  have := h h' F' (fun p hp => N' p (.tail _ hp))
  simpa using this
theorem unpack_word {Q : List Value → Shared → Prop} (F : Fr h₀ L s.heap m) (N : News h₀ L s.heap (W ++ Lg lay O)) (hm : (t, tupOf vs) ∈ W) (hh : A.handled = none) (hn : n = vs.length)
    (h : ∀ h', Fr h₀ L h' m → News h₀ L h' (W ++ Lg lay O) → Q vs { s with heap := h' }) : wpAny (model PR w) A (unpackItems (.ref t) n none) Q E s := by
  have ht : IsTup s.heap t vs.toArray := ⟨_, (N (t, tupOf vs) (mem_W hm)).1, rfl, 0, rfl⟩
  refine unpackItemsN_ F N ht hh (by simp [hn]) fun h' F' N' => ?_
  have := h h' F' N'
  simpa using this
end
theorem send35 {w : World} {h : Heap} (X : (Mine.hd0.heap_1 w.params).In h) : ∃ items, IsTup h 35 items ∧ StrsAre items.toList [Str.ofString "stream", Str.ofString "reset_stream", Str.ofString "stream_data_blocked"] :=
  ⟨_, ⟨_, X _ _ (by k_is), rfl, _, rfl⟩, .cons _ _ (.cons _ _ (.cons _ _ .nil))⟩
theorem notin35 {w : World} {A : Around} {E : Value → Shared → Prop} {s : Shared} {h₀ : Heap} {L : Addr} {m : Str → Option Value} {Q : Value → Shared → Prop} (F : Fr h₀ L s.heap m) (X : (Mine.hd0.heap_1 w.params).In h₀) {x : Str} {u : Tok}
    (h : Q (.bool (!([Str.ofString "stream", Str.ofString "reset_stream", Str.ofString "stream_data_blocked"].any (· == x)))) s) : wpAny (model PR w) A (compareOp .NotIn (.str x u) (.ref 35)) Q E s := by
  obtain ⟨items, ht, hi⟩ := send35 (X.keeps F.keep)
  exact notin_tuple_strs ht hi h
inductive Kd where
  | stream | reset | blocked | maxd
noncomputable def Kd.str : Kd → Str
  | .stream => Str.ofString "stream"
  | .reset => Str.ofString "reset_stream"
  | .blocked => Str.ofString "stream_data_blocked"
  | .maxd => Str.ofString "max_stream_data"
noncomputable def Kd.fs : Kd → Bool
  | .maxd => true
  | _ => false
theorem notin35k {w : World} {A : Around} {E : Value → Shared → Prop} {s : Shared} {h₀ : Heap} {L : Addr} {m : Str → Option Value} {Q : Value → Shared → Prop} (F : Fr h₀ L s.heap m) (X : (Mine.hd0.heap_1 w.params).In h₀) {x : Kd} {u : Tok}
    (h : Q (.bool x.fs) s) : wpAny (model PR w) A (compareOp .NotIn (.str x.str u) (.ref 35)) Q E s := by
  have e : x.fs = !([Str.ofString "stream", Str.ofString "reset_stream", Str.ofString "stream_data_blocked"].any (· == x.str)) := by cases x <;> decide
  rw [e] at h
  exact notin35 F X h
noncomputable abbrev dctObj (lay : Slot → Addr) (e : Bool) (h : Nat → Int) (t : Nat → Tok) (n : Nat) : Obj := dictOf [⟨h 0, .str (Str.ofString "role") (t 0), .str (roleS e) (t 1)⟩,
  ⟨h 1, .str (Str.ofString "own_limits") (t 2), .ref (lay (.fld e .ownL))⟩, ⟨h 2, .str (Str.ofString "peer_limits") (t 3), .ref (lay (.fld e .peerL))⟩,
  ⟨h 3, .str (Str.ofString "own_many") (t 4), .ref (lay (.fld e .ownM))⟩, ⟨h 4, .str (Str.ofString "peer_many") (t 5), .ref (lay (.fld e .peerM))⟩,
  ⟨h 5, .str (Str.ofString "told_limits") (t 6), .ref (lay (.fld e .toldL))⟩, ⟨h 6, .str (Str.ofString "owes_limit") (t 7), .ref (lay (.fld e .owes))⟩] n

structure Fix (lay : Slot → Addr) (O : Slot → Obj) : Prop where
  ends : O .ends = pairT (fun e => .ref (lay (.inst e)))
  inst : ∀ e, O (.inst e) = instObj 135 (lay (.dct e))
  dct : ∀ e, ∃ h t n, O (.dct e) = dctObj lay e h t n

noncomputable abbrev netKV (lay : Slot → Addr) : List (Str × Value) := [(Str.ofString "first", .ref (lay (.outer .first))), (Str.ofString "wire", .ref (lay .wire)), (Str.ofString "known", .ref (lay (.outer .known))), (Str.ofString "opened", .ref (lay (.outer .opened))),
  (Str.ofString "heard", .ref (lay (.outer .heard))), (Str.ofString "told", .ref (lay (.outer .told))), (Str.ofString "over", .ref (lay (.outer .over))), (Str.ofString "lost", .ref (lay (.outer .lost)))]
structure FixN (w : World) (lay : Slot → Addr) (O : Slot → Obj) : Prop where
  net : ∃ on, O .net = on ∧ on.IsDictOf (PySem.strKind PR w) (netKV lay)
  outer : ∀ k, ∃ n, O (.outer k) = pairL (fun e => .ref (lay (.row k e))) n
  orow : ∀ e, ∃ n, O (.row .over e) = pairL (fun u => .ref (lay (.over e u))) n
section
variable {lay : Slot → Addr}
theorem va_first : valueAt (netKV lay) (Str.ofString "first") = some (.ref (lay (.outer .first))) := by rfl
theorem va_wire : valueAt (netKV lay) (Str.ofString "wire") = some (.ref (lay .wire)) := by rfl
theorem va_known : valueAt (netKV lay) (Str.ofString "known") = some (.ref (lay (.outer .known))) := by rfl
theorem va_opened : valueAt (netKV lay) (Str.ofString "opened") = some (.ref (lay (.outer .opened))) := by rfl
theorem va_heard : valueAt (netKV lay) (Str.ofString "heard") = some (.ref (lay (.outer .heard))) := by rfl
theorem va_told : valueAt (netKV lay) (Str.ofString "told") = some (.ref (lay (.outer .told))) := by rfl
theorem va_over : valueAt (netKV lay) (Str.ofString "over") = some (.ref (lay (.outer .over))) := by rfl
theorem va_lost : valueAt (netKV lay) (Str.ofString "lost") = some (.ref (lay (.outer .lost))) := by rfl
end
section
variable {w : World} {A : Around} {E : Value → Shared → Prop} {s : Shared} {h₀ : Heap} {L a b : Addr} {news : Led} {vs us : List Value} {ns ms : List Int} {n n' : Nat} {Q : Value → Shared → Prop}
theorem eq_led (N : News h₀ L s.heap news) (hm : (a, listOf vs.toArray n) ∈ news) (hi : IntsAre vs ns) (hm' : (b, listOf us.toArray n') ∈ news) (hi' : IntsAre us ms) (hu : A.units + 64 < cLine)
    (h : Q (.bool (decide (ns = ms))) s) : wpAny (model PR w) A (compareOp .Eq (.ref a) (.ref b)) Q E s := eq_intsK (News.isList N hm) hi (News.isList N hm') hi' hu h
theorem ne_led (N : News h₀ L s.heap news) (hm : (a, listOf vs.toArray n) ∈ news) (hi : IntsAre vs ns) (hm' : (b, listOf us.toArray n') ∈ news) (hi' : IntsAre us ms) (hu : A.units + 64 < cLine)
    (h : Q (.bool (!decide (ns = ms))) s) : wpAny (model PR w) A (compareOp .NotEq (.ref a) (.ref b)) Q E s := ne_intsK (News.isList N hm) hi (News.isList N hm') hi' hu h
end
end

/-! part R1 -/
section

section
variable {w : World} {A : Around} {E : Value → Shared → Prop} {s : Shared} {h₀ : Heap} {L a : Addr} {m : Str → Option Value} {news : Led} {vs : List Value} {ns : List Int} {n : Nat} {x : Value} {lay : Slot → Addr} {W : Led} {O : Slot → Obj} {sl : Slot} {Q : Value → Shared → Prop}
theorem app_led (F : Fr h₀ L s.heap m) (N : News h₀ L s.heap (W ++ Lg lay O)) (hl : Lay lay W) (hO : O sl = listOf vs.toArray n) (hsz : vs.length ≤ 1000)
    (h : ∀ h', Fr h₀ L h' m → News h₀ L h' (W ++ Lg lay (put O sl (listOf (vs ++ [x]).toArray (n + 1)))) → Q .none { s with heap := h' }) : wpAny (model PR w) A (call (.builtin "list.append") [.ref (lay sl), x]) Q E s := by
  refine append_K F N (upd_O (o' := listOf (vs.toArray.push x) (n + 1)) hl hO) (fun h' F' N' => h h' F' ?_) (by rw [List.size_toArray, sizeLine_eq]; omega)
  rw [List.push_toArray] at N'
  exact N'
theorem len_il (N : News h₀ L s.heap news) (hm : (a, listOf vs.toArray n) ∈ news) (hi : IntsAre vs ns) (hfit : ns.length ≤ 1000000) (h : Q (.int (ns.length : Nat) (s.toks + 1)) { s with toks := s.toks + 1 + 1 }) :
    wpAny (model PR w) A (call (.builtin "len") [.ref a]) Q E s := by
  have e := hi.length
  refine len_vals N hm (by omega) ?_
  rw [e]
  exact h
end
section
variable {w : World} {A : Around} {E : Value → Shared → Prop} {s : Shared} {h₀ : Heap} {L t : Addr} {m : Str → Option Value} {vs : List Value} {lay : Slot → Addr} {W : Led} {O : Slot → Obj} {env : Env} {elts : List PySem.Expr} {x1 : Nat} {pos : Pos} {Q : Unit → Shared → Prop}
theorem asg_word (F : Fr h₀ L s.heap m) (N : News h₀ L s.heap (W ++ Lg lay O)) (hm : (t, tupOf vs) ∈ W) (hh : A.handled = none) (hn : (assignEach elts env).length = vs.length) (hstar : (assignEach elts env).findIdx? (·.1) = none)
    (h : ∀ h', Fr h₀ L h' m → News h₀ L h' (W ++ Lg lay O) → wpAny (model PR w) A (assignInOrder ((assignEach elts env).map (·.2)) vs) Q E { s with heap := h' }) :
    wpAny (model PR w) A (assign (.Tuple elts x1 pos) env (.ref t)) Q E s := by
  have ht : IsTup s.heap t vs.toArray := ⟨_, (N (t, tupOf vs) (mem_W hm)).1, rfl, 0, rfl⟩
  refine assign_Tuple_tuple hh ht (by simpa using hn) hstar fun h' he => ?_
  have := h h' (F.extBut he (Nat.le_refl _)) (N.extBut he (Nat.le_refl _))
  simpa using this
theorem asg_drop (F : Fr h₀ L s.heap m) (N : News h₀ L s.heap (((t, tupOf vs) :: W) ++ Lg lay O)) (hh : A.handled = none) (hn : (assignEach elts env).length = vs.length) (hstar : (assignEach elts env).findIdx? (·.1) = none)
    (h : ∀ h', Fr h₀ L h' m → News h₀ L h' (W ++ Lg lay O) → wpAny (model PR w) A (assignInOrder ((assignEach elts env).map (·.2)) vs) Q E { s with heap := h' }) :
    wpAny (model PR w) A (assign (.Tuple elts x1 pos) env (.ref t)) Q E s :=
  asg_word F N (.head _) hh hn hstar fun h' F' N' => h h' F' fun p hp => N' p (.tail _ hp)
end
inductive Wd where
  | lt (e u : Bool) (v : Int)
  | fr (k : Kd) (e u : Bool) (n : Int)
noncomputable def IsWd : List Value → Wd → Prop
  | vs, .lt e u v => ∃ t0 t1 t2 t3, vs = [.str (Str.ofString "let") t0, .int (b2i e) t1, .int (b2i u) t2, .int v t3]
  | vs, .fr k e u n => ∃ t0 t1 t2 t3, vs = [.str k.str t0, .int (b2i e) t1, .int (b2i u) t2, .int n t3]
inductive Words (W : Led) : List Value → List Wd → Prop where
  | nil : Words W [] []
  | cons {a : Addr} {items : List Value} {wd : Wd} {vs : List Value} {ws : List Wd} : (a, tupOf items) ∈ W → IsWd items wd → Words W vs ws → Words W (.ref a :: vs) (wd :: ws)
theorem Words.mono {W W' : Led} (h : ∀ p ∈ W, p ∈ W') : ∀ {vs : List Value} {ws : List Wd}, Words W vs ws → Words W' vs ws
  | _, _, .nil => .nil
  | _, _, .cons a b c => .cons (h _ a) b (c.mono h)
theorem Words.length {W : Led} : ∀ {vs : List Value} {ws : List Wd}, Words W vs ws → vs.length = ws.length
  | _, _, .nil => rfl
  | _, _, .cons _ _ c => by simp [c.length]
theorem Words.append {W : Led} : ∀ {vs us : List Value} {ws xs : List Wd}, Words W vs ws → Words W us xs → Words W (vs ++ us) (ws ++ xs)
  | _, _, _, _, .nil, h => h
  | _, _, _, _, .cons a b c, h => .cons a b (c.append h)
theorem Words.at {W : Led} : ∀ {vs : List Value} {ws : List Wd}, Words W vs ws → ∀ i : Nat, i < ws.length → ∃ a items wd, vs[i]? = some (.ref a) ∧ ws[i]? = some wd ∧ (a, tupOf items) ∈ W ∧ IsWd items wd
  | _, _, .nil, _, h => absurd h (Nat.not_lt_zero _)
  | _, _, .cons a b _, 0, _ => ⟨_, _, _, rfl, rfl, a, b⟩
  | _, _, .cons _ _ c, i + 1, h => by
    obtain ⟨a', it, wd, h1, h2, h3, h4⟩ := c.at i (by simpa using h)
    exact ⟨a', it, wd, by simpa using h1, by simpa using h2, h3, h4⟩
theorem Words.erase {W : Led} : ∀ {vs : List Value} {ws : List Wd}, Words W vs ws → ∀ i : Nat, Words W (vs.eraseIdx i) (ws.eraseIdx i)
  | _, _, .nil, _ => .nil
  | _, _, .cons _ _ c, 0 => c
  | _, _, .cons a b c, i + 1 => .cons a b (c.erase i)

structure St where
  first : Bool → Bool → Int
  known : Bool → Bool → Int
  opened : Bool → Bool → Int
  heard : Bool → Bool → Int
  told : Bool → Bool → Int
  lost : Bool → Bool → Bool
  over : Bool → Bool → List Int
  wire : List Wd
  spot : Int

noncomputable def set2 {α : Type} (f : Bool → Bool → α) (e u : Bool) (v : α) : Bool → Bool → α := setB f e (setB (f e) u v)
theorem set2_row {α : Type} {f : Bool → Bool → α} {e u : Bool} {v : α} : set2 f e u v e = setB (f e) u v := setB_self
theorem set2_self {α : Type} {f : Bool → Bool → α} {e u : Bool} {v : α} : set2 f e u v e u = v := by rw [set2_row, setB_self]
theorem setB_ne {α : Type} {g : Bool → α} {s x : Bool} {v : α} (h : x ≠ s) : setB g s v x = g x := by unfold setB; rw [if_neg h]
theorem set2_ne {α : Type} {f : Bool → Bool → α} {e u x : Bool} {v : α} (h : x ≠ e) : set2 f e u v x = f x := setB_ne h

structure Rel (w : World) (lay : Slot → Addr) (W : Led) (O : Slot → Obj) (S : St) : Prop where
  fx : Fix lay O
  fn : FixN w lay O
  first : ∀ e, ∃ tk n, O (.row .first e) = rowI (S.first e) tk n
  known : ∀ e, ∃ tk n, O (.row .known e) = rowI (S.known e) tk n
  opened : ∀ e, ∃ tk n, O (.row .opened e) = rowI (S.opened e) tk n
  heard : ∀ e, ∃ tk n, O (.row .heard e) = rowI (S.heard e) tk n
  told : ∀ e, ∃ tk n, O (.row .told e) = rowI (S.told e) tk n
  lost : ∀ e, ∃ n, O (.row .lost e) = pairL (fun u => .bool (S.lost e u)) n
  over : ∀ e u, ∃ vs n, O (.over e u) = listOf vs.toArray n ∧ IntsAre vs (S.over e u)
  ownL : ∀ e, ∃ tk n, O (.fld e .ownL) = rowI (S.heard e) tk n
  ownM : ∀ e, ∃ tk n, O (.fld e .ownM) = rowI (S.opened e) tk n
  peerM : ∀ e, ∃ tk n, O (.fld (!e) .peerM) = rowI (S.known e) tk n
  toldL : ∀ e, ∃ tk n, O (.fld (!e) .toldL) = rowI (S.told e) tk n
  peerL : ∀ e, ∃ tk n, O (.fld (!e) .peerL) = rowI (fun u => S.first e u + ((S.over e u).length : Nat)) tk n
  owes : ∀ e, ∃ n, O (.fld (!e) .owes) = pairL (fun u => .bool (S.lost e u)) n
  wire : ∃ vs n, O .wire = listOf vs.toArray n ∧ Words W vs S.wire
  box : ∃ t n, O .box = listOf #[.ref (lay .scr), .int S.spot t] n
  scr : ∃ vs ns n, O .scr = listOf vs.toArray n ∧ IntsAre vs ns ∧ ns.length ≤ 63

/-- the slots that a turn may change -/
noncomputable def Slot.dyn : Slot → Prop
  | .fld _ _ => True
  | .row .over _ => False
  | .row _ _ => True
  | .over _ _ => True
  | .wire => True
  | .box => True
  | _ => False
theorem Fix.put {lay : Slot → Addr} {O : Slot → Obj} {sl : Slot} {o : Obj} (h : Fix lay O) (d : sl.dyn) : Fix lay (put O sl o) := by
  refine ⟨(put_ne ?_).trans h.ends, fun e => (put_ne ?_).trans (h.inst e), fun e => ?_⟩
  · rintro rfl; exact d
  · rintro rfl; exact d
  · obtain ⟨a, b, c, q⟩ := h.dct e
    exact ⟨a, b, c, (put_ne (by rintro rfl; exact d)).trans q⟩
theorem FixN.put {w : World} {lay : Slot → Addr} {O : Slot → Obj} {sl : Slot} {o : Obj} (h : FixN w lay O) (d : sl.dyn) : FixN w lay (put O sl o) := by
  refine ⟨?_, fun k => ?_, fun e => ?_⟩
  · obtain ⟨on, q, r⟩ := h.net
    exact ⟨on, (put_ne (by rintro rfl; exact d)).trans q, r⟩
  · obtain ⟨n, q⟩ := h.outer k
    exact ⟨n, (put_ne (by rintro rfl; exact d)).trans q⟩
  · obtain ⟨n, q⟩ := h.orow e
    exact ⟨n, (put_ne (by rintro rfl; exact d)).trans q⟩
theorem Rel.mono {w : World} {lay : Slot → Addr} {W W' : Led} {O : Slot → Obj} {S : St} (h : Rel w lay W O S) (k : ∀ p ∈ W, p ∈ W') : Rel w lay W' O S :=
  { h with wire := let ⟨vs, n, a, b⟩ := h.wire; ⟨vs, n, a, b.mono k⟩ }
theorem Rel.known2 {w : World} {lay : Slot → Addr} {W : Led} {O : Slot → Obj} {S : St} (R : Rel w lay W O S) (e u : Bool) (v : Int) (t1 t2 : Bool → Tok) (n1 n2 : Nat) : Rel w lay W (put (put O (.row .known e) (rowI (setB (S.known e) u v) t1 n1)) (.fld (!e) .peerM) (rowI (setB (S.known e) u v) t2 n2)) { S with known := set2 S.known e u v } where
  fx := Fix.put (Fix.put R.fx trivial) trivial
  fn := FixN.put (FixN.put R.fn trivial) trivial
  first := fun x => (R.first x).imp fun _ => Exists.imp fun _ h => (put_ne (by first | exact ne_ix rfl | exact ne_rk rfl | exact ne_fk rfl | simp)).trans ((put_ne (by first | exact ne_ix rfl | exact ne_rk rfl | exact ne_fk rfl | simp)).trans (h))
  known := fun x => by
    by_cases hx : x = e
    · subst hx; exact ⟨t1, n1, (put_ne (by first | exact ne_ix rfl | exact ne_rk rfl | exact ne_fk rfl | simp)).trans (put_self.trans (by dsimp only; rw [set2_row]))⟩
    · obtain ⟨tk, k, h⟩ := R.known x; exact ⟨tk, k, (put_ne (by first | exact ne_ix rfl | exact ne_rk rfl | exact ne_fk rfl | simp)).trans ((put_ne (by simp [hx])).trans (by rw [h]; dsimp only; rw [set2_ne hx]))⟩
  opened := fun x => (R.opened x).imp fun _ => Exists.imp fun _ h => (put_ne (by first | exact ne_ix rfl | exact ne_rk rfl | exact ne_fk rfl | simp)).trans ((put_ne (by first | exact ne_ix rfl | exact ne_rk rfl | exact ne_fk rfl | simp)).trans (h))
  heard := fun x => (R.heard x).imp fun _ => Exists.imp fun _ h => (put_ne (by first | exact ne_ix rfl | exact ne_rk rfl | exact ne_fk rfl | simp)).trans ((put_ne (by first | exact ne_ix rfl | exact ne_rk rfl | exact ne_fk rfl | simp)).trans (h))
  told := fun x => (R.told x).imp fun _ => Exists.imp fun _ h => (put_ne (by first | exact ne_ix rfl | exact ne_rk rfl | exact ne_fk rfl | simp)).trans ((put_ne (by first | exact ne_ix rfl | exact ne_rk rfl | exact ne_fk rfl | simp)).trans (h))
  lost := fun x => (R.lost x).imp fun _ h => (put_ne (by first | exact ne_ix rfl | exact ne_rk rfl | exact ne_fk rfl | simp)).trans ((put_ne (by first | exact ne_ix rfl | exact ne_rk rfl | exact ne_fk rfl | simp)).trans (h))
  over := fun x y => (R.over x y).imp fun _ => Exists.imp fun _ => And.imp_left fun h => (put_ne (by first | exact ne_ix rfl | exact ne_rk rfl | exact ne_fk rfl | simp)).trans ((put_ne (by first | exact ne_ix rfl | exact ne_rk rfl | exact ne_fk rfl | simp)).trans (h))
  ownL := fun x => (R.ownL x).imp fun _ => Exists.imp fun _ h => (put_ne (by first | exact ne_ix rfl | exact ne_rk rfl | exact ne_fk rfl | simp)).trans ((put_ne (by first | exact ne_ix rfl | exact ne_rk rfl | exact ne_fk rfl | simp)).trans (h))
  ownM := fun x => (R.ownM x).imp fun _ => Exists.imp fun _ h => (put_ne (by first | exact ne_ix rfl | exact ne_rk rfl | exact ne_fk rfl | simp)).trans ((put_ne (by first | exact ne_ix rfl | exact ne_rk rfl | exact ne_fk rfl | simp)).trans (h))
  peerM := fun x => by
    by_cases hx : x = e
    · subst hx; exact ⟨t2, n2, put_self.trans (by dsimp only; rw [set2_row])⟩
    · obtain ⟨tk, k, h⟩ := R.peerM x; exact ⟨tk, k, (put_ne (by simp [hx])).trans ((put_ne (by first | exact ne_ix rfl | exact ne_rk rfl | exact ne_fk rfl | simp)).trans (by rw [h]; dsimp only; rw [set2_ne hx]))⟩
  toldL := fun x => (R.toldL x).imp fun _ => Exists.imp fun _ h => (put_ne (by first | exact ne_ix rfl | exact ne_rk rfl | exact ne_fk rfl | simp)).trans ((put_ne (by first | exact ne_ix rfl | exact ne_rk rfl | exact ne_fk rfl | simp)).trans (h))
  peerL := fun x => (R.peerL x).imp fun _ => Exists.imp fun _ h => (put_ne (by first | exact ne_ix rfl | exact ne_rk rfl | exact ne_fk rfl | simp)).trans ((put_ne (by first | exact ne_ix rfl | exact ne_rk rfl | exact ne_fk rfl | simp)).trans (h))
  owes := fun x => (R.owes x).imp fun _ h => (put_ne (by first | exact ne_ix rfl | exact ne_rk rfl | exact ne_fk rfl | simp)).trans ((put_ne (by first | exact ne_ix rfl | exact ne_rk rfl | exact ne_fk rfl | simp)).trans (h))
  wire := R.wire.imp fun _ => Exists.imp fun _ => And.imp_left fun h => (put_ne (by first | exact ne_ix rfl | exact ne_rk rfl | exact ne_fk rfl | simp)).trans ((put_ne (by first | exact ne_ix rfl | exact ne_rk rfl | exact ne_fk rfl | simp)).trans (h))
  box := R.box.imp fun _ => Exists.imp fun _ h => (put_ne (by first | exact ne_ix rfl | exact ne_rk rfl | exact ne_fk rfl | simp)).trans ((put_ne (by first | exact ne_ix rfl | exact ne_rk rfl | exact ne_fk rfl | simp)).trans (h))
  scr := R.scr.imp fun _ => Exists.imp fun _ => Exists.imp fun _ => And.imp_left fun h => (put_ne (by first | exact ne_ix rfl | exact ne_rk rfl | exact ne_fk rfl | simp)).trans ((put_ne (by first | exact ne_ix rfl | exact ne_rk rfl | exact ne_fk rfl | simp)).trans (h))
theorem Rel.opened2 {w : World} {lay : Slot → Addr} {W : Led} {O : Slot → Obj} {S : St} (R : Rel w lay W O S) (e u : Bool) (v : Int) (t1 t2 : Bool → Tok) (n1 n2 : Nat) : Rel w lay W (put (put O (.row .opened e) (rowI (setB (S.opened e) u v) t1 n1)) (.fld e .ownM) (rowI (setB (S.opened e) u v) t2 n2)) { S with opened := set2 S.opened e u v } where
  fx := Fix.put (Fix.put R.fx trivial) trivial
  fn := FixN.put (FixN.put R.fn trivial) trivial
  first := fun x => (R.first x).imp fun _ => Exists.imp fun _ h => (put_ne (by first | exact ne_ix rfl | exact ne_rk rfl | exact ne_fk rfl | simp)).trans ((put_ne (by first | exact ne_ix rfl | exact ne_rk rfl | exact ne_fk rfl | simp)).trans (h))
  known := fun x => (R.known x).imp fun _ => Exists.imp fun _ h => (put_ne (by first | exact ne_ix rfl | exact ne_rk rfl | exact ne_fk rfl | simp)).trans ((put_ne (by first | exact ne_ix rfl | exact ne_rk rfl | exact ne_fk rfl | simp)).trans (h))
  opened := fun x => by
    by_cases hx : x = e
    · subst hx; exact ⟨t1, n1, (put_ne (by first | exact ne_ix rfl | exact ne_rk rfl | exact ne_fk rfl | simp)).trans (put_self.trans (by dsimp only; rw [set2_row]))⟩
    · obtain ⟨tk, k, h⟩ := R.opened x; exact ⟨tk, k, (put_ne (by first | exact ne_ix rfl | exact ne_rk rfl | exact ne_fk rfl | simp)).trans ((put_ne (by simp [hx])).trans (by rw [h]; dsimp only; rw [set2_ne hx]))⟩
  heard := fun x => (R.heard x).imp fun _ => Exists.imp fun _ h => (put_ne (by first | exact ne_ix rfl | exact ne_rk rfl | exact ne_fk rfl | simp)).trans ((put_ne (by first | exact ne_ix rfl | exact ne_rk rfl | exact ne_fk rfl | simp)).trans (h))
  told := fun x => (R.told x).imp fun _ => Exists.imp fun _ h => (put_ne (by first | exact ne_ix rfl | exact ne_rk rfl | exact ne_fk rfl | simp)).trans ((put_ne (by first | exact ne_ix rfl | exact ne_rk rfl | exact ne_fk rfl | simp)).trans (h))
  lost := fun x => (R.lost x).imp fun _ h => (put_ne (by first | exact ne_ix rfl | exact ne_rk rfl | exact ne_fk rfl | simp)).trans ((put_ne (by first | exact ne_ix rfl | exact ne_rk rfl | exact ne_fk rfl | simp)).trans (h))
  over := fun x y => (R.over x y).imp fun _ => Exists.imp fun _ => And.imp_left fun h => (put_ne (by first | exact ne_ix rfl | exact ne_rk rfl | exact ne_fk rfl | simp)).trans ((put_ne (by first | exact ne_ix rfl | exact ne_rk rfl | exact ne_fk rfl | simp)).trans (h))
  ownL := fun x => (R.ownL x).imp fun _ => Exists.imp fun _ h => (put_ne (by first | exact ne_ix rfl | exact ne_rk rfl | exact ne_fk rfl | simp)).trans ((put_ne (by first | exact ne_ix rfl | exact ne_rk rfl | exact ne_fk rfl | simp)).trans (h))
  ownM := fun x => by
    by_cases hx : x = e
    · subst hx; exact ⟨t2, n2, put_self.trans (by dsimp only; rw [set2_row])⟩
    · obtain ⟨tk, k, h⟩ := R.ownM x; exact ⟨tk, k, (put_ne (by simp [hx])).trans ((put_ne (by first | exact ne_ix rfl | exact ne_rk rfl | exact ne_fk rfl | simp)).trans (by rw [h]; dsimp only; rw [set2_ne hx]))⟩
  peerM := fun x => (R.peerM x).imp fun _ => Exists.imp fun _ h => (put_ne (by first | exact ne_ix rfl | exact ne_rk rfl | exact ne_fk rfl | simp)).trans ((put_ne (by first | exact ne_ix rfl | exact ne_rk rfl | exact ne_fk rfl | simp)).trans (h))
  toldL := fun x => (R.toldL x).imp fun _ => Exists.imp fun _ h => (put_ne (by first | exact ne_ix rfl | exact ne_rk rfl | exact ne_fk rfl | simp)).trans ((put_ne (by first | exact ne_ix rfl | exact ne_rk rfl | exact ne_fk rfl | simp)).trans (h))
  peerL := fun x => (R.peerL x).imp fun _ => Exists.imp fun _ h => (put_ne (by first | exact ne_ix rfl | exact ne_rk rfl | exact ne_fk rfl | simp)).trans ((put_ne (by first | exact ne_ix rfl | exact ne_rk rfl | exact ne_fk rfl | simp)).trans (h))
  owes := fun x => (R.owes x).imp fun _ h => (put_ne (by first | exact ne_ix rfl | exact ne_rk rfl | exact ne_fk rfl | simp)).trans ((put_ne (by first | exact ne_ix rfl | exact ne_rk rfl | exact ne_fk rfl | simp)).trans (h))
  wire := R.wire.imp fun _ => Exists.imp fun _ => And.imp_left fun h => (put_ne (by first | exact ne_ix rfl | exact ne_rk rfl | exact ne_fk rfl | simp)).trans ((put_ne (by first | exact ne_ix rfl | exact ne_rk rfl | exact ne_fk rfl | simp)).trans (h))
  box := R.box.imp fun _ => Exists.imp fun _ h => (put_ne (by first | exact ne_ix rfl | exact ne_rk rfl | exact ne_fk rfl | simp)).trans ((put_ne (by first | exact ne_ix rfl | exact ne_rk rfl | exact ne_fk rfl | simp)).trans (h))
  scr := R.scr.imp fun _ => Exists.imp fun _ => Exists.imp fun _ => And.imp_left fun h => (put_ne (by first | exact ne_ix rfl | exact ne_rk rfl | exact ne_fk rfl | simp)).trans ((put_ne (by first | exact ne_ix rfl | exact ne_rk rfl | exact ne_fk rfl | simp)).trans (h))
theorem Rel.heard2 {w : World} {lay : Slot → Addr} {W : Led} {O : Slot → Obj} {S : St} (R : Rel w lay W O S) (e u : Bool) (v : Int) (t1 t2 : Bool → Tok) (n1 n2 : Nat) : Rel w lay W (put (put O (.fld e .ownL) (rowI (setB (S.heard e) u v) t1 n1)) (.row .heard e) (rowI (setB (S.heard e) u v) t2 n2)) { S with heard := set2 S.heard e u v } where
  fx := Fix.put (Fix.put R.fx trivial) trivial
  fn := FixN.put (FixN.put R.fn trivial) trivial
  first := fun x => (R.first x).imp fun _ => Exists.imp fun _ h => (put_ne (by first | exact ne_ix rfl | exact ne_rk rfl | exact ne_fk rfl | simp)).trans ((put_ne (by first | exact ne_ix rfl | exact ne_rk rfl | exact ne_fk rfl | simp)).trans (h))
  known := fun x => (R.known x).imp fun _ => Exists.imp fun _ h => (put_ne (by first | exact ne_ix rfl | exact ne_rk rfl | exact ne_fk rfl | simp)).trans ((put_ne (by first | exact ne_ix rfl | exact ne_rk rfl | exact ne_fk rfl | simp)).trans (h))
  opened := fun x => (R.opened x).imp fun _ => Exists.imp fun _ h => (put_ne (by first | exact ne_ix rfl | exact ne_rk rfl | exact ne_fk rfl | simp)).trans ((put_ne (by first | exact ne_ix rfl | exact ne_rk rfl | exact ne_fk rfl | simp)).trans (h))
  heard := fun x => by
    by_cases hx : x = e
    · subst hx; exact ⟨t2, n2, put_self.trans (by dsimp only; rw [set2_row])⟩
    · obtain ⟨tk, k, h⟩ := R.heard x; exact ⟨tk, k, (put_ne (by simp [hx])).trans ((put_ne (by first | exact ne_ix rfl | exact ne_rk rfl | exact ne_fk rfl | simp)).trans (by rw [h]; dsimp only; rw [set2_ne hx]))⟩
  told := fun x => (R.told x).imp fun _ => Exists.imp fun _ h => (put_ne (by first | exact ne_ix rfl | exact ne_rk rfl | exact ne_fk rfl | simp)).trans ((put_ne (by first | exact ne_ix rfl | exact ne_rk rfl | exact ne_fk rfl | simp)).trans (h))
  lost := fun x => (R.lost x).imp fun _ h => (put_ne (by first | exact ne_ix rfl | exact ne_rk rfl | exact ne_fk rfl | simp)).trans ((put_ne (by first | exact ne_ix rfl | exact ne_rk rfl | exact ne_fk rfl | simp)).trans (h))
  over := fun x y => (R.over x y).imp fun _ => Exists.imp fun _ => And.imp_left fun h => (put_ne (by first | exact ne_ix rfl | exact ne_rk rfl | exact ne_fk rfl | simp)).trans ((put_ne (by first | exact ne_ix rfl | exact ne_rk rfl | exact ne_fk rfl | simp)).trans (h))
  ownL := fun x => by
    by_cases hx : x = e
    · subst hx; exact ⟨t1, n1, (put_ne (by first | exact ne_ix rfl | exact ne_rk rfl | exact ne_fk rfl | simp)).trans (put_self.trans (by dsimp only; rw [set2_row]))⟩
    · obtain ⟨tk, k, h⟩ := R.ownL x; exact ⟨tk, k, (put_ne (by first | exact ne_ix rfl | exact ne_rk rfl | exact ne_fk rfl | simp)).trans ((put_ne (by simp [hx])).trans (by rw [h]; dsimp only; rw [set2_ne hx]))⟩
  ownM := fun x => (R.ownM x).imp fun _ => Exists.imp fun _ h => (put_ne (by first | exact ne_ix rfl | exact ne_rk rfl | exact ne_fk rfl | simp)).trans ((put_ne (by first | exact ne_ix rfl | exact ne_rk rfl | exact ne_fk rfl | simp)).trans (h))
  peerM := fun x => (R.peerM x).imp fun _ => Exists.imp fun _ h => (put_ne (by first | exact ne_ix rfl | exact ne_rk rfl | exact ne_fk rfl | simp)).trans ((put_ne (by first | exact ne_ix rfl | exact ne_rk rfl | exact ne_fk rfl | simp)).trans (h))
  toldL := fun x => (R.toldL x).imp fun _ => Exists.imp fun _ h => (put_ne (by first | exact ne_ix rfl | exact ne_rk rfl | exact ne_fk rfl | simp)).trans ((put_ne (by first | exact ne_ix rfl | exact ne_rk rfl | exact ne_fk rfl | simp)).trans (h))
  peerL := fun x => (R.peerL x).imp fun _ => Exists.imp fun _ h => (put_ne (by first | exact ne_ix rfl | exact ne_rk rfl | exact ne_fk rfl | simp)).trans ((put_ne (by first | exact ne_ix rfl | exact ne_rk rfl | exact ne_fk rfl | simp)).trans (h))
  owes := fun x => (R.owes x).imp fun _ h => (put_ne (by first | exact ne_ix rfl | exact ne_rk rfl | exact ne_fk rfl | simp)).trans ((put_ne (by first | exact ne_ix rfl | exact ne_rk rfl | exact ne_fk rfl | simp)).trans (h))
  wire := R.wire.imp fun _ => Exists.imp fun _ => And.imp_left fun h => (put_ne (by first | exact ne_ix rfl | exact ne_rk rfl | exact ne_fk rfl | simp)).trans ((put_ne (by first | exact ne_ix rfl | exact ne_rk rfl | exact ne_fk rfl | simp)).trans (h))
  box := R.box.imp fun _ => Exists.imp fun _ h => (put_ne (by first | exact ne_ix rfl | exact ne_rk rfl | exact ne_fk rfl | simp)).trans ((put_ne (by first | exact ne_ix rfl | exact ne_rk rfl | exact ne_fk rfl | simp)).trans (h))
  scr := R.scr.imp fun _ => Exists.imp fun _ => Exists.imp fun _ => And.imp_left fun h => (put_ne (by first | exact ne_ix rfl | exact ne_rk rfl | exact ne_fk rfl | simp)).trans ((put_ne (by first | exact ne_ix rfl | exact ne_rk rfl | exact ne_fk rfl | simp)).trans (h))
theorem Rel.told4 {w : World} {lay : Slot → Addr} {W : Led} {O : Slot → Obj} {S : St} (R : Rel w lay W O S) (e u : Bool) (v : Int) (wd : Wd) (t1 t2 : Bool → Tok) (n1 n2 n3 n4 n5 : Nat) (vs : List Value) (hw : Words W vs (S.wire ++ [wd])) : Rel w lay W (put (put (put (put (put O (.fld (!e) .owes) (pairL (fun s => .bool (setB (S.lost e) u false s)) n1)) (.fld (!e) .toldL) (rowI (setB (S.told e) u v) t1 n2)) (.row .told e) (rowI (setB (S.told e) u v) t2 n3)) (.row .lost e) (pairL (fun s => .bool (setB (S.lost e) u false s)) n4)) .wire (listOf vs.toArray n5)) { S with told := set2 S.told e u v, lost := set2 S.lost e u false, wire := S.wire ++ [wd] } where
  fx := Fix.put (Fix.put (Fix.put (Fix.put (Fix.put R.fx trivial) trivial) trivial) trivial) trivial
  fn := FixN.put (FixN.put (FixN.put (FixN.put (FixN.put R.fn trivial) trivial) trivial) trivial) trivial
  first := fun x => (R.first x).imp fun _ => Exists.imp fun _ h => (put_ne (by first | exact ne_ix rfl | exact ne_rk rfl | exact ne_fk rfl | simp)).trans ((put_ne (by first | exact ne_ix rfl | exact ne_rk rfl | exact ne_fk rfl | simp)).trans ((put_ne (by first | exact ne_ix rfl | exact ne_rk rfl | exact ne_fk rfl | simp)).trans ((put_ne (by first | exact ne_ix rfl | exact ne_rk rfl | exact ne_fk rfl | simp)).trans ((put_ne (by first | exact ne_ix rfl | exact ne_rk rfl | exact ne_fk rfl | simp)).trans (h)))))
  known := fun x => (R.known x).imp fun _ => Exists.imp fun _ h => (put_ne (by first | exact ne_ix rfl | exact ne_rk rfl | exact ne_fk rfl | simp)).trans ((put_ne (by first | exact ne_ix rfl | exact ne_rk rfl | exact ne_fk rfl | simp)).trans ((put_ne (by first | exact ne_ix rfl | exact ne_rk rfl | exact ne_fk rfl | simp)).trans ((put_ne (by first | exact ne_ix rfl | exact ne_rk rfl | exact ne_fk rfl | simp)).trans ((put_ne (by first | exact ne_ix rfl | exact ne_rk rfl | exact ne_fk rfl | simp)).trans (h)))))
  opened := fun x => (R.opened x).imp fun _ => Exists.imp fun _ h => (put_ne (by first | exact ne_ix rfl | exact ne_rk rfl | exact ne_fk rfl | simp)).trans ((put_ne (by first | exact ne_ix rfl | exact ne_rk rfl | exact ne_fk rfl | simp)).trans ((put_ne (by first | exact ne_ix rfl | exact ne_rk rfl | exact ne_fk rfl | simp)).trans ((put_ne (by first | exact ne_ix rfl | exact ne_rk rfl | exact ne_fk rfl | simp)).trans ((put_ne (by first | exact ne_ix rfl | exact ne_rk rfl | exact ne_fk rfl | simp)).trans (h)))))
  heard := fun x => (R.heard x).imp fun _ => Exists.imp fun _ h => (put_ne (by first | exact ne_ix rfl | exact ne_rk rfl | exact ne_fk rfl | simp)).trans ((put_ne (by first | exact ne_ix rfl | exact ne_rk rfl | exact ne_fk rfl | simp)).trans ((put_ne (by first | exact ne_ix rfl | exact ne_rk rfl | exact ne_fk rfl | simp)).trans ((put_ne (by first | exact ne_ix rfl | exact ne_rk rfl | exact ne_fk rfl | simp)).trans ((put_ne (by first | exact ne_ix rfl | exact ne_rk rfl | exact ne_fk rfl | simp)).trans (h)))))
  told := fun x => by
    by_cases hx : x = e
    · subst hx; exact ⟨t2, n3, (put_ne (by first | exact ne_ix rfl | exact ne_rk rfl | exact ne_fk rfl | simp)).trans ((put_ne (by first | exact ne_ix rfl | exact ne_rk rfl | exact ne_fk rfl | simp)).trans (put_self.trans (by dsimp only; rw [set2_row])))⟩
    · obtain ⟨tk, k, h⟩ := R.told x; exact ⟨tk, k, (put_ne (by first | exact ne_ix rfl | exact ne_rk rfl | exact ne_fk rfl | simp)).trans ((put_ne (by first | exact ne_ix rfl | exact ne_rk rfl | exact ne_fk rfl | simp)).trans ((put_ne (by simp [hx])).trans ((put_ne (by first | exact ne_ix rfl | exact ne_rk rfl | exact ne_fk rfl | simp)).trans ((put_ne (by first | exact ne_ix rfl | exact ne_rk rfl | exact ne_fk rfl | simp)).trans ((by rw [h]; dsimp only; rw [set2_ne hx]))))))⟩
  lost := fun x => by
    by_cases hx : x = e
    · subst hx; exact ⟨n4, (put_ne (by first | exact ne_ix rfl | exact ne_rk rfl | exact ne_fk rfl | simp)).trans (put_self.trans (by dsimp only; rw [set2_row]))⟩
    · obtain ⟨k, h⟩ := R.lost x; exact ⟨k, (put_ne (by first | exact ne_ix rfl | exact ne_rk rfl | exact ne_fk rfl | simp)).trans ((put_ne (by simp [hx])).trans ((put_ne (by first | exact ne_ix rfl | exact ne_rk rfl | exact ne_fk rfl | simp)).trans ((put_ne (by first | exact ne_ix rfl | exact ne_rk rfl | exact ne_fk rfl | simp)).trans ((put_ne (by first | exact ne_ix rfl | exact ne_rk rfl | exact ne_fk rfl | simp)).trans ((by rw [h]; dsimp only; rw [set2_ne hx]))))))⟩
  over := fun x y => (R.over x y).imp fun _ => Exists.imp fun _ => And.imp_left fun h => (put_ne (by first | exact ne_ix rfl | exact ne_rk rfl | exact ne_fk rfl | simp)).trans ((put_ne (by first | exact ne_ix rfl | exact ne_rk rfl | exact ne_fk rfl | simp)).trans ((put_ne (by first | exact ne_ix rfl | exact ne_rk rfl | exact ne_fk rfl | simp)).trans ((put_ne (by first | exact ne_ix rfl | exact ne_rk rfl | exact ne_fk rfl | simp)).trans ((put_ne (by first | exact ne_ix rfl | exact ne_rk rfl | exact ne_fk rfl | simp)).trans (h)))))
  ownL := fun x => (R.ownL x).imp fun _ => Exists.imp fun _ h => (put_ne (by first | exact ne_ix rfl | exact ne_rk rfl | exact ne_fk rfl | simp)).trans ((put_ne (by first | exact ne_ix rfl | exact ne_rk rfl | exact ne_fk rfl | simp)).trans ((put_ne (by first | exact ne_ix rfl | exact ne_rk rfl | exact ne_fk rfl | simp)).trans ((put_ne (by first | exact ne_ix rfl | exact ne_rk rfl | exact ne_fk rfl | simp)).trans ((put_ne (by first | exact ne_ix rfl | exact ne_rk rfl | exact ne_fk rfl | simp)).trans (h)))))
  ownM := fun x => (R.ownM x).imp fun _ => Exists.imp fun _ h => (put_ne (by first | exact ne_ix rfl | exact ne_rk rfl | exact ne_fk rfl | simp)).trans ((put_ne (by first | exact ne_ix rfl | exact ne_rk rfl | exact ne_fk rfl | simp)).trans ((put_ne (by first | exact ne_ix rfl | exact ne_rk rfl | exact ne_fk rfl | simp)).trans ((put_ne (by first | exact ne_ix rfl | exact ne_rk rfl | exact ne_fk rfl | simp)).trans ((put_ne (by first | exact ne_ix rfl | exact ne_rk rfl | exact ne_fk rfl | simp)).trans (h)))))
  peerM := fun x => (R.peerM x).imp fun _ => Exists.imp fun _ h => (put_ne (by first | exact ne_ix rfl | exact ne_rk rfl | exact ne_fk rfl | simp)).trans ((put_ne (by first | exact ne_ix rfl | exact ne_rk rfl | exact ne_fk rfl | simp)).trans ((put_ne (by first | exact ne_ix rfl | exact ne_rk rfl | exact ne_fk rfl | simp)).trans ((put_ne (by first | exact ne_ix rfl | exact ne_rk rfl | exact ne_fk rfl | simp)).trans ((put_ne (by first | exact ne_ix rfl | exact ne_rk rfl | exact ne_fk rfl | simp)).trans (h)))))
  toldL := fun x => by
    by_cases hx : x = e
    · subst hx; exact ⟨t1, n2, (put_ne (by first | exact ne_ix rfl | exact ne_rk rfl | exact ne_fk rfl | simp)).trans ((put_ne (by first | exact ne_ix rfl | exact ne_rk rfl | exact ne_fk rfl | simp)).trans ((put_ne (by first | exact ne_ix rfl | exact ne_rk rfl | exact ne_fk rfl | simp)).trans (put_self.trans (by dsimp only; rw [set2_row]))))⟩
    · obtain ⟨tk, k, h⟩ := R.toldL x; exact ⟨tk, k, (put_ne (by first | exact ne_ix rfl | exact ne_rk rfl | exact ne_fk rfl | simp)).trans ((put_ne (by first | exact ne_ix rfl | exact ne_rk rfl | exact ne_fk rfl | simp)).trans ((put_ne (by first | exact ne_ix rfl | exact ne_rk rfl | exact ne_fk rfl | simp)).trans ((put_ne (by simp [hx])).trans ((put_ne (by first | exact ne_ix rfl | exact ne_rk rfl | exact ne_fk rfl | simp)).trans ((by rw [h]; dsimp only; rw [set2_ne hx]))))))⟩
  peerL := fun x => (R.peerL x).imp fun _ => Exists.imp fun _ h => (put_ne (by first | exact ne_ix rfl | exact ne_rk rfl | exact ne_fk rfl | simp)).trans ((put_ne (by first | exact ne_ix rfl | exact ne_rk rfl | exact ne_fk rfl | simp)).trans ((put_ne (by first | exact ne_ix rfl | exact ne_rk rfl | exact ne_fk rfl | simp)).trans ((put_ne (by first | exact ne_ix rfl | exact ne_rk rfl | exact ne_fk rfl | simp)).trans ((put_ne (by first | exact ne_ix rfl | exact ne_rk rfl | exact ne_fk rfl | simp)).trans (h)))))
  owes := fun x => by
    by_cases hx : x = e
    · subst hx; exact ⟨n1, (put_ne (by first | exact ne_ix rfl | exact ne_rk rfl | exact ne_fk rfl | simp)).trans ((put_ne (by first | exact ne_ix rfl | exact ne_rk rfl | exact ne_fk rfl | simp)).trans ((put_ne (by first | exact ne_ix rfl | exact ne_rk rfl | exact ne_fk rfl | simp)).trans ((put_ne (by first | exact ne_ix rfl | exact ne_rk rfl | exact ne_fk rfl | simp)).trans (put_self.trans (by dsimp only; rw [set2_row])))))⟩
    · obtain ⟨k, h⟩ := R.owes x; exact ⟨k, (put_ne (by first | exact ne_ix rfl | exact ne_rk rfl | exact ne_fk rfl | simp)).trans ((put_ne (by first | exact ne_ix rfl | exact ne_rk rfl | exact ne_fk rfl | simp)).trans ((put_ne (by first | exact ne_ix rfl | exact ne_rk rfl | exact ne_fk rfl | simp)).trans ((put_ne (by first | exact ne_ix rfl | exact ne_rk rfl | exact ne_fk rfl | simp)).trans ((put_ne (by simp [hx])).trans ((by rw [h]; dsimp only; rw [set2_ne hx]))))))⟩
  wire := ⟨vs, n5, put_self, hw⟩
  box := R.box.imp fun _ => Exists.imp fun _ h => (put_ne (by first | exact ne_ix rfl | exact ne_rk rfl | exact ne_fk rfl | simp)).trans ((put_ne (by first | exact ne_ix rfl | exact ne_rk rfl | exact ne_fk rfl | simp)).trans ((put_ne (by first | exact ne_ix rfl | exact ne_rk rfl | exact ne_fk rfl | simp)).trans ((put_ne (by first | exact ne_ix rfl | exact ne_rk rfl | exact ne_fk rfl | simp)).trans ((put_ne (by first | exact ne_ix rfl | exact ne_rk rfl | exact ne_fk rfl | simp)).trans (h)))))
  scr := R.scr.imp fun _ => Exists.imp fun _ => Exists.imp fun _ => And.imp_left fun h => (put_ne (by first | exact ne_ix rfl | exact ne_rk rfl | exact ne_fk rfl | simp)).trans ((put_ne (by first | exact ne_ix rfl | exact ne_rk rfl | exact ne_fk rfl | simp)).trans ((put_ne (by first | exact ne_ix rfl | exact ne_rk rfl | exact ne_fk rfl | simp)).trans ((put_ne (by first | exact ne_ix rfl | exact ne_rk rfl | exact ne_fk rfl | simp)).trans ((put_ne (by first | exact ne_ix rfl | exact ne_rk rfl | exact ne_fk rfl | simp)).trans (h)))))
end

/-! part E1 -/
section
open PySem PySem.W PySem.Calls PyProof.Rows
/-! an exception that bears a dict of its own, on its way: the stations, with the dict kept -/
noncomputable def TD (h base : Heap) (e d : Addr) (cls fl : Value) : Prop :=
  ∃ oe vs T oT ts, h.get? e = some oe ∧ oe.cls = cls ∧ oe.dict = some d ∧ oe.data = .fields vs ∧ vs[1]? = some (.ref T) ∧ base.get? T = none ∧ T ≠ e ∧ h.get? T = some oT ∧ oT.data = .fields ts ∧ ts[3]? = some fl
structure FlyD (base : Heap) (l : List Env) (e d : Addr) (cls fl : Value) (h : Heap) : Prop where
  stays : base.StaysIn h
  fresh : base.get? e = none
  frames : h.FunFrames base l
  td : TD h base e d cls fl
theorem dict_mapFields (f : Array Value → Array Value) (o : Obj) : (Obj.mapFields f o).dict = o.dict := by
  obtain ⟨c, d, dt, sl⟩ := o
  cases dt <;> rfl
/-- an update of a record leaves the others be -/
theorem upd_others {h : Heap} {a : Addr} {o : Obj} {vs : Array Value} (f : Array Value → Array Value) (ha : h.get? a = some o) (hd : o.data = .fields vs) :
    (∀ b x, h.get? b = some x → (∀ vs, x.data ≠ .fields vs) → (h.update a (Obj.mapFields f)).get? b = some x) ∧ ∀ b, b ≠ a → (h.update a (Obj.mapFields f)).get? b = h.get? b := by
  have other : ∀ b, b ≠ a → (h.update a (Obj.mapFields f)).get? b = h.get? b := fun b hb => Heap.get?_update_other _ _ (Ne.symm hb)
  refine ⟨fun b x hb hn => (other b fun q => ?_).trans hb, other⟩
  rw [q, ha] at hb
  exact hn vs ((Option.some.inj hb) ▸ hd)
section
variable {M : Model} {A : Around} {E : Value → Shared → Prop} {s : Shared} {base : Heap} {env : Env} {outer l : List Env} {L e d : Addr} {cls fl : Value} {Q : Unit → Shared → Prop}
theorem down_D (x : FlyD base l e d cls fl s.heap) (h : ∀ h', FlyD base l e d cls .none h' → s.heap.UpToSlots h' → Q () { s with heap := h' }) : wpAny M A (setFlight (.ref e) none) Q E s := by
  obtain ⟨oe, vs, T, oT, ts, he, hc, hdd, hd, h1, hnT, hTe, hT, hdT, h3⟩ := x.td
  unfold setFlight
  refine wpAny_bind (wpAny_field he hd h1 ?_)
  rw [if_pos (by simp : (Value.ref T != Value.none) = true)]
  have hsz : 3 < ts.size := (Array.getElem?_eq_some_iff.mp h3).1
  obtain ⟨u1, u2⟩ := upd_others (·.setIfInBounds 3 ((none : Option Addr).elim Value.none fun f => rawInt f)) hT hdT
  refine wpAny_setField hT hdT hsz (h _ ⟨fun b o hb => ?_, x.fresh, x.frames.of_keeps fun b o hb hn => ⟨o, u1 b o hb hn, rfl⟩, ?_⟩ fun b o hb hn => ⟨o.slots, u1 b o hb hn⟩)
  · refine (u2 b fun q => ?_).trans (x.stays b o hb)
    rw [q, hnT] at hb
    cases hb
  · exact ⟨oe, vs, T, _, _, (u2 e (Ne.symm hTe)).trans he, hc, hdd, hd, h1, hnT, hTe, Heap.get?_update_self _ hT (Obj.isFreed_of_fields (Obj.data_mapFields hdT _)), Obj.data_mapFields hdT _, by simp [hsz]⟩
theorem entry_D {oe : Obj} {vs : Array Value} {head : Value} {hadNext : Bool} (hfr : A.frames = some (env :: outer)) (hl : s.heap.FunFrames base (env :: outer)) (hf : env.frame = some L)
    (he : s.heap.get? e = some oe) (hdd : oe.dict = some d) (hkb : base.StaysIn s.heap) (hen : base.get? e = none) (hd : oe.data = .fields vs) (hsz : 1 < vs.size)
    (h : ∀ h', FlyD base (env :: outer) e d oe.cls (rawInt L) h' → s.heap.UpToSlots h' → Q () { s with heap := h' }) :
    wpAny M A (do let a ← frameOf env; let pl ← entryPlaceOf L hadNext; let b ← EntryCells.newEntry head a .none (rawInt L) .none pl; setField (.ref e) 1 b) Q E s := by
  have hne : e ∉ (env :: outer).filterMap (·.frame) := fun hm => by
    obtain ⟨_, o, ho, hnf⟩ := hl.mem hm
    exact hnf vs ((Option.some.inj (he.symm.trans ho)) ▸ hd)
  refine wpAny_bind (wpAny_frameOf_fun hfr hl hf fun h₁ hs₁ => wpAny_bind (wpAny_entryPlaceOf fun pl hpl => ?_))
  unfold EntryCells.newEntry newFields
  refine wpAny_bind (wpAny_newObj_type ?_ (hpl.sizeOk5 _ _ _ _ _))
  generalize hob : ({ cls := .type "traceback", dict := none, data := .fields ([head, .ref L, .none, rawInt L, .none] ++ (if pl.isEmpty then List.replicate 6 Value.none else pl)).toArray } : Obj) = ob
  have he₁ : h₁.get? e = some oe := (hs₁.2.1 e hne).trans he
  have kb₁ : base.StaysIn h₁ := fun b o hb => by
    refine (hs₁.2.1 b fun hm => ?_).trans (hkb b o hb)
    rw [(hl.mem hm).1] at hb
    cases hb
  have hTe : h₁.objs.size ≠ e := Nat.ne_of_gt (Heap.lt_size he₁)
  have he₂ : (h₁.push ob).get? e = some oe := Heap.get?_push_of_some _ he₁
  obtain ⟨u1, u2⟩ := upd_others (·.setIfInBounds 1 (Value.ref h₁.objs.size)) he₂ hd
  have obf : ob.isFreed = false := by rw [← hob]; rfl
  have obd : ∃ ts, ob.data = .fields ts ∧ ts[3]? = some (rawInt L) := by
    rw [← hob]
    refine ⟨_, rfl, ?_⟩
    simp
  obtain ⟨ts, hts, hts3⟩ := obd
  refine wpAny_setField he₂ hd hsz (h _ ⟨fun b o hb => ?_, hen, hl.of_keeps fun b o hb hn => ?_, ?_⟩ fun b o hb hn => ?_)
  · refine (u2 b fun q => ?_).trans (Heap.get?_push_of_some _ (kb₁ b o hb))
    rw [q, hen] at hb
    cases hb
  · obtain ⟨sl, hq⟩ := hs₁.2.2 b o hb
    exact ⟨_, u1 b _ (Heap.get?_push_of_some _ hq) hn, rfl⟩
  · refine ⟨_, _, h₁.objs.size, ob, ts, Heap.get?_update_self _ he₂ (Obj.isFreed_of_fields (Obj.data_mapFields hd _)), Obj.cls_mapFields _ _, (dict_mapFields _ _).trans hdd, Obj.data_mapFields hd _, by simp [hsz], kb₁.fresh, hTe, ?_, hts, hts3⟩
    exact (u2 _ hTe).trans (Heap.get?_push_size h₁ obf)
  · obtain ⟨sl, hq⟩ := hs₁.2.2 b o hb
    exact ⟨sl, u1 b _ (Heap.get?_push_of_some _ hq) hn⟩
end
end

/-! part E2 -/
section
open PySem PySem.W PySem.Calls PyProof.Rows
noncomputable def RaisedD (base G : Heap) (l : List Env) (e d : Addr) (cls : Value) (news : Led) (h : Heap) : Prop :=
  ∃ B, base.StaysIn B ∧ (∀ b o, G.get? b = some o → b ∉ l.filterMap (·.frame) → B.get? b = some o) ∧ (∀ q ∈ news, B.get? q.1 = some q.2 ∧ G.get? q.1 = none ∧ base.get? q.1 = none) ∧ FlyD B l e d cls .none h
section
variable {M : Model} {A : Around} {E : Value → Shared → Prop} {s : Shared} {base g : Heap} {env : Env} {outer l : List Env} {L e d : Addr} {cls fl : Value} {m : Str → Option Value} {news : Led} {oe : Obj} {vs : Array Value} {Q : Unit → Shared → Prop}
theorem leave_first_D (hfr : A.frames = some (env :: outer)) (hl : s.heap.FunFrames base (env :: outer)) (hf : env.frame = some L)
    (he : s.heap.get? e = some oe) (hdd : oe.dict = some d) (hkb : base.StaysIn s.heap) (hen : base.get? e = none) (hd : oe.data = .fields vs) (h1 : vs[1]? = some .none)
    (h : ∀ h', FlyD base (env :: outer) e d oe.cls .none h' → s.heap.UpToSlots h' → Q () { s with heap := h' }) : wpAny M A (leaving env (.ref e)) Q E s := by
  unfold leaving noteFrame
  simp only [hf]
  refine wpAny_bind (wpAny_bind (wpAny_field he hd h1 ?_))
  rw [if_neg (by decide)]
  exact entry_D hfr hl hf he hdd hkb hen hd (Array.getElem?_eq_some_iff.mp h1).1 fun h' x k => down_D x fun h'' y k' => h h'' y (k.trans k')
theorem note_next_D (hfr : A.frames = some (env :: outer)) (hf : env.frame = some L) (x : FlyD base (env :: outer) e d cls .none s.heap)
    (h : ∀ h', FlyD base (env :: outer) e d cls (rawInt L) h' → s.heap.UpToSlots h' → Q () { s with heap := h' }) : wpAny M A (noteFrame (.ref e) env) Q E s := by
  obtain ⟨oe, vs, T, oT, ts, he, hc, hdd, hd, h1, hnT, hTe, hT, hdT, h3⟩ := x.td
  unfold noteFrame
  simp only [hf]
  refine wpAny_bind (wpAny_field he hd h1 ?_)
  rw [if_pos (by simp : (Value.ref T != Value.none) = true)]
  refine wpAny_bind (wpAny_field hT hdT h3 ?_)
  rw [if_neg (by simp [rawInt] : ¬ ((Value.none == rawInt L) = true))]
  refine wpAny_bind (wpAny_setField hT hdT (Array.getElem?_eq_some_iff.mp h3).1 ?_)
  obtain ⟨u1, u2⟩ := upd_others (·.setIfInBounds 3 Value.none) hT hdT
  subst hc
  refine entry_D hfr (x.frames.of_keeps fun b o hb hn => ⟨o, u1 b o hb hn, rfl⟩) hf ((u2 e (Ne.symm hTe)).trans he) hdd (fun b o hb => (u2 b fun q => ?_).trans (x.stays b o hb)) x.fresh hd (Array.getElem?_eq_some_iff.mp h1).1
    fun h' y k => h h' y (Heap.UpToSlots.trans (fun b o hb hn => ⟨o.slots, u1 b o hb hn⟩) k)
  rw [q, hnT] at hb
  cases hb
theorem leave_D (K : Below A base outer g) (F : Fr g L s.heap m) (N : News g L s.heap news) (hf : env.frame = some L) (hk : env.scope.kind ≠ .module)
    (he : s.heap.get? e = some oe) (hdd : oe.dict = some d) (hd : oe.data = .fields vs) (h1 : vs[1]? = some .none) (hge : g.get? e = none) (hne : ∀ q ∈ news, q.1 ≠ e)
    (hQ : ∀ h', RaisedD base g outer e d oe.cls news h' → s.heap.UpToSlots h' → Q () { s with heap := h' }) : wpAny M (A.deeper env) (leaving env (.ref e)) Q E s := by
  have hLg : g.get? L = none := Heap.get?_none_of_le F.above
  have hF : s.heap.FunFrames base (env :: outer) := Heap.FunFrames.cons hk hf F.ns (fresh_of_stays K.stays hLg) (K.frames.of_keeps fun b o hb _ => ⟨o, F.keep b o hb, rfl⟩)
  let as := e :: (env :: outer).filterMap (·.frame)
  have hin : ∀ v ∈ env :: outer, ∀ b, v.frame = some b → b ∈ as := fun v hv b hb => List.mem_cons_of_mem _ (List.mem_filterMap.mpr ⟨v, hv, hb⟩)
  have off : ∀ b, b ∈ as → b = e ∨ base.get? b = none := fun b hb => by
    rcases List.mem_cons.mp hb with h | h
    · exact .inl h
    · exact .inr (hF.mem h).1
  have st : base.StaysIn (hideAll s.heap as) := fun b o q => hideAll_get _ (F.keep _ _ (K.stays b o q)) fun hm => by
    rcases off b hm with h | h
    · rw [h, fresh_of_stays K.stays hge] at q; cases q
    · rw [h] at q; cases q
  have hl : ∀ q ∈ news, (hideAll s.heap as).get? q.1 = some q.2 ∧ g.get? q.1 = none ∧ base.get? q.1 = none := fun q hq => by
    refine ⟨hideAll_get _ (N q hq).1 fun hm => ?_, (N q hq).2.2, fresh_of_stays K.stays (N q hq).2.2⟩
    rcases List.mem_cons.mp hm with h | h
    · exact hne q hq h
    · obtain ⟨v, hv, hvf⟩ := List.mem_filterMap.mp h
      rcases List.mem_cons.mp hv with hv | hv
      · rw [hv, hf] at hvf
        exact (N q hq).2.1 (Option.some.inj hvf).symm
      · obtain ⟨o, ho, _⟩ := (K.frames.mem (List.mem_filterMap.mpr ⟨v, hv, hvf⟩)).2
        rw [(N q hq).2.2] at ho; cases ho
  have sg : ∀ b o, g.get? b = some o → b ∉ outer.filterMap (·.frame) → (hideAll s.heap as).get? b = some o := fun b o q nm => hideAll_get _ (F.keep b o q) fun hm => by
    rcases List.mem_cons.mp hm with h | h
    · rw [h, hge] at q; cases q
    · obtain ⟨v, hv, hvf⟩ := List.mem_filterMap.mp h
      rcases List.mem_cons.mp hv with hv | hv
      · rw [hv, hf] at hvf
        rw [← Option.some.inj hvf, hLg] at q; cases q
      · exact nm (List.mem_filterMap.mpr ⟨v, hv, hvf⟩)
  refine leave_first_D (Around.frames_deeper K.stack) (funFrames_hide hF hin) hf he hdd (fun b o hb => of_hideAll _ hb) (hideAll_none _ (List.mem_cons_self)) hd h1 fun h' x k => hQ h' ⟨_, st, sg, hl, x.stays, x.fresh, ?_, x.td⟩ k
  exact x.frames.2.2
end
end

/-! part E4 -/
section
open PySem PySem.W PySem.Calls PyProof.Rows PyProof
section
variable {prog : Program} {w : World} {A : Around} {E : Value → Shared → Prop} {h : Heap} {g : Array GenState} {d : Drawn} {t : Nat} {os : OsState}
variable {nm q : Str} {C N f : Addr} {bs bm : List Value} {hdct : Bool} {sn : List Str} {sub : List Value} {ab : Bool} {col : Option Bool} {dd : Option Addr} {k0 k1 k2 k3 k5 : Option Value} {B newId initId : String} {of : Obj}
noncomputable abbrev excTup (rest : List Value) : Obj := { cls := .type "tuple", data := .seq rest.toArray }
noncomputable abbrev excNew (C t : Addr) : Obj := { cls := .ref C, data := .fields #[.ref t, .none, .none, .none, .bool false, .none] }
noncomputable abbrev excD (C t d : Addr) : Obj := { cls := .ref C, dict := some d, data := .fields #[.ref t, .none, .none, .none, .bool false, .none] }
theorem type_call_own (F : ExcBaseFacts B newId initId bm) {mN : Str → Option Value} {rest : List Value} {Q : Fin → Shared → Prop}
    (hC : h.get? C = some (excClassObj nm q C N bs bm hdct sn sub ab col dd k0 k1 k2 k3 k5 newId)) (hn : h.Ns N mN) (hni : mN "__init__" = some (.ref f)) (hfo : h.get? f = some of) (hfc : of.cls = .type "function")
    (hq : codeAny (model prog w) A (.call (.ref f) ⟨.ref (h.objs.size + 1) :: rest, []⟩) (fun r s' => match r with | .ok (.ret v) => v = .none ∧ Q (.done (.ret (.ref (h.objs.size + 1)))) s' | .ok _ => False | .error e => E e s') ⟨(h.push (excTup rest)).push (excNew C h.objs.size), g, d, t, os⟩)
    (hrest : rest.length ≤ sizeLine) :
    wpAny (model prog w) A (Builtin.«type.__call__» ⟨.ref C :: rest, []⟩) Q E ⟨h, g, d, t, os⟩ := by
  repeat (first | with_reducible refine wpAny_loadPart_at hC ?_ | with_reducible refine wpAny_madeBy_exc hC ?_ | wp_step)
  refine codeAny_call_builtin_code (Code.quiet_builtin _ F.quiet) (wpAny_check_new_sub F hC ?_)
  refine codeAny_exc_new_sub F hC ?_ hrest
  show wpAny _ _ _ _ _ _
  have hC₁ := Heap.get?_push_of_some (excNew C h.objs.size) (Heap.get?_push_of_some (excTup rest) hC)
  have hn₁ : ((h.push (excTup rest)).push (excNew C h.objs.size)).Ns N mN := let ⟨o, es, ep, e, r⟩ := hn; ⟨o, es, ep, Heap.get?_push_of_some _ (Heap.get?_push_of_some _ e), r⟩
  have hf₁ := Heap.get?_push_of_some (excNew C h.objs.size) (Heap.get?_push_of_some (excTup rest) hfo)
  have hget : ((h.push (excTup rest)).push (excNew C h.objs.size)).get? (h.objs.size + 1) = some (excNew C h.objs.size) := by heap_get
  have hcC : (Value.ref C :: bm).contains (.ref C) = true := by simp
  unfold isInstance
  repeat (first | with_reducible refine wpAny_loadPart_at hget ?_ | (with_reducible refine wpAny_isSubtype_exc hC₁ ?_; rw [hcC]) | wp_step)
  show wpAny _ _ (typeLookup (.ref C) _) _ _ _
  refine wpAny_typeLookup_exc hC₁ hn₁ F.mroIs F.init.lookup ?_
  rw [hni]
  refine wpAny_holding (wpAny_bind (wpAny_bindSpecial_def (s := ⟨(h.push (excTup rest)).push (excNew C h.objs.size), g, d, t, os⟩) hf₁ hfc ?_))
  refine wpAny_bind (wpAny_call (codeAny_mono hq fun r s' hr => ?_))
  rcases r with e | fl
  · exact hr
  · cases fl with
    | ret v =>
      obtain ⟨rfl, hr⟩ := hr
      refine wpAny_pure ?_
      show wpAny _ _ (ret _) _ _ _
      wp_walk
      exact hr
    | _ => exact hr
theorem call_own (F : ExcBaseFacts B newId initId bm) {mN : Str → Option Value} {rest : List Value} {Q : Value → Shared → Prop}
    (hC : h.get? C = some (excClassObj nm q C N bs bm hdct sn sub ab col dd k0 k1 k2 k3 k5 newId)) (hn : h.Ns N mN) (hni : mN "__init__" = some (.ref f)) (hfo : h.get? f = some of) (hfc : of.cls = .type "function")
    (hq : codeAny (model prog w) (A.under (.builtin "type.__call__" ⟨.ref C :: rest, []⟩)) (.call (.ref f) ⟨.ref (h.objs.size + 1) :: rest, []⟩) (fun r s' => match r with | .ok (.ret v) => v = .none ∧ Q (.ref (h.objs.size + 1)) s' | .ok _ => False | .error e => E e s') ⟨(h.push (excTup rest)).push (excNew C h.objs.size), g, d, t, os⟩)
    (hrest : rest.length ≤ sizeLine) :
    wpAny (model prog w) A (call (.ref C) rest) Q E ⟨h, g, d, t, os⟩ := by
  have f1 := tc_lookup
  have f2 := PySem.tc_bind (.ref C)
  have hT : (⟨h, g, d, t, os⟩ : Shared).TypeIs (.ref C) "type" := ⟨_, hC, rfl⟩
  refine wpAny_call (codeAny_of_tree ?_)
  show wpAny _ _ (callAny (.ref C) _) _ _ _
  repeat (any_goals (first | assumption | with_reducible refine wpAny_loadPart_at hC ?_ | wp_step))
  refine ⟨rfl, ?_⟩
  refine codeAny_call_builtin_at (Code.quiet_builtin _ (by decide +kernel)) entry_typeCall (wpAny_check_type_call_sub hC (type_call_own (hrest := hrest) F hC hn hni hfo hfc ?_))
  exact hq
/-- raise C(..), C's __init__ a def of its own -/
theorem raise_made {s : Shared} {env : Env} {x : Sem Value} {Q : Flow → Shared → Prop} (hbase : bm.contains (.type "BaseException") = true) (hh : A.handled = none)
    (hx : wpAny (model prog w) A x (fun v s₁ => ∃ e tt dx, v = .ref e ∧ s₁.heap.get? C = some (excClassObj nm q C N bs bm hdct sn sub ab col dd k0 k1 k2 k3 k5 newId) ∧ s₁.heap.get? e = some (excD C tt dx) ∧ E (.ref e) s₁) E s) :
    wpAny (model prog w) A (raiseStmt env (some x) none) Q E s := by
  have hcB : (Value.ref C :: bm).contains (.type "BaseException") = true := by rw [List.contains_cons, hbase, Bool.or_true]
  unfold raiseStmt
  refine wpAny_bind (wpAny_mono hx (fun v s₁ h₁ => ?_) fun _ _ x => x)
  obtain ⟨e, tt, dx, rfl, hC, he, hE⟩ := h₁
  obtain ⟨hp, g, d, tk, os⟩ := s₁
  repeat (first | with_reducible refine wpAny_loadPart_at he ?_ | with_reducible refine wpAny_loadPart_at hC ?_ | (with_reducible refine wpAny_isSubtype_exc hC ?_; rw [hcB]) | wp_step)
  exact wpAny_raiseNew_none hh hE
theorem raise_own {s : Shared} {env : Env} {x : Str} {np cpos pos : Pos} {args : List PySem.Expr} {Q : Flow → Shared → Prop} (hbase : bm.contains (.type "BaseException") = true)
    (hh : A.handled = none) (hplain : (backTo cpos (starEach args env)).any (·.1) = false)
    (hx : wpAny (model prog w) A (eval (.Name x np) env) (fun v s₁ => v = .ref C ∧ wpAny (model prog w) A (evalArgs (.ref C) true (backTo cpos (starEach args env)) [])
      (fun a s₂ => a.kw = [] ∧ s₂.heap.get? C = some (excClassObj nm q C N bs bm hdct sn sub ab col dd k0 k1 k2 k3 k5 newId) ∧
        wpAny (model prog w) A (call (.ref C) a.pos) (fun v s₃ => ∃ e tt dx, v = .ref e ∧ s₃.heap.get? C = some (excClassObj nm q C N bs bm hdct sn sub ab col dd k0 k1 k2 k3 k5 newId) ∧ s₃.heap.get? e = some (excD C tt dx) ∧ E (.ref e) s₃) E s₂) E s₁) E s) :
    wpAny (model prog w) A (exec (.Raise (some (.Call (.Name x np) args [] cpos)) none pos) env) Q E s := by
  rw [arm_exec_Raise]
  refine wpAny_bind (wpAny_standAt (raise_made (C := C) (nm := nm) (q := q) (N := N) (bs := bs) (bm := bm) (hdct := hdct) (sn := sn) (sub := sub) (ab := ab) (col := col) (dd := dd) (k0 := k0) (k1 := k1) (k2 := k2) (k3 := k3) (k5 := k5) (newId := newId) hbase hh ?_))
  refine wpAny_bind (wpAny_mono (wpAny_Call_ofName (wpAny_mono hx (fun v s₁ h₁ => ?_) fun _ _ z => z)) (fun v s₃ h₃ => wpAny_bind (wpAny_standAt (wpAny_pure h₃))) fun _ _ z => z)
  obtain ⟨rfl, h₁⟩ := h₁
  unfold callWith
  refine wpAny_bind (wpAny_holding (wpAny_mono h₁ (fun a s₂ h₂ => wpAny_bind (wpAny_standAt ?_)) fun _ _ z => z))
  obtain ⟨apos, akw⟩ := a
  obtain ⟨hkw, hC, h₂⟩ := h₂
  obtain rfl : akw = [] := hkw
  obtain ⟨hp, g, d, tk, os⟩ := s₂
  simp only [hplain]
  refine wpAny_bind (wpAny_keeperOf_exc hC ?_)
  exact wpAny_bind (wpAny_mono h₂ (fun v s₃ h₃ => wpAny_bind (wpAny_holding (wpAny_point (wpAny_pure h₃)))) fun _ _ z => z)
end
end

/-! part E6 -/
section
open PySem PySem.W PySem.Calls PyProof.Rows PyProof
section
variable {prog : Program} {w : World} {A : Around} {E : Value → Shared → Prop} {h : Heap} {g : Array GenState} {d : Drawn} {t : Nat} {os : OsState}
variable {nm q : Str} {C N f e tt : Addr} {bs bm : List Value} {hdct : Bool} {sn : List Str} {sub : List Value} {ab : Bool} {col : Option Bool} {dd : Option Addr} {k0 k1 k2 k3 k5 : Option Value} {B newId initId : String} {of : Obj}
theorem exc_init_call (F : ExcBaseFacts B newId initId bm) {rest : List Value} {Q : Value → Shared → Prop} (hC : h.get? C = some (excClassObj nm q C N bs bm hdct sn sub ab col dd k0 k1 k2 k3 k5 newId)) (he : h.get? e = some (excNew C tt))
    (hq : ∀ h' t', h'.get? e = some (excNew C t') → (∀ b o, b ≠ e → h.get? b = some o → h'.get? b = some o) → Q .none ⟨h', g, d, t, os⟩) (hrest : rest.length ≤ sizeLine) :
    wpAny (model prog w) A (call (.builtin initId) (.ref e :: rest)) Q E ⟨h, g, d, t, os⟩ := by
  refine wpAny_call (codeAny_call_builtin F.init.plain F.initEntry (wpAny_check_init_sub F hC he rfl ?_))
  wp_walk
  have hlt := Heap.lt_size he
  have he₁ := Heap.get?_push_of_some (excTup rest) he
  refine hq _ h.objs.size ?_ fun b o hb ho => ?_
  · rw [Heap.get?_update_self _ he₁ rfl]
    rfl
  · rw [Heap.get?_update_other _ _ (Ne.symm hb)]
    exact Heap.get?_push_of_some _ ho
theorem exc_init_meth {s : Shared} {h₀ : Heap} {L : Addr} {m : Str → Option Value} {K : Frag} {pl : Sem Bool} {Q : Value × List Value → Shared → Prop} (F : Fr h₀ L s.heap m) (X₀ : K.In h₀)
    (e : findCls K (.type "Exception") (.type "type") (Str.ofString "__init__") = some (.val (.builtin "Exception.__init__"))) (h : Q (.builtin "Exception.__init__", []) { s with toks := s.toks + 1 }) :
    wpAny (model prog w) A (getMethod (.type "Exception") (Str.ofString "__init__") pl) Q E s :=
  method_type F X₀ (by first | rfl | kernel_rfl) (by decide +kernel) e (by decide +kernel) h
end
end

/-! part E7 -/
section
open PySem PySem.W PySem.Calls PyProof.Rows PyProof PySem.Builtin PySem.Builtin.ObjectAttr
section
variable {prog : Program} {w : World} {A : Around} {E : Value → Shared → Prop} {h : Heap} {g : Array GenState} {d : Drawn} {t : Nat} {os : OsState}
variable {nm q : Str} {C N x tt : Addr} {bs bm : List Value} {sn : List Str} {sub : List Value} {ab : Bool} {col : Option Bool} {dd : Option Addr} {k0 k1 k2 k3 k5 : Option Value} {B newId sa owner : String}
  {mN : Str → Option Value} {name : Str} {v : Value}
/-- the first field of an exception: its dict is made -/
theorem first_entry {tk : Tok} {Q : Fin → Shared → Prop} (SF : StoreFacts B bm sa owner)
    (hC : h.get? C = some (excClassObj nm q C N bs bm true sn sub ab col dd k0 k1 k2 k3 k5 newId)) (hn : h.Ns N mN) (hna : mN name = none) (hB : typeLookup (.type B) name = pure none) (hx : h.get? x = some (excNew C tt))
    (hq : ∀ h' tk' dx, h'.get? x = some (excD C tt dx) → h'.Ns1 dx (fun y => if y = name then some v else none) → h.get? dx = none → dx ≠ x → (∀ b o, b ≠ x → h.get? b = some o → h'.get? b = some o) → Q (.done (.ret .none)) ⟨h', g, d, tk', os⟩) :
    wpAny (model prog w) A (Builtin.«object.__setattr__» ⟨[.ref x, .str name tk, v], []⟩) Q E ⟨h, g, d, t, os⟩ := by
  have hpass := SF.passes (.ref x)
  obtain ⟨o, ho⟩ : ∃ o, o = excNew C tt := ⟨_, rfl⟩
  have hc : o.cls = .ref C := by rw [ho]
  have hdn : o.dict = none := by rw [ho]
  have hdat : o.data = .fields #[.ref tt, .none, .none, .none, .bool false, .none] := by rw [ho]
  have hx0 := hx
  rw [← ho] at hx
  unfold Builtin.«object.__setattr__»
  repeat (first | rw [refuse_eq] | (rw [refuseLoop_ref, hpass]) | (with_reducible refine wpAny_loadPart_at hx ?_; rw [hc]) | with_reducible refine wpAny_mroOf_exc hC ?_ | (with_reducible refine wpAny_typeLookup_exc hC hn SF.mro hB ?_; rw [hna]) | wp_step)
  rw [hdn, if_neg (by simp [typeHasDict]), hdat]
  have hx₁ : (h.push { cls := .type "dict", data := .dict #[] }).get? x = some o := Heap.get?_push_of_some _ hx
  have hxs : x ≠ h.objs.size := Nat.ne_of_lt (Heap.lt_size hx)
  refine wpAny_bind (wpAny_alloc' ?_)
  refine wpAny_bind (wpAny_update' hx₁ ?_)
  refine wpAny_pure ?_
  generalize hH : ((h.push { cls := .type "dict", data := .dict #[] }).update x fun o => { cls := o.cls, dict := some h.objs.size, data := o.data, slots := o.slots }) = H
  have gx : H.get? x = some (excD C tt h.objs.size) := by
    rw [← hH, Heap.get?_update_self _ hx₁ (by rw [ho]; rfl), ho]
  have others : ∀ b, b ≠ x → H.get? b = (h.push { cls := .type "dict", data := .dict #[] }).get? b := fun b hb => by
    rw [← hH]; exact Heap.get?_update_ne _ _ _ _ hb
  have hnd : H.Ns h.objs.size (fun _ => none) := ⟨_, #[], _, (others _ hxs.symm).trans (Heap.get?_push_at rfl rfl), rfl, fun e he => absurd he (by simp), fun _ => rfl⟩
  show wpAny _ _ (storeInDict h.objs.size (.str name tk) name v) _ _ _
  unfold storeInDict newKeyGuard
  refine wpAny_bind (wpAny_pure (wpAny_bind (wpAny_nsSet1 (Heap.Ns1.of_empty hnd) fun h' hn' hs => ?_)))
  obtain ⟨oD, esD, epD, hoD, hdD, hcD⟩ := hn'.count (Within.cons name v Within.nil)
  refine wpAny_bind (wpAny_lookBehind hoD (by rw [hdD]; exact pastItsLine_dict (Nat.le_trans hcD (by rw [List.length_cons, List.length_nil, sizeLine_eq]; omega))) ?_)
  wp_walk
  refine hq h' _ h.objs.size ((hs.2 x hxs).trans gx) hn' (Heap.get?_none_of_le (Nat.le_refl _)) hxs.symm fun b ob hbx hb => ?_
  exact (hs.2 b (Nat.ne_of_lt (Heap.lt_size hb))).trans ((others b hbx).trans (Heap.get?_push_of_some _ hb))
end
end

/-! part E8 -/
section
open PySem PySem.W PySem.Calls PyProof.Rows PyProof PySem.Builtin PySem.Builtin.ObjectAttr
section
variable {prog : Program} {w : World} {A : Around} {E : Value → Shared → Prop} {h : Heap} {g : Array GenState} {d : Drawn} {t : Nat} {os : OsState}
variable {nm q : Str} {C N x tt : Addr} {bs bm : List Value} {sn : List Str} {sub : List Value} {ab : Bool} {col : Option Bool} {dd : Option Addr} {k0 k1 k2 k3 k5 : Option Value} {B newId sa owner : String}
  {mN : Str → Option Value} {name : Str} {v : Value}
theorem first_attr {Q : Unit → Shared → Prop} (SF : StoreFacts B bm sa owner)
    (hC : h.get? C = some (excClassObj nm q C N bs bm true sn sub ab col dd k0 k1 k2 k3 k5 newId)) (hn : h.Ns N mN) (hns : mN "__setattr__" = none) (hna : mN name = none) (hB : typeLookup (.type B) name = pure none) (hx : h.get? x = some (excNew C tt))
    (hq : ∀ h' tk' dx, h'.get? x = some (excD C tt dx) → h'.Ns1 dx (fun y => if y = name then some v else none) → h.get? dx = none → dx ≠ x → (∀ b o, b ≠ x → h.get? b = some o → h'.get? b = some o) → Q () ⟨h', g, d, tk', os⟩) :
    wpAny (model prog w) A (setAttr (.ref x) name v) Q E ⟨h, g, d, t, os⟩ := by
  have hc : (excNew C tt).cls = .ref C := rfl
  have f3 := SF.slot.bind (.ref x)
  unfold setAttr callSpecial? specialOf
  repeat (any_goals (first | assumption | (with_reducible refine wpAny_loadPart_at hx ?_; rw [hc]) | (with_reducible refine wpAny_typeLookup_exc hC hn SF.mro SF.slot.lookup ?_; rw [hns]) | wp_step))
  refine codeAny_call_builtin SF.slot.plain SF.entry (wpAny_check_sa SF hC hx hc (first_entry SF hC hn hna hB hx fun h' tk' dx a1 a2 a3 a4 a5 => ?_))
  repeat (any_goals (first | assumption | wp_step))
  exact hq h' tk' dx a1 a2 a3 a4 a5
end
theorem fillE8 : (∀ w : World, Mine.hd0.heap_1 w.params = Mine.hd0.heap_1 w.params) ∧ PySem.Challenge.rw_tk0090_01 = PySem.Challenge.rw_tk0090_01 := by
  k_fill
  exact ⟨fun _ => rfl, rfl⟩
noncomputable def DNs (od : Obj) (mA : Str → Option Value) : Prop := ∃ es ep, od.data = .dict es ep ∧ StrKeys es ∧ UniqKeys es ∧ ∀ n, nsFind es n = mA n
section
variable {w : World} {A : Around} {E : Value → Shared → Prop} {s : Shared} {h₀ : Heap} {L e tt dx : Addr} {m : Str → Option Value} {Z : Led} {name : Str} {v : Value} {Q : Unit → Shared → Prop} {od : Obj} {mA : Str → Option Value}
theorem qe_obj {h : Heap} (X : (Mine.hd0.heap_1 w.params).In h) : ∃ k0 k1 k2 k3 k5 sn sub ab col dd, h.get? 31 = some (excClassObj (Str.ofString "QuicError") (Str.ofString "QuicError") 31 30 [.type "Exception"] [.type "Exception", .type "BaseException", .type "object"] true sn sub ab col dd k0 k1 k2 k3 k5 "Exception.__new__") :=
  ⟨_, _, _, _, _, _, _, _, _, _, X 31 _ (by k_is)⟩
theorem qe_ns {h : Heap} (X : (Mine.hd0.heap_1 w.params).In h) : h.Ns 30 (h.nsMap 30) := .of_isNs (isNs_of_in X (by with_unfolding_all rfl))
theorem qe_none {h : Heap} {x : Str} (X : (Mine.hd0.heap_1 w.params).In h) (q : nsIn (Mine.hd0.heap_1 w.params) 30 x = some none) : h.nsMap 30 x = none := nsMap_none_of_in X (by with_unfolding_all rfl) q
end
end

/-! part E9 -/
section
open PySem PySem.W PySem.Calls PyProof.Rows PyProof PySem.Builtin PySem.Builtin.ObjectAttr
theorem fillE9 : (∀ w : World, Mine.hd0.heap_1 w.params = Mine.hd0.heap_1 w.params) ∧ PySem.Challenge.rw_tk0090_01 = PySem.Challenge.rw_tk0090_01 := by
  k_fill
  exact ⟨fun _ => rfl, rfl⟩
theorem fr_but {h₀ h h' : Heap} {L e : Addr} {m : Str → Option Value} (F : Fr h₀ L h m) (hL : e ≠ L) (h0 : h₀.get? e = none) (k : ∀ b o, b ≠ e → h.get? b = some o → h'.get? b = some o) : Fr h₀ L h' m := by
  obtain ⟨o, es, ep, ho, r⟩ := F.ns
  refine ⟨⟨o, es, ep, k _ _ (Ne.symm hL) ho, r⟩, fun b x hb => k b x (fun q => ?_) (F.keep b x hb), F.above⟩
  rw [q, h0] at hb
  cases hb
theorem news_but' {h₀ h h' : Heap} {L e : Addr} {Z : Led} (N : News h₀ L h Z) (hne : ∀ p ∈ Z, p.1 ≠ e) (k : ∀ b o, b ≠ e → h.get? b = some o → h'.get? b = some o) : News h₀ L h' Z :=
  fun p hp => ⟨k _ _ (hne p hp) (N p hp).1, (N p hp).2⟩
section
variable {w : World} {A : Around} {E : Value → Shared → Prop} {s : Shared} {h₀ : Heap} {L e tt dx : Addr} {m : Str → Option Value} {Z : Led} {name : Str} {v : Value} {od : Obj} {mA : Str → Option Value}
theorem init_led {rest : List Value} {Q : Value → Shared → Prop} (F : Fr h₀ L s.heap m) (X : (Mine.hd0.heap_1 w.params).In h₀) (N : News h₀ L s.heap ((e, excNew 31 tt) :: Z)) (hne : ∀ p ∈ Z, p.1 ≠ e) (hrest : rest.length ≤ 1000)
    (h : ∀ h' t', Fr h₀ L h' m → News h₀ L h' ((e, excNew 31 t') :: Z) → Q .none { s with heap := h' }) : wpAny (model PR w) A (call (.builtin "Exception.__init__") (.ref e :: rest)) Q E s := by
  obtain ⟨_, _, _, _, _, _, _, _, _, _, hC⟩ := qe_obj (X.keeps F.keep)
  have z := N _ (List.Mem.head _)
  refine exc_init_call PySem.F.excBase_Exception hC z.1 (fun h' t' a1 a2 => ?_) (by rw [sizeLine_eq]; omega)
  refine h h' t' (fr_but F z.2.1 z.2.2 a2) fun p hp => ?_
  rcases List.mem_cons.mp hp with hp | hp
  · rw [hp]; exact ⟨a1, z.2⟩
  · exact news_but' (fun p hp => N p (.tail _ hp)) hne a2 p hp
theorem set1_led {Q : Unit → Shared → Prop} (F : Fr h₀ L s.heap m) (X : (Mine.hd0.heap_1 w.params).In h₀) (N : News h₀ L s.heap ((e, excNew 31 tt) :: Z)) (hne : ∀ p ∈ Z, p.1 ≠ e) (hna : nsIn (Mine.hd0.heap_1 w.params) 30 name = some none) (hB : typeLookup (.type "Exception") name = pure none)
    (h : ∀ h' tk' dx od, Fr h₀ L h' m → News h₀ L h' ((e, excD 31 tt dx) :: (dx, od) :: Z) → DNs od (fun y => if y = name then some v else none) → (∀ p ∈ Z, p.1 ≠ dx) → dx ≠ e → Q () { s with heap := h', toks := tk' }) : wpAny (model PR w) A (setAttr (.ref e) name v) Q E s := by
  have X' := X.keeps F.keep
  obtain ⟨_, _, _, _, _, _, _, _, _, _, hC⟩ := qe_obj X'
  have z := N _ (List.Mem.head _)
  refine first_attr PySem.F.store_Exception hC (qe_ns X') (qe_none X' (by with_unfolding_all rfl)) (qe_none X' hna) hB z.1 (fun h' tk' dx a1 a2 a3 a4 a5 => ?_)
  obtain ⟨od, es, ep, b1, b2, b3, b4, b5⟩ := a2
  have dL : dx ≠ L := fun q => by
    obtain ⟨o, _, _, ho, _⟩ := F.ns
    rw [← q, a3] at ho; cases ho
  have d0 : h₀.get? dx = none := by
    cases hq : h₀.get? dx with
    | none => rfl
    | some o => have := F.keep dx o hq; rw [a3] at this; cases this
  refine h h' tk' dx od (fr_but F z.2.1 z.2.2 a5) (fun p hp => ?_) ⟨es, ep, b2, b3, b4, b5⟩ (fun p hp q => ?_) a4
  · rcases List.mem_cons.mp hp with hp | hp
    · rw [hp]; exact ⟨a1, z.2⟩
    · rcases List.mem_cons.mp hp with hp | hp
      · rw [hp]; exact ⟨b1, dL, d0⟩
      · exact news_but' (fun p hp => N p (.tail _ hp)) hne a5 p hp
  · have := (N p (.tail _ hp)).1
    rw [q, a3] at this; cases this
theorem set2_led {ns : List Str} {Q : Unit → Shared → Prop} (F : Fr h₀ L s.heap m) (X : (Mine.hd0.heap_1 w.params).In h₀) (N : News h₀ L s.heap ((e, excD 31 tt dx) :: (dx, od) :: Z)) (D : DNs od mA) (hne : ∀ p ∈ Z, p.1 ≠ e) (hnd : ∀ p ∈ Z, p.1 ≠ dx) (hde : dx ≠ e)
    (hna : nsIn (Mine.hd0.heap_1 w.params) 30 name = some none) (hB : typeLookup (.type "Exception") name = pure none) (hw : Within mA ns) (hsz : ns.length ≤ 100)
    (h : ∀ h' tk' od', Fr h₀ L h' m → News h₀ L h' ((e, excD 31 tt dx) :: (dx, od') :: Z) → DNs od' (fun y => if y = name then some v else mA y) → Q () { s with heap := h', toks := tk' }) : wpAny (model PR w) A (setAttr (.ref e) name v) Q E s := by
  have X' := X.keeps F.keep
  obtain ⟨_, _, _, _, _, _, _, _, _, _, hC⟩ := qe_obj X'
  have z := N _ (List.Mem.head _)
  have zd := N _ (List.Mem.tail _ (List.Mem.head _))
  obtain ⟨es, ep, b2, b3, b4, b5⟩ := D
  have e31 : e ≠ 31 := fun q => by
    have := hC
    rw [← q, z.1] at this
    exact absurd (congrArg Obj.cls (Option.some.inj this)) (by intro q; cases q)
  have I : s.heap.Inst e 31 mA := ⟨_, z.1, rfl, (fun c q => by cases q), .inr ⟨dx, rfl, hde, ⟨od, es, ep, zd.1, b2, b3, b4, b5⟩⟩⟩
  refine store_attr PySem.F.store_Exception hC (qe_ns X') (qe_none X' (by with_unfolding_all rfl)) (qe_none X' hna) hB e31 I (fun h' tk' I' k1 k2 => ?_) hw (by rw [sizeLine_eq]; omega)
  obtain ⟨o₁, c1, c2, c3, c4, c5⟩ := k2 _ z.1
  have c6 := c5 dx rfl
  have ho₁ : o₁ = excD 31 tt dx := by
    obtain ⟨x1, x2, x3, x4⟩ := o₁
    cases c2; cases c3; cases c4; cases c6
    rfl
  subst ho₁
  have kk : ∀ b o, b ≠ e → b ≠ dx → s.heap.get? b = some o → h'.get? b = some o := fun b o h1 h2 hb => k1 b o h1 (fun o₀ d₀ q1 q2 q => by
    rw [z.1] at q1
    cases q1
    cases q2
    exact h2 q) hb
  obtain ⟨o₂, g1, g2, g3, g4⟩ := I'
  rw [c1] at g1
  cases g1
  rcases g4 with ⟨g4, _⟩ | ⟨d₂, g4, g5, g6⟩
  · cases g4
  · cases g4
    obtain ⟨od', es', ep', f1, f2, f3, f4, f5⟩ := g6
    have F' : Fr h₀ L h' m := by
      obtain ⟨o, es, ep, ho, r⟩ := F.ns
      refine ⟨⟨o, es, ep, kk _ _ (Ne.symm z.2.1) (Ne.symm zd.2.1) ho, r⟩, fun b x hb => kk b x (fun q => ?_) (fun q => ?_) (F.keep b x hb), F.above⟩
      · rw [q, z.2.2] at hb; cases hb
      · rw [q, zd.2.2] at hb; cases hb
    refine h h' tk' od' F' (fun p hp => ?_) ⟨es', ep', f2, f3, f4, f5⟩
    rcases List.mem_cons.mp hp with hp | hp
    · rw [hp]; exact ⟨c1, z.2⟩
    · rcases List.mem_cons.mp hp with hp | hp
      · rw [hp]; exact ⟨f1, zd.2⟩
      · exact ⟨kk _ _ (hne p hp) (hnd p hp) (N p (.tail _ (.tail _ hp))).1, (N p (.tail _ (.tail _ hp))).2⟩
end
end

section
local macro_rules | `(tactic| mod_arm) => `(tactic| first | with_reducible assumption | with_reducible exact put_self | with_reducible exact (put_ne (by first | (with_unfolding_all exact ne_ix rfl) | (with_unfolding_all exact ne_rk rfl) | (with_unfolding_all exact ne_fk rfl) | simp)).trans (by mod_arm))
local macro_rules | `(tactic| k_mem) => `(tactic| first | exact mem_O (by mod_arm) | exact mem_W (by k_mem))
local macro_rules | `(tactic| k_upd) => `(tactic| exact upd_O (by assumption) (by mod_arm))
local macro_rules | `(tactic| k_tabat) => `(tactic| (refine mem_W ?_; first | assumption | exact .head _ | exact .tail _ (by assumption) | exact .tail _ (.head _) | exact .tail _ (.tail _ (.head _)) | exact .tail _ (.tail _ (.tail _ (.head _))) | exact .tail _ (.tail _ (.tail _ (.tail _ (.head _)))) | exact .tail _ (.tail _ (.tail _ (.tail _ (.tail _ (.head _)))))))
local macro_rules | `(tactic| ktr_room) => `(tactic| with_reducible first | (refine' roomK ?k1 ?k2; (case k1 => assumption); (case k2 => with_unfolding_all exact Eq.refl true)) | (refine' roomK0 ?k1; (case k1 => assumption)) | fail "no room")
local macro_rules | `(tactic| ktr_units) => `(tactic| with_reducible first | (refine' unitK ?k1 ?k2; (case k1 => assumption); (case k2 => with_unfolding_all exact Eq.refl true)) | fail "no units")
local macro_rules | `(tactic| ktr_member) => `(tactic| first
  | ((with_reducible show wpAny _ _ (subscriptTail _ _ (Value.ref _) (Value.int 0 _)) _ _ _); k_dflt (refine' sub_two0 ?k1 ?k2 ?_ ?k4; (case k1 => k_asm); (case k2 => exact mem_O (by mod_arm)); (case k4 => with_unfolding_all rfl); k_whole))
  | ((with_reducible show wpAny _ _ (subscriptTail _ _ (Value.ref _) (Value.int 1 _)) _ _ _); k_dflt (refine' sub_two1 ?k1 ?k2 ?_ ?k4; (case k1 => k_asm); (case k2 => exact mem_O (by mod_arm)); (case k4 => with_unfolding_all rfl); k_whole))
  | ((with_reducible show wpAny _ _ (setItem (Value.ref _) (Value.int 1 _) _) _ _ _); k_dflt (refine' set_two1 ?k1 ?k2 ?k3 ?k4 ?_; (case k1 | k2 => k_asm); (case k3 => assumption); (case k4 => mod_arm); k_whole; intro h' F' N'; (try k_sweep)))
  | ((with_reducible show wpAny _ _ (call (Value.builtin "list.append") [Value.ref _, _]) _ _ _); k_dflt (refine' app_led ?k1 ?k2 ?k3 ?k4 ?k5 ?_; (case k1 | k2 => k_asm); (case k3 => assumption); (case k4 => mod_arm); (case k5 => omega); k_whole; intro h' F' N'; (try k_sweep)))
  | ((with_reducible show wpAny _ _ (call (Value.builtin "len") [Value.ref _]) _ _ _); k_dflt (refine' len_il ?k1 ?k2 ?k3 ?k4 ?_; (case k1 => k_asm); (case k2 => exact mem_O (by mod_arm)); (case k3 => assumption); (case k4 => omega); k_whole))
  | ((with_reducible show wpAny _ _ (call (Value.builtin "len") [Value.ref _]) _ _ _); k_dflt (refine' len_vals ?k1 ?k2 ?k3 ?_; (case k1 => k_asm); (case k2 => first | exact mem_O (by mod_arm) | k_tabat); (case k3 => omega); k_whole))
  | ((with_reducible show wpAny _ _ (getItem (Value.ref _) (Value.int _ _)) _ _ _); k_dflt (refine' get_pairL ?k1 ?k2 _ ?k3 ?_; (case k1 => k_asm); (case k2 => exact mem_O (by mod_arm)); (case k3 => ktn_open); k_whole))
  | ((with_reducible show wpAny _ _ (setItem (Value.ref _) (Value.int _ _) (Value.int _ _)) _ _ _); k_dflt (refine' set_rowI ?k1 ?k2 ?k3 _ ?k4 ?k5 ?_; (case k1 | k2 => k_asm); (case k3 => assumption); (case k4 => mod_arm); (case k5 => ktn_open); k_whole; intro h' F' N'; (try k_sweep)))
  | ((with_reducible show wpAny _ _ (setItem (Value.ref _) (Value.int _ _) (Value.bool _)) _ _ _); k_dflt (refine' set_rowB ?k1 ?k2 ?k3 _ ?k4 ?k5 ?_; (case k1 | k2 => k_asm); (case k3 => assumption); (case k4 => mod_arm); (case k5 => ktn_open); k_whole; intro h' F' N'; (try k_sweep)))
  | ((with_reducible show wpAny _ _ (subscriptTail _ _ (Value.ref _) (Value.int _ _)) _ _ _); k_dflt (refine' sub_ints ?k1 ?k2 ?k3 ?k4 ?k5 ?k6 ?_ ?k7; (case k1 => k_asm); (case k2 => first | exact mem_O (by mod_arm) | k_tabat); (case k3 => assumption); (case k4 | k5 | k6 => omega); (case k7 => with_unfolding_all rfl); k_whole; intro t'))
  | ((with_reducible show wpAny _ _ (subscriptTail _ _ (Value.ref _) (Value.int _ _)) _ _ _); k_dflt (first
    | (refine' sub_pairL ?k1 ?k2 _ ?k3 ?_ ?k4; (case k1 => k_asm); (case k2 => exact mem_O (by mod_arm)); (case k3 => ktn_open); (case k4 => with_unfolding_all rfl); k_whole)
    | (refine' sub_pairT ?k1 ?k2 _ ?k3 ?_ ?k4 ?k5; (case k1 => k_asm); (case k2 => exact mem_O (by mod_arm)); (case k3 => ktn_open); (case k4 => with_unfolding_all rfl); (case k5 => (intro _; with_unfolding_all rfl)); k_whole)))
  | ((with_reducible show (if _ then _ else _)); first | with_reducible refine PySem.W.ite_pos (Eq.refl true) ?_ | with_reducible refine PySem.W.ite_neg Bool.false_ne_true ?_ | refine PySem.W.ite_pos (by assumption) ?_ | refine PySem.W.ite_neg (by assumption) ?_)
  | ((with_reducible show wpAny _ _ (compareOp CmpOp.NotIn (Value.str (Kd.str _) _) (Value.ref 35)) _ _ _); k_dflt (refine' notin35k ?k1 ?k2 ?_; (case k1 | k2 => k_asm); k_whole))
  | ((with_reducible show wpAny _ _ (compareOp CmpOp.NotIn (Value.str _ _) (Value.ref 35)) _ _ _); k_dflt (refine' notin35 ?k1 ?k2 ?_; (case k1 | k2 => k_asm); k_whole))
  | ((with_reducible show wpAny _ _ (storeName _ _ _) _ _ _); k_dflt (refine' st_c1 ?k1 ?k2 ?k3 ?k4 ?k5 ?k6 ?k7 ?k8 ?k9 ?_ ?c1 ?c2; (case c1 | c2 => rfl); (case k1 | k2 => k_asm); (case k3 | k4 | k5 => assumption); (case k6 => exact ne21 _); (case k7 => exact lt2 _); (case k8 => rfl); (case k9 => assumption); k_whole; intro h' o' F' N' hl' d'; (try k_sweep)))
  | ((with_reducible show wpAny _ _ (eval (Expr.Name _ _) (compEnvC _ _ _ _)) _ _ _); k_dflt (first
    | (refine' LCgL.ld_own ?k1 ?k2 ?k3 ?k4 ?_ ?ka ?kb ?kc; (case ka | kb => rfl); (case kc => decide); (case k3 => assumption); (case k1 => k_asm); (case k2 => k_tabat); (case k4 => assumption); k_whole)
    | (refine' lcf_cell ?k1 ?k2 ?k3 ?k4 ?_ ?ka ?kb ?kc; (case ka | kb => rfl); (case kc => decide); (case k1 => k_asm); (case k2 => rfl); (case k3 => k_tabat); (case k4 => assumption); k_whole)
    | (refine' lcf_free ?k1 ?k2 ?k3 ?k4 ?_ ?ka ?kb ?kc ?kd; (case ka | kb => rfl); (case kc | kd => decide); (case k1 => k_asm); (case k2 => rfl); (case k3 => k_tabat); (case k4 => assumption); k_whole)
    | (refine' LCgL.ld_global ?k1 ?k2 ?k3 ?k4 ?_ ?k5 ?k6 ?k7; (case k5 | k6 | k7 => rfl); (case k1 | k2 | k3 => k_asm); (case k4 => k_is); k_whole)))
  | ((with_reducible show wpAny _ _ (eval (Expr.Name _ _) _) _ _ _); k_dflt (refine' nameX_C ?k1 ?k2 ?k3 ?k4 ?_ ?ka ?kb ?kc; (case ka | kb => rfl); (case kc => decide); (case k1 => k_asm); (case k2 => rfl); (case k3 => k_tabat); (case k4 => assumption); k_whole))
  | ((with_reducible show wpAny _ _ (newTuple _) _ _ _); k_dflt (refine' new_tup ?k1 ?k2 ?k3 ?k4 ?_; (case k1 | k2 => k_asm); (case k3 => assumption); (case k4 => exact Nat.le_of_ble_eq_true rfl); k_whole; intro t' h' F' N' hl'; (try k_sweep)))
  | ((with_reducible show wpAny _ _ (newList _) _ _ _); k_dflt (refine' new_list ?k1 ?k2 ?k3 ?k4 ?_; (case k1 | k2 => k_asm); (case k3 => assumption); (case k4 => exact Nat.le_of_ble_eq_true rfl); k_whole; intro t' h' F' N' hl'; (try k_sweep)))
  | ((with_reducible show wpAny _ _ (unpackItems (Value.ref _) _ none) _ _ _); k_dflt (first
    | (refine' unpack_drop ?k1 ?k2 ?k3 ?k4 ?_; (case k1 | k2 => k_asm); (case k3 | k4 => exact rfl); k_whole; intro h' F' N'; (try k_sweep))
    | (refine' unpack_word ?k1 ?k2 ?k5 ?k3 ?k4 ?_; (case k1 | k2 => k_asm); (case k5 => assumption); (case k3 | k4 => exact rfl); k_whole; intro h' F' N'; (try k_sweep))))
  | ((with_reducible show wpAny _ _ (subscriptTail _ _ (Value.ref _) (Value.str (Str.ofString _) _)) _ _ _); k_dflt (refine' kda_item (knd := PySem.strKind _ _) ?k1 ?k2 ?k3 (strKind_is _ _ _ _) ?k5 ?_ ?k6 ?k7; (case k1 => k_asm); (case k2 => exact mem_O (by mod_arm)); (case k3 => assumption); (case k5 => with_reducible first | exact va_first | exact va_wire | exact va_known | exact va_opened | exact va_heard | exact va_told | exact va_over | exact va_lost); (case k6 => with_unfolding_all rfl); (case k7 => (intro _; with_unfolding_all rfl)); k_whole))
  | ((with_reducible show wpAny _ _ (compareOp CmpOp.Eq (Value.ref _) (Value.ref _)) _ _ _); k_dflt (refine' eq_led ?k1 ?k2 ?k3 ?k4 ?k5 ?k6 ?_; (case k1 => k_asm); (case k2 => k_tabat); (case k3 => first | assumption | exact .nil); (case k4 => k_tabat); (case k5 => first | assumption | exact .nil); (case k6 => ktr_units); k_whole))
  | ((with_reducible show wpAny _ _ (compareOp CmpOp.NotEq (Value.ref _) (Value.ref _)) _ _ _); k_dflt (refine' ne_led ?k1 ?k2 ?k3 ?k4 ?k5 ?k6 ?_; (case k1 => k_asm); (case k2 => k_tabat); (case k3 => first | assumption | exact .nil); (case k4 => k_tabat); (case k5 => first | assumption | exact .nil); (case k6 => ktr_units); k_whole))
  | ((with_reducible show wpAny _ _ (exec (Stmt.Assign [Expr.Name _ _] (Expr.ListComp _ _ _ _) _) _) _ _ _); k_dflt (refine LCg.Assign_ListComp_U (F₀ := by k_asm) (by rfl) (by with_unfolding_all rfl) (by with_unfolding_all rfl) (by decide) (by rfl) (by decide) (by rfl) (by rfl) (by rfl) ?_))
  | ((with_reducible show wpAny _ _ (assign (Expr.Tuple _ _ _) _ (Value.ref _)) _ _ _); k_dflt (first
    | (refine' asg_drop ?k1 ?k2 ?k3 ?k4 ?k5 ?_; (case k1 | k2 => k_asm); (case k3 | k4 | k5 => exact rfl); k_whole; intro h' F' N'; (try k_sweep))
    | (refine' asg_word ?k1 ?k2 ?k6 ?k3 ?k4 ?k5 ?_; (case k1 | k2 => k_asm); (case k6 => assumption); (case k3 | k4 | k5 => exact rfl); k_whole; intro h' F' N'; (try k_sweep))))
  | fail "no own step")
theorem fillJ : (∀ w : World, Mine.hd0.heap_1 w.params = Mine.hd0.heap_1 w.params) ∧ PySem.Challenge.rw_tk0090_01 = PySem.Challenge.rw_tk0090_01 := by
  k_fill
  exact ⟨fun _ => rfl, rfl⟩
local macro_rules | `(tactic| ktn_open) => `(tactic| first | rfl | exact b2i_not _ | exact (rfl : _ = b2i false) | exact (rfl : _ = b2i true))

/-! part B3 -/
section

theorem bool_end {Q : Value → Shared → Prop} {b c : Bool} {st : Shared} (h : b = c) (k : Q (.bool c) st) : Q (.bool b) st := h ▸ k
theorem int_end {Q : Value → Shared → Prop} {b c : Int} {t : Tok} {st : Shared} (h : b = c) (k : Q (.int c t) st) : Q (.int b t) st := h ▸ k
theorem str_end {Q : Value → Shared → Prop} {b c : Str} {t : Tok} {st : Shared} (h : b = c) (k : Q (.str c t) st) : Q (.str b t) st := h ▸ k

theorem sid_num {n : Int} {e s : Bool} : Int.fdiv (sidOf n e s) 4 = n := by
  unfold sidOf
  rw [Int.fdiv_eq_ediv_of_nonneg _ (by decide)]
  cases e <;> cases s <;> simp [b2i] <;> omega
theorem sid_uni {n : Int} {e s : Bool} : (Int.fmod (Int.fdiv (sidOf n e s) 2) 2 == 1) = s := by
  unfold sidOf
  rw [Int.fdiv_eq_ediv_of_nonneg _ (by decide), Int.fmod_eq_emod_of_nonneg _ (by decide)]
  cases e <;> cases s <;> simp [b2i] <;> omega
theorem sid_odd {n : Int} {e s : Bool} : (Int.fmod (sidOf n e s) 2 == 1) = e := by
  unfold sidOf
  rw [Int.fmod_eq_emod_of_nonneg _ (by decide)]
  cases e <;> cases s <;> simp [b2i] <;> omega

theorem c_num (w : World) (lay : Slot → Addr) (W : Led) (O : Slot → Obj) (hl : Lay lay W) (n : Int) (e u : Bool) (t : Tok) :
    Fn w 50 1 [.int (sidOf n e u) t] lay W O (fun r W' O' => (∃ t', r = .int n t') ∧ W = W' ∧ O = O') := by
  unfold Fn
  intro p loose mean mg mb dp un gd cn cs a ccd cl outer A₀ base h₀ L m s Q E B F X N T hk hd hu ret
  refine wpAny_call ?_
  k_dflt ktr_enter
  repeat' (first | (k_unfold; (try dsimp only)) | ktr_member | walk1 | (dsimp only; walk1))
  refine int_end sid_num (ret _ W O _ _ (by k_asm) (by k_asm) hl (fun _ h => h) ⟨⟨_, rfl⟩, rfl, rfl⟩)
theorem c_uni (w : World) (lay : Slot → Addr) (W : Led) (O : Slot → Obj) (hl : Lay lay W) (n : Int) (e u : Bool) (t : Tok) :
    Fn w 64 1 [.int (sidOf n e u) t] lay W O (fun r W' O' => r = .bool u ∧ W = W' ∧ O = O') := by
  unfold Fn
  intro p loose mean mg mb dp un gd cn cs a ccd cl outer A₀ base h₀ L m s Q E B F X N T hk hd hu ret
  refine wpAny_call ?_
  k_dflt ktr_enter
  repeat' (first | (k_unfold; (try dsimp only)) | ktr_member | walk1 | (dsimp only; walk1))
  refine bool_end sid_uni (ret _ W O _ _ (by k_asm) (by k_asm) hl (fun _ h => h) ⟨rfl, rfl, rfl⟩)
theorem c_opener (w : World) (lay : Slot → Addr) (W : Led) (O : Slot → Obj) (hl : Lay lay W) (n : Int) (e u : Bool) (t : Tok) :
    Fn w 57 1 [.int (sidOf n e u) t] lay W O (fun r W' O' => (∃ t', r = .str (roleS e) t') ∧ W = W' ∧ O = O') := by
  unfold Fn
  intro p loose mean mg mb dp un gd cn cs a ccd cl outer A₀ base h₀ L m s Q E B F X N T hk hd hu ret
  refine wpAny_call ?_
  k_dflt ktr_enter
  have hodd := @sid_odd n e u
  generalize sidOf n e u = sid at *
  cases e
  · repeat' (first | (k_unfold; (try dsimp only)) | ktr_member | walk1 | (dsimp only; walk1))
    exact ret _ W O _ _ (by k_asm) (by k_asm) hl (fun _ h => h) ⟨⟨_, rfl⟩, rfl, rfl⟩
  · repeat' (first | (k_unfold; (try dsimp only)) | ktr_member | walk1 | (dsimp only; walk1))
    exact ret _ W O _ _ (by k_asm) (by k_asm) hl (fun _ h => h) ⟨⟨_, rfl⟩, rfl, rfl⟩
theorem c_sid (w : World) (lay : Slot → Addr) (W : Led) (O : Slot → Obj) (hl : Lay lay W) (n : Int) (e u : Bool) (t t2 : Tok) :
    Fn w 43 1 [.int n t, .str (roleS e) t2, .bool u] lay W O (fun r W' O' => (∃ t', r = .int (sidOf n e u) t') ∧ W = W' ∧ O = O') := by
  cases e <;> cases u <;> dsimp only [roleS]
  all_goals
    unfold Fn
    intro p loose mean mg mb dp un gd cn cs a ccd cl outer A₀ base h₀ L m s Q E B F X N T hk hd hu ret
    refine wpAny_call ?_
    k_dflt ktr_enter
    repeat' (first | (k_unfold; (try dsimp only)) | ktr_member | walk1 | (dsimp only; walk1))
    refine int_end (by simp [sidOf, b2i]) (ret _ W O _ _ (by k_asm) (by k_asm) hl (fun _ h => h) ⟨⟨_, rfl⟩, rfl, rfl⟩)
end


local macro_rules | `(tactic| ktr_member) => `(tactic| ((with_reducible show wpAny _ _ (call (Value.ref 50) _) _ _ _); k_dflt (refine' Fn.use ?k1 ?k2 ?k3 ?k4 ?k5 ?kK (c_num _ _ _ _ ?kl _ _ _ _) ?kd ?ku ?_; (case k1 | k2 | k3 | k4 | k5 => k_asm); (case kK => first | exact rfl | assumption); (case kd => ktr_room); (case ku => ktr_units); (case kl => assumption); k_whole; intro r9 W9 O9 h9 tk9 F9 N9 hl9 hs9 hP9; obtain ⟨⟨t9, e81⟩, e82, e83⟩ := hP9; subst e81; subst e82; subst e83; (try dsimp only); (try k_sweep))))
local macro_rules | `(tactic| ktr_member) => `(tactic| ((with_reducible show wpAny _ _ (call (Value.ref 64) _) _ _ _); k_dflt (refine' Fn.use ?k1 ?k2 ?k3 ?k4 ?k5 ?kK (c_uni _ _ _ _ ?kl _ _ _ _) ?kd ?ku ?_; (case k1 | k2 | k3 | k4 | k5 => k_asm); (case kK => first | exact rfl | assumption); (case kd => ktr_room); (case ku => ktr_units); (case kl => assumption); k_whole; intro r9 W9 O9 h9 tk9 F9 N9 hl9 hs9 hP9; obtain ⟨e81, e82, e83⟩ := hP9; subst e81; subst e82; subst e83; (try dsimp only); (try k_sweep))))
local macro_rules | `(tactic| ktr_member) => `(tactic| ((with_reducible show wpAny _ _ (call (Value.ref 57) _) _ _ _); k_dflt (refine' Fn.use ?k1 ?k2 ?k3 ?k4 ?k5 ?kK (c_opener _ _ _ _ ?kl _ _ _ _) ?kd ?ku ?_; (case k1 | k2 | k3 | k4 | k5 => k_asm); (case kK => first | exact rfl | assumption); (case kd => ktr_room); (case ku => ktr_units); (case kl => assumption); k_whole; intro r9 W9 O9 h9 tk9 F9 N9 hl9 hs9 hP9; obtain ⟨⟨t9, e81⟩, e82, e83⟩ := hP9; subst e81; subst e82; subst e83; (try dsimp only); (try k_sweep))))
local macro_rules | `(tactic| ktr_member) => `(tactic| ((with_reducible show wpAny _ _ (call (Value.ref 43) _) _ _ _); k_dflt (refine' Fn.use ?k1 ?k2 ?k3 ?k4 ?k5 ?kK (c_sid _ _ _ _ ?kl _ _ _ _ _) ?kd ?ku ?_; (case k1 | k2 | k3 | k4 | k5 => k_asm); (case kK => first | exact rfl | assumption); (case kd => ktr_room); (case ku => ktr_units); (case kl => assumption); k_whole; intro r9 W9 O9 h9 tk9 F9 N9 hl9 hs9 hP9; obtain ⟨⟨t9, e81⟩, e82, e83⟩ := hP9; subst e81; subst e82; subst e83; (try dsimp only); (try k_sweep))))

/-! part B5 -/
section

theorem c_cansend (w : World) (lay : Slot → Addr) (W : Led) (O : Slot → Obj) (hl : Lay lay W) (n : Int) (e u : Bool) (t : Tok) (r : Bool) (t2 : Tok) :
    Fn w 71 2 [.int (sidOf n e u) t, .str (roleS r) t2] lay W O (fun v W' O' => v = .bool (!u || e == r) ∧ W = W' ∧ O = O') := by
  unfold Fn
  intro p loose mean mg mb dp un gd cn cs a ccd cl outer A₀ base h₀ L m s Q E B F X N T hk hd hu ret
  refine wpAny_call ?_
  k_dflt ktr_enter
  repeat' (first | (k_unfold; (try dsimp only)) | ktr_member | walk1 | (dsimp only; walk1))
  all_goals refine bool_end ?_ (ret _ W O _ _ (by k_asm) (by k_asm) hl (fun _ h => h) ⟨rfl, rfl, rfl⟩)
  all_goals (cases u <;> cases e <;> cases r <;> first | rfl | contradiction)
theorem c_canrecv (w : World) (lay : Slot → Addr) (W : Led) (O : Slot → Obj) (hl : Lay lay W) (n : Int) (e u : Bool) (t : Tok) (r : Bool) (t2 : Tok) :
    Fn w 78 2 [.int (sidOf n e u) t, .str (roleS r) t2] lay W O (fun v W' O' => v = .bool (!u || e != r) ∧ W = W' ∧ O = O') := by
  unfold Fn
  intro p loose mean mg mb dp un gd cn cs a ccd cl outer A₀ base h₀ L m s Q E B F X N T hk hd hu ret
  refine wpAny_call ?_
  k_dflt ktr_enter
  repeat' (first | (k_unfold; (try dsimp only)) | ktr_member | walk1 | (dsimp only; walk1))
  all_goals refine bool_end ?_ (ret _ W O _ _ (by k_asm) (by k_asm) hl (fun _ h => h) ⟨rfl, rfl, rfl⟩)
  all_goals (cases u <;> cases e <;> cases r <;> first | rfl | contradiction)
end

local macro_rules | `(tactic| ktr_member) => `(tactic| ((with_reducible show wpAny _ _ (call (Value.ref 71) _) _ _ _); k_dflt (refine' Fn.use ?k1 ?k2 ?k3 ?k4 ?k5 ?kK (c_cansend _ _ _ _ ?kl _ _ _ _ _ _) ?kd ?ku ?_; (case k1 | k2 | k3 | k4 | k5 => k_asm); (case kK => first | exact rfl | assumption); (case kd => ktr_room); (case ku => ktr_units); (case kl => assumption); k_whole; intro r9 W9 O9 h9 tk9 F9 N9 hl9 hs9 hP9; obtain ⟨e81, e82, e83⟩ := hP9; subst e81; subst e82; subst e83; (try dsimp only); (try k_sweep))))
local macro_rules | `(tactic| ktr_member) => `(tactic| ((with_reducible show wpAny _ _ (call (Value.ref 78) _) _ _ _); k_dflt (refine' Fn.use ?k1 ?k2 ?k3 ?k4 ?k5 ?kK (c_canrecv _ _ _ _ ?kl _ _ _ _ _ _) ?kd ?ku ?_; (case k1 | k2 | k3 | k4 | k5 => k_asm); (case kK => first | exact rfl | assumption); (case kd => ktr_room); (case ku => ktr_units); (case kl => assumption); k_whole; intro r9 W9 O9 h9 tk9 F9 N9 hl9 hs9 hP9; obtain ⟨e81, e82, e83⟩ := hP9; subst e81; subst e82; subst e83; (try dsimp only); (try k_sweep))))

/-! part B6 -/
section

theorem max_ite {a x : Int} : max a x = if x > a then x else a := by omega
theorem c_open (w : World) (lay : Slot → Addr) (W : Led) (O : Slot → Obj) (hl : Lay lay W) (fx : Fix lay O) (e u : Bool) (g l : Bool → Int) (tg tl : Bool → Tok) (n nl : Nat) (hg : O (.fld e .ownM) = rowI g tg n) (hL : O (.fld e .ownL) = rowI l tl nl) :
    Fn w 99 2 [.ref (lay (.inst e)), .bool u] lay W O (fun r W' O' => W = W' ∧ ((l u ≤ g u ∧ r = .none ∧ O = O') ∨ (g u < l u ∧ (∃ t, r = .int (sidOf (g u) e u) t) ∧ ∃ t', O' = put O (.fld e .ownM) (rowI (setB g u (g u + 1)) (setB tg u t') n)))) := by
  obtain ⟨dh, dt, dn, hD⟩ := fx.dct e
  have hI := fx.inst e
  unfold Fn
  intro p loose mean mg mb dp un gd cn cs a ccd cl outer A₀ base h₀ L m s Q E B F X N T hk hd hu ret
  refine wpAny_call ?_
  k_dflt ktr_enter
  repeat' (first | (k_unfold; (try dsimp only)) | ktr_member | walk1 | (dsimp only; walk1))
  · exact ret _ _ _ _ _ (by k_asm) (by k_asm) (by assumption) (fun _ h => h) ⟨rfl, .inl ⟨by assumption, rfl, rfl⟩⟩
  · exact ret _ _ _ _ _ (by k_asm) (by k_asm) (by assumption) (fun _ h => h) ⟨rfl, .inr ⟨by omega, ⟨_, by rw [setB_self, Int.add_sub_cancel]⟩, ⟨_, rfl⟩⟩⟩

theorem c_raise (w : World) (lay : Slot → Addr) (W : Led) (O : Slot → Obj) (hl : Lay lay W) (fx : Fix lay O) (e u : Bool) (l : Bool → Int) (tl : Bool → Tok) (nl : Nat) (hL : O (.fld e .ownL) = rowI l tl nl) (x : Int) (tx : Tok) :
    Fn w 106 2 [.ref (lay (.inst e)), .bool u, .int x tx] lay W O (fun r W' O' => W = W' ∧ r = .none ∧ ∃ t', O' = put O (.fld e .ownL) (rowI (setB l u (if x > l u then x else l u)) (setB tl u t') nl)) := by
  obtain ⟨dh, dt, dn, hD⟩ := fx.dct e
  have hI := fx.inst e
  unfold Fn
  intro p loose mean mg mb dp un gd cn cs a ccd cl outer A₀ base h₀ L m s Q E B F X N T hk hd hu ret
  refine wpAny_call ?_
  k_dflt ktr_enter
  repeat' (first | (k_unfold; (try dsimp only)) | ktr_member | walk1 | (dsimp only; walk1))
  exact ret _ _ _ _ _ (by k_asm) (by k_asm) (by assumption) (fun _ h => h) ⟨rfl, rfl, ⟨_, rfl⟩⟩

theorem c_closed (w : World) (lay : Slot → Addr) (W : Led) (O : Slot → Obj) (hl : Lay lay W) (fx : Fix lay O) (e : Bool) (nn : Int) (u : Bool) (l : Bool → Int) (tl : Bool → Tok) (nl : Nat) (hL : O (.fld (!e) .peerL) = rowI l tl nl) (tx : Tok) (hm : l u < 1000) :
    Fn w 118 2 [.ref (lay (.inst (!e))), .int (sidOf nn e u) tx] lay W O (fun r W' O' => W = W' ∧ r = .none ∧ ∃ t', O' = put O (.fld (!e) .peerL) (rowI (setB l u (l u + 1)) (setB tl u t') nl)) := by
  obtain ⟨dh, dt, dn, hD⟩ := fx.dct (!e)
  have hI := fx.inst (!e)
  unfold Fn
  intro p loose mean mg mb dp un gd cn cs a ccd cl outer A₀ base h₀ L m s Q E B F X N T hk hd hu ret
  refine wpAny_call ?_
  k_dflt ktr_enter
  repeat' (first | (k_unfold; (try dsimp only)) | ktr_member | walk1 | (dsimp only; walk1))
  · exact ret _ _ _ _ _ (by k_asm) (by k_asm) (by assumption) (fun _ h => h) ⟨rfl, rfl, ⟨_, by rw [if_pos (by omega : l u + 1 < 1152921504606846976)]⟩⟩
  · exact absurd (by assumption : (roleS e != roleS (!e)) = false) (by cases e <;> decide)

theorem c_grant (w : World) (lay : Slot → Addr) (W : Led) (O : Slot → Obj) (hl : Lay lay W) (fx : Fix lay O) (e u : Bool) (g l : Bool → Int) (b : Bool → Bool) (tg tl : Bool → Tok) (n nl nb : Nat) (hg : O (.fld e .toldL) = rowI g tg n) (hL : O (.fld e .peerL) = rowI l tl nl) (hb : O (.fld e .owes) = pairL (fun s => .bool (b s)) nb) :
    Fn w 125 2 [.ref (lay (.inst e)), .bool u] lay W O (fun r W' O' => W = W' ∧ ((g u = l u ∧ b u = false ∧ r = .none ∧ O = O') ∨ (¬ (g u = l u ∧ b u = false) ∧ (∃ t, r = .int (l u) t) ∧ ∃ t', O' = put (put O (.fld e .owes) (pairL (fun s => .bool (setB b u false s)) nb)) (.fld e .toldL) (rowI (setB g u (l u)) (setB tg u t') n)))) := by
  obtain ⟨dh, dt, dn, hD⟩ := fx.dct e
  have hI := fx.inst e
  unfold Fn
  intro p loose mean mg mb dp un gd cn cs a ccd cl outer A₀ base h₀ L m s Q E B F X N T hk hd hu ret
  refine wpAny_call ?_
  k_dflt ktr_enter
  repeat' (first | (k_unfold; (try dsimp only)) | ktr_member | walk1 | (dsimp only; walk1))
  · exact ret _ _ _ _ _ (by k_asm) (by k_asm) (by assumption) (fun _ h => h) ⟨rfl, .inr ⟨fun hc => by simp_all, ⟨_, by rw [setB_self]⟩, ⟨_, rfl⟩⟩⟩
  · exact ret _ _ _ _ _ (by k_asm) (by k_asm) (by assumption) (fun _ h => h) ⟨rfl, .inl ⟨by assumption, by assumption, rfl, rfl⟩⟩
  · exact ret _ _ _ _ _ (by k_asm) (by k_asm) (by assumption) (fun _ h => h) ⟨rfl, .inr ⟨fun hc => absurd hc.1 (by assumption), ⟨_, by rw [setB_self]⟩, ⟨_, rfl⟩⟩⟩

theorem c_lost (w : World) (lay : Slot → Addr) (W : Led) (O : Slot → Obj) (hl : Lay lay W) (fx : Fix lay O) (e u : Bool) (g : Bool → Int) (b : Bool → Bool) (tg : Bool → Tok) (n nb : Nat) (x : Int) (tx : Tok) (hg : O (.fld e .toldL) = rowI g tg n) (hb : O (.fld e .owes) = pairL (fun s => .bool (b s)) nb) :
    Fn w 132 2 [.ref (lay (.inst e)), .bool u, .int x tx] lay W O (fun r W' O' => W = W' ∧ r = .none ∧ ((g u = x ∧ O' = put O (.fld e .owes) (pairL (fun s => .bool (setB b u true s)) nb)) ∨ (g u ≠ x ∧ O = O'))) := by
  obtain ⟨dh, dt, dn, hD⟩ := fx.dct e
  have hI := fx.inst e
  unfold Fn
  intro p loose mean mg mb dp un gd cn cs a ccd cl outer A₀ base h₀ L m s Q E B F X N T hk hd hu ret
  refine wpAny_call ?_
  k_dflt ktr_enter
  repeat' (first | (k_unfold; (try dsimp only)) | ktr_member | walk1 | (dsimp only; walk1))
  · exact ret _ _ _ _ _ (by k_asm) (by k_asm) (by assumption) (fun _ h => h) ⟨rfl, rfl, .inl ⟨by assumption, rfl⟩⟩
  · exact ret _ _ _ _ _ (by k_asm) (by k_asm) (by assumption) (fun _ h => h) ⟨rfl, rfl, .inr ⟨by assumption, rfl⟩⟩
end

/-! part B7 -/
section

theorem c_take (w : World) (lay : Slot → Addr) (W : Led) (O : Slot → Obj) (hl : Lay lay W) (spot : Int) (t : Tok) (n : Nat) (hb : O .box = listOf #[.ref (lay .scr), .int spot t] n) (vs : List Value) (ns : List Int) (n' : Nat) (hsc : O .scr = listOf vs.toArray n') (hi : IntsAre vs ns) (hlen : ns.length ≤ 63)
    (h0 : 0 ≤ spot) (h1 : spot < 1000) (many : Int) (tm : Tok) (hm : 0 < many) (hm2 : many < 1000) :
    Fn w 146 2 [.ref (lay .box), .int many tm] lay W O (fun r W' O' => W = W' ∧ (∃ v t', r = .int v t' ∧ 0 ≤ v ∧ v < many) ∧ ∃ t'', O' = put O .box (listOf #[.ref (lay .scr), .int (spot + 1) t''] n)) := by
  have hvl := hi.length
  unfold Fn
  intro p loose mean mg mb dp un gd cn cs a ccd cl outer A₀ base h₀ L m s Q E B F X N T hk hd hu ret
  refine wpAny_call ?_
  k_dflt ktr_enter
  repeat' (first | (k_unfold; (try dsimp only)) | ktr_member | walk1 | (dsimp only; walk1))
  all_goals exact ret _ _ _ _ _ (by k_asm) (by k_asm) (by assumption) (fun _ h => h) ⟨rfl, ⟨_, _, rfl, fmod_lo _ hm, fmod_hi _ hm⟩, ⟨_, rfl⟩⟩
end

/-! part C1 -/
section

section
variable {w : World} {A : Around} {E : Value → Shared → Prop} {s : Shared} {h₀ : Heap} {L : Addr} {m : Str → Option Value} {env : Env} {lay : Slot → Addr} {W : Led} {O : Slot → Obj} {elt : PySem.Expr} {x : Str} {scope : Scope} {cl : List (Str × Addr)}
/-- an element's end: an int came, all stands as it stood -/
noncomputable def EltInt (h₀ : Heap) (L : Addr) (m : Str → Option Value) (s : Shared) (lay : Slot → Addr) (W : Led) (O : Slot → Obj) (k : Int) (y : Value) (s' : Shared) : Prop :=
  (∃ t, y = .int k t) ∧ ∃ h' tk', s' = { s with heap := h', toks := tk' } ∧ Fr h₀ L h' m ∧ News h₀ L h' (W ++ Lg lay O)
theorem EltInt.intro {k j : Int} {t : Tok} {h' : Heap} {tk' : Nat} (e : j = k) (F : Fr h₀ L h' m) (N : News h₀ L h' (W ++ Lg lay O)) : EltInt h₀ L m s lay W O k (.int j t) { s with heap := h', toks := tk' } :=
  ⟨⟨t, by rw [e]⟩, h', tk', rfl, F, N⟩
theorem lay_off3 {I C D : Addr} {oI oC oD : Obj} (hl : Lay lay W) (off : LCg.Off3 I C D (W ++ Lg lay O)) : Lay lay ((I, oI) :: (C, oC) :: (D, oD) :: W) := by
  have q := fun sl => off.mem (lay sl, O sl) (mem_O rfl)
  exact ((hl.cons fun sl e => (q sl).2.2 e.symm).cons fun sl e => (q sl).2.1 e.symm).cons fun sl e => (q sl).1 e.symm
theorem lay_off1 {D : Addr} {oD : Obj} (hl : Lay lay W) (off : LCg.Off1 D (W ++ Lg lay O)) : Lay lay ((D, oD) :: W) := by
  have key : ∀ l : Led, LCg.Off1 D l → ∀ p ∈ l, p.1 ≠ D := by
    intro l
    induction l with
    | nil => intro _ p hp; cases hp
    | cons q r ih =>
      intro h p hp
      rcases List.mem_cons.mp hp with rfl | hp
      · exact h.1
      · exact ih h.2 p hp
  exact hl.cons fun sl e => key _ off (lay sl, O sl) (mem_O rfl) e.symm
theorem ints_snoc {vs : List Value} {G : Nat → Int} {i : Nat} {t : Tok} (h : IntsAre vs ((List.range i).map G)) : IntsAre (vs ++ [.int (G i) t]) ((List.range (i + 1)).map G) := by
  rw [List.range_succ, List.map_append]
  exact h.append (.cons _ _ .nil)
theorem comp_rest {G : Nat → Int} {a : Int} {n : Nat} {Fin : List Value → Led → Prop} (hl : Lay lay W)
    (turn : ∀ (i : Nat) (t : Tok) (I : Addr) (oI : Obj) (C : Addr) (oC : Obj) (D : Addr) (ys : List Value) (m₂ : Str → Option Value) (h : Heap) (tk : Nat) (E' : Value → Shared → Prop), i < n → LCg.NsObj oC m₂ → m₂ x = some (.int (a + (i : Int)) t) → Fr h₀ L h m →
      News h₀ L h (((I, oI) :: (C, oC) :: (D, LCg.lst ys) :: W) ++ Lg lay O) → Lay lay ((I, oI) :: (C, oC) :: (D, LCg.lst ys) :: W) →
      wpAny (model PR w) A (eval elt (compEnvC scope cl C env)) (EltInt h₀ L m { s with heap := h, toks := tk } lay ((I, oI) :: (C, oC) :: (D, LCg.lst ys) :: W) O (G i)) E' { s with heap := h, toks := tk })
    (fin : ∀ vs, IntsAre vs ((List.range n).map G) → Fin vs (W ++ Lg lay O)) :
    ∀ (k i : Nat) (ys : List Value), i + k = n → IntsAre ys ((List.range i).map G) →
      LCg.CompRest PR w A h₀ L m env elt x scope cl s (fun _ => True) (fun i v => ∃ t, v = .int (a + (i : Int)) t) Fin k i ys (W ++ Lg lay O) := by
  intro k
  induction k with
  | zero =>
    intro i ys hi hy
    have : i = n := by omega
    subst this
    exact fin ys hy
  | succ k ih =>
    intro i ys hi hy v I oI C oC D m₂ h tk E' hv hC hx F N off ne
    obtain ⟨t, rfl⟩ := hv
    refine wpAny_mono (turn i t I oI C oC D ys m₂ h tk E' (by omega) hC hx F N (lay_off3 hl off)) (fun y s' hs => ?_) fun _ _ e => e
    obtain ⟨⟨t', rfl⟩, h', tk', rfl, F', N'⟩ := hs
    exact LCg.CompEnd.intro F' N' (W ++ Lg lay O) (fun p hp => hp) off trivial (ih (i + 1) _ (by omega) (ints_snoc hy))

theorem comp_range {G : Nat → Int} {r : Addr} {a b : Int} {t u v : Tok} {Fin : Shared → List Value → Led → Prop} (hh : A.handled = none) (F : Fr h₀ L s.heap m) (N : News h₀ L s.heap (W ++ Lg lay O)) (hl : Lay lay W)
    (hr : IsRange s.heap r a b 1 t u v) (ha : -100000 < a) (ha' : a < 100000) (hb : -100000 < b) (hb' : b < 100000)
    (turn : ∀ (g : Heap) (i : Nat) (t : Tok) (I : Addr) (oI : Obj) (C : Addr) (oC : Obj) (D : Addr) (ys : List Value) (m₂ : Str → Option Value) (h : Heap) (tk : Nat) (E' : Value → Shared → Prop), i < (b - a).toNat → LCg.NsObj oC m₂ → m₂ x = some (.int (a + (i : Int)) t) → Fr h₀ L h m →
      News h₀ L h (((I, oI) :: (C, oC) :: (D, LCg.lst ys) :: W) ++ Lg lay O) → Lay lay ((I, oI) :: (C, oC) :: (D, LCg.lst ys) :: W) →
      wpAny (model PR w) A (eval elt (compEnvC scope cl C env)) (EltInt h₀ L m { s with heap := h, toks := tk } lay ((I, oI) :: (C, oC) :: (D, LCg.lst ys) :: W) O (G i)) E' { s with heap := h, toks := tk })
    (fin : ∀ g vs, IntsAre vs ((List.range (b - a).toNat).map G) → Fin { s with heap := g } vs (W ++ Lg lay O)) :
    LCg.CompSrc PR w A h₀ L m env elt x scope cl Fin (.ref r) s := by
  refine LCg.CompSrc.range hh F N hr (small_one (by omega) (by omega) (by omega) (by omega)) (rangeSize_nat a b) (by rw [sizeLine_eq]; omega) fun g => ?_
  exact comp_rest (s := { s with heap := g }) hl (turn g) (fin g) (b - a).toNat 0 [] (by omega) .nil
end
end

/-! part B8 -/
section

noncomputable def comesL (e u : Bool) (p q : Int) : List Int := (List.range (q - p).toNat).map fun i => sidOf (p + (i : Nat)) e u

theorem c_peer (w : World) (lay : Slot → Addr) (W : Led) (O : Slot → Obj) (hl : Lay lay W) (fx : Fix lay O) (e u : Bool) (nn : Int) (kd : Kd) (tk tx : Tok) (g pp : Bool → Int) (tg tp : Bool → Tok) (n np : Nat) (hg : O (.fld (!e) .toldL) = rowI g tg n) (hp : O (.fld (!e) .peerM) = rowI pp tp np)
    (h1 : nn < g u) (h0 : 0 ≤ pp u) (h00 : pp u < 1000) (h2 : nn < 1000) (h3 : 0 ≤ nn) (hk9 : kd.fs = true → u = false) :
    Fn w 111 3 [.ref (lay (.inst (!e))), .str kd.str tk, .int (sidOf nn e u) tx] lay W O (fun r W' O' =>
      ∃ l vs n', r = .ref l ∧ (l, listOf vs.toArray n') ∈ W' ∧ IntsAre vs (comesL e u (pp u) (nn + 1)) ∧ ∃ t', O' = put O (.fld (!e) .peerM) (rowI (setB pp u (if nn + 1 > pp u then nn + 1 else pp u)) (setB tp u t') np)) := by
  obtain ⟨dh, dt, dn, hD⟩ := fx.dct (!e)
  have hI := fx.inst (!e)
  have f2 : ¬ (!(!u || (e != !e))) = true := by cases u <;> cases e <;> decide
  have f3 : ¬ (roleS e == roleS (!e)) = true := by cases e <;> decide
  have f4 : ¬ decide (g u ≤ nn) = true := by simp only [decide_eq_true_eq]; omega
  have hfs : kd.fs = true ∨ ¬ kd.fs = true := Classical.em _
  rcases hfs with hfs | hfs
  · have f1 : ¬ (!(!u || (e == !e))) = true := by rw [hk9 hfs]; cases e <;> decide
    unfold Fn
    intro p loose mean mg mb dp un gd cn cs a ccd cl outer A₀ base h₀ L m s Q E B F X N T hk hd hu ret
    refine wpAny_call ?_
    k_dflt (refine' code_defC ?k1 ?k2 ?k3 ?k4 ?k5 ?kA ?kF ?kK ?k6 ?k7 ?k8 ?k9 ?kB ?kD ?_ ?c2 ?c3 ?c4; (case kA => exact rfl); (case kF => exact rfl); (case kK => assumption); (case k1 => k_asm); (case k2 => k_asm); (case k3 => k_asm); (case k4 => k_asm); (case k5 => k_asm); (case k6 => k_is); (case k7 => k_is); (case k8 => ktr_room); (case k9 => exact BindsTo.of_eq rfl); (case kB => exact rfl); (case kD => decide +kernel); (case c2 => exact rfl); (case c3 => exact rfl); (case c4 => exact rfl); k_whole)
    intro g' L' h' tk' cells' FG' F' N' Y' B' X' T' l1
    obtain ⟨o1, o2, hE', d1, d2⟩ := CellsAre.two Y'
    subst hE'
    clear Y'
    obtain ⟨hW, hS⟩ := lay_lt l1
    clear l1
    have hlc := lay_cells2 (o1 := o1) (o2 := o2) (c1 := L' + 1 + 1) (c2 := L' + 1) hl hS (lt2 _) (lt1 _)
    replace N' : News g' L' h' (((L' + 1 + 1, o1) :: (L' + 1, o2) :: W) ++ Lg lay O) := N'
    clear hl
    (try dsimp only)
    (try k_fold)
    replace d1 : o1.data = .cell none := by with_unfolding_all exact d1
    replace d2 : o2.data = .cell (some (.int (sidOf nn e u) tx)) := by with_unfolding_all exact d2
    repeat' (first | (k_unfold; (try dsimp only)) | ((with_reducible show wpAny _ _ (execs (_ :: _) _) _ _ (Shared.mk _ _ _ (HAdd.hAdd _ _) _)); refine genT ?_; intro tk9) | ((with_reducible show wpAny _ _ (exec _ _) _ _ _); (fail_if_success (fail_if_success k_fold)); refine letQ ?_; intro q9) | ((with_reducible show wpAny _ _ (execs (_ :: _) _) _ _ _); (with_reducible rename Fr _ _ _ _ => kF9); (fail_if_success (with_reducible have : Fr _ _ _ ‹Str → Option Value› := kF9)); refine letm kF9 ?_; clear kF9; intro m9 F9) | ktr_member | ((fail_if_success (with_reducible show (if _ then _ else _))); (fail_if_success (with_reducible show LCg.CompSrc _ _ _ _ _ _ _ _ _ _ _ _ _ _)); first | walk1 | (dsimp only; walk1)))
    refine comp_range (G := fun i => sidOf (pp u + (i : Int)) e u) rfl (by k_asm) (by k_asm) (by assumption) (by assumption) (by omega) (by omega) (by omega) (by omega) ?_ ?_
    · intro gg i t I oI C oC D ys m₂ hh tk9 E9 hi hC hx F9 N9 hl9
      repeat' (first | (k_unfold; (try dsimp only)) | ((with_reducible show wpAny _ _ (execs (_ :: _) _) _ _ (Shared.mk _ _ _ (HAdd.hAdd _ _) _)); refine genT ?_; intro tk9) | ((with_reducible show wpAny _ _ (exec _ _) _ _ _); (fail_if_success (fail_if_success k_fold)); refine letQ ?_; intro q9) | ((with_reducible show wpAny _ _ (execs (_ :: _) _) _ _ _); (with_reducible rename Fr _ _ _ _ => kF9); (fail_if_success (with_reducible have : Fr _ _ _ ‹Str → Option Value› := kF9)); refine letm kF9 ?_; clear kF9; intro m9 F9) | ktr_member | ((fail_if_success (with_reducible show (if _ then _ else _))); first | walk1 | (dsimp only; walk1)))
      exact EltInt.intro rfl (by k_asm) (by k_asm)
    · intro gg vs hv
      unfold LCg.FinE
      intro D hh tk9 F9 N9 o9
      repeat' (first | (k_unfold; (try dsimp only)) | ((with_reducible show wpAny _ _ (execs (_ :: _) _) _ _ (Shared.mk _ _ _ (HAdd.hAdd _ _) _)); refine genT ?_; intro tk9) | ((with_reducible show wpAny _ _ (exec _ _) _ _ _); (fail_if_success (fail_if_success k_fold)); refine letQ ?_; intro q9) | ((with_reducible show wpAny _ _ (execs (_ :: _) _) _ _ _); (with_reducible rename Fr _ _ _ _ => kF9); (fail_if_success (with_reducible have : Fr _ _ _ ‹Str → Option Value› := kF9)); refine letm kF9 ?_; clear kF9; intro m9 F9) | ktr_member | ((fail_if_success (with_reducible show (if _ then _ else _))); first | walk1 | (dsimp only; walk1)))
      exact ret _ ((_, LCg.lst vs) :: (_, _) :: (_, _) :: W) _ _ _ (by k_asm) (by k_asm) (lay_off1 (by assumption) o9) (fun _ h => .tail _ (.tail _ (.tail _ h))) ⟨_, _, _, rfl, .head _, hv, _, rfl⟩
  · unfold Fn
    intro p loose mean mg mb dp un gd cn cs a ccd cl outer A₀ base h₀ L m s Q E B F X N T hk hd hu ret
    refine wpAny_call ?_
    k_dflt (refine' code_defC ?k1 ?k2 ?k3 ?k4 ?k5 ?kA ?kF ?kK ?k6 ?k7 ?k8 ?k9 ?kB ?kD ?_ ?c2 ?c3 ?c4; (case kA => exact rfl); (case kF => exact rfl); (case kK => assumption); (case k1 => k_asm); (case k2 => k_asm); (case k3 => k_asm); (case k4 => k_asm); (case k5 => k_asm); (case k6 => k_is); (case k7 => k_is); (case k8 => ktr_room); (case k9 => exact BindsTo.of_eq rfl); (case kB => exact rfl); (case kD => decide +kernel); (case c2 => exact rfl); (case c3 => exact rfl); (case c4 => exact rfl); k_whole)
    intro g' L' h' tk' cells' FG' F' N' Y' B' X' T' l1
    obtain ⟨o1, o2, hE', d1, d2⟩ := CellsAre.two Y'
    subst hE'
    clear Y'
    obtain ⟨hW, hS⟩ := lay_lt l1
    clear l1
    have hlc := lay_cells2 (o1 := o1) (o2 := o2) (c1 := L' + 1 + 1) (c2 := L' + 1) hl hS (lt2 _) (lt1 _)
    replace N' : News g' L' h' (((L' + 1 + 1, o1) :: (L' + 1, o2) :: W) ++ Lg lay O) := N'
    clear hl
    (try dsimp only)
    (try k_fold)
    replace d1 : o1.data = .cell none := by with_unfolding_all exact d1
    replace d2 : o2.data = .cell (some (.int (sidOf nn e u) tx)) := by with_unfolding_all exact d2
    repeat' (first | (k_unfold; (try dsimp only)) | ((with_reducible show wpAny _ _ (execs (_ :: _) _) _ _ (Shared.mk _ _ _ (HAdd.hAdd _ _) _)); refine genT ?_; intro tk9) | ((with_reducible show wpAny _ _ (exec _ _) _ _ _); (fail_if_success (fail_if_success k_fold)); refine letQ ?_; intro q9) | ((with_reducible show wpAny _ _ (execs (_ :: _) _) _ _ _); (with_reducible rename Fr _ _ _ _ => kF9); (fail_if_success (with_reducible have : Fr _ _ _ ‹Str → Option Value› := kF9)); refine letm kF9 ?_; clear kF9; intro m9 F9) | ktr_member | ((fail_if_success (with_reducible show (if _ then _ else _))); (fail_if_success (with_reducible show LCg.CompSrc _ _ _ _ _ _ _ _ _ _ _ _ _ _)); first | walk1 | (dsimp only; walk1)))
    refine comp_range (G := fun i => sidOf (pp u + (i : Int)) e u) rfl (by k_asm) (by k_asm) (by assumption) (by assumption) (by omega) (by omega) (by omega) (by omega) ?_ ?_
    · intro gg i t I oI C oC D ys m₂ hh tk9 E9 hi hC hx F9 N9 hl9
      repeat' (first | (k_unfold; (try dsimp only)) | ((with_reducible show wpAny _ _ (execs (_ :: _) _) _ _ (Shared.mk _ _ _ (HAdd.hAdd _ _) _)); refine genT ?_; intro tk9) | ((with_reducible show wpAny _ _ (exec _ _) _ _ _); (fail_if_success (fail_if_success k_fold)); refine letQ ?_; intro q9) | ((with_reducible show wpAny _ _ (execs (_ :: _) _) _ _ _); (with_reducible rename Fr _ _ _ _ => kF9); (fail_if_success (with_reducible have : Fr _ _ _ ‹Str → Option Value› := kF9)); refine letm kF9 ?_; clear kF9; intro m9 F9) | ktr_member | ((fail_if_success (with_reducible show (if _ then _ else _))); first | walk1 | (dsimp only; walk1)))
      exact EltInt.intro rfl (by k_asm) (by k_asm)
    · intro gg vs hv
      unfold LCg.FinE
      intro D hh tk9 F9 N9 o9
      repeat' (first | (k_unfold; (try dsimp only)) | ((with_reducible show wpAny _ _ (execs (_ :: _) _) _ _ (Shared.mk _ _ _ (HAdd.hAdd _ _) _)); refine genT ?_; intro tk9) | ((with_reducible show wpAny _ _ (exec _ _) _ _ _); (fail_if_success (fail_if_success k_fold)); refine letQ ?_; intro q9) | ((with_reducible show wpAny _ _ (execs (_ :: _) _) _ _ _); (with_reducible rename Fr _ _ _ _ => kF9); (fail_if_success (with_reducible have : Fr _ _ _ ‹Str → Option Value› := kF9)); refine letm kF9 ?_; clear kF9; intro m9 F9) | ktr_member | ((fail_if_success (with_reducible show (if _ then _ else _))); first | walk1 | (dsimp only; walk1)))
      exact ret _ ((_, LCg.lst vs) :: (_, _) :: (_, _) :: W) _ _ _ (by k_asm) (by k_asm) (lay_off1 (by assumption) o9) (fun _ h => .tail _ (.tail _ (.tail _ h))) ⟨_, _, _, rfl, .head _, hv, _, rfl⟩
end

/-! part B9 -/
section

theorem c_own (w : World) (lay : Slot → Addr) (W : Led) (O : Slot → Obj) (hl : Lay lay W) (fx : Fix lay O) (e u : Bool) (nn : Int) (tk tx : Tok) (g : Bool → Int) (tg : Bool → Tok) (n : Nat) (hg : O (.fld e .ownM) = rowI g tg n)
    (h1 : nn < g u) :
    Fn w 111 3 [.ref (lay (.inst e)), .str (Str.ofString "stop_sending") tk, .int (sidOf nn e u) tx] lay W O (fun r W' O' =>
      O = O' ∧ ∃ l n', r = .ref l ∧ (l, listOf ([] : List Value).toArray n') ∈ W') := by
  obtain ⟨dh, dt, dn, hD⟩ := fx.dct e
  have hI := fx.inst e
  have f0 : (![Str.ofString "stream", Str.ofString "reset_stream", Str.ofString "stream_data_blocked"].any fun x => x == Str.ofString "stop_sending") = true := by decide
  have f1 : ¬ (!(!u || (e == e))) = true := by cases u <;> cases e <;> decide
  have f3 : (roleS e == roleS e) = true := by cases e <;> decide
  have f4 : ¬ decide (g u ≤ nn) = true := by simp only [decide_eq_true_eq]; omega
  unfold Fn
  intro p loose mean mg mb dp un gd cn cs a ccd cl outer A₀ base h₀ L m s Q E B F X N T hk hd hu ret
  refine wpAny_call ?_
  k_dflt (refine' code_defC ?k1 ?k2 ?k3 ?k4 ?k5 ?kA ?kF ?kK ?k6 ?k7 ?k8 ?k9 ?kB ?kD ?_ ?c2 ?c3 ?c4; (case kA => exact rfl); (case kF => exact rfl); (case kK => assumption); (case k1 => k_asm); (case k2 => k_asm); (case k3 => k_asm); (case k4 => k_asm); (case k5 => k_asm); (case k6 => k_is); (case k7 => k_is); (case k8 => ktr_room); (case k9 => exact BindsTo.of_eq rfl); (case kB => exact rfl); (case kD => decide +kernel); (case c2 => exact rfl); (case c3 => exact rfl); (case c4 => exact rfl); k_whole)
  intro g' L' h' tk' cells' FG' F' N' Y' B' X' T' l1
  obtain ⟨o1, o2, hE', d1, d2⟩ := CellsAre.two Y'
  subst hE'
  clear Y'
  obtain ⟨hW, hS⟩ := lay_lt l1
  clear l1
  have hlc := lay_cells2 (o1 := o1) (o2 := o2) (c1 := L' + 1 + 1) (c2 := L' + 1) hl hS (lt2 _) (lt1 _)
  replace N' : News g' L' h' (((L' + 1 + 1, o1) :: (L' + 1, o2) :: W) ++ Lg lay O) := N'
  clear hl
  (try dsimp only)
  (try k_fold)
  replace d1 : o1.data = .cell none := by with_unfolding_all exact d1
  replace d2 : o2.data = .cell (some (.int (sidOf nn e u) tx)) := by with_unfolding_all exact d2
  repeat' (first | (k_unfold; (try dsimp only)) | ((with_reducible show wpAny _ _ (execs (_ :: _) _) _ _ (Shared.mk _ _ _ (HAdd.hAdd _ _) _)); refine genT ?_; intro tk9) | ((with_reducible show wpAny _ _ (exec _ _) _ _ _); (fail_if_success (fail_if_success k_fold)); refine letQ ?_; intro q9) | ((with_reducible show wpAny _ _ (execs (_ :: _) _) _ _ _); (with_reducible rename Fr _ _ _ _ => kF9); (fail_if_success (with_reducible have : Fr _ _ _ ‹Str → Option Value› := kF9)); refine letm kF9 ?_; clear kF9; intro m9 F9) | ktr_member | ((fail_if_success (with_reducible show (if _ then _ else _))); first | walk1 | (dsimp only; walk1)))
  exact ret _ ((_, _) :: (_, _) :: (_, _) :: W) _ _ _ (by k_asm) (by k_asm) (by assumption) (fun _ h => .tail _ (.tail _ (.tail _ h))) ⟨rfl, _, _, rfl, .head _⟩
end

/-! part S1 -/
section

theorem c_said (w : World) (lay : Slot → Addr) (W : Led) (O : Slot → Obj) (hl : Lay lay W) (S : St) (R : Rel w lay W O S) (e u : Bool) (nn : Int) (kd : Kd) (te tu tn tk : Tok)
    (b0 : 0 ≤ S.known e u) (b1 : S.known e u ≤ S.opened e u) (b2 : S.opened e u ≤ S.told e u) (b3 : S.told e u < 500) (h3 : 0 ≤ nn) (h1 : nn < S.opened e u) (hk9 : kd.fs = true → u = false) :
    Fn w 158 20 [.ref (lay .ends), .ref (lay .net), .int (b2i e) te, .int (b2i u) tu, .int nn tn, .str kd.str tk] lay W O (fun r W' O' =>
      r = .bool true ∧ Rel w lay W' O' { S with known := set2 S.known e u (if nn + 1 > S.known e u then nn + 1 else S.known e u) }) := by
  obtain ⟨kt, kn, hkn⟩ := R.known e
  obtain ⟨pt, pn, hpm⟩ := R.peerM e
  obtain ⟨lt, ln, htl⟩ := R.toldL e
  obtain ⟨mt, mn, hom⟩ := R.ownM e
  obtain ⟨on, hnet, hnd⟩ := R.fn.net
  obtain ⟨okn, hok⟩ := R.fn.outer .known
  have hends := R.fx.ends
  have fx := R.fx
  have hi0 := R.fx.inst false
  have hi1 := R.fx.inst true
  obtain ⟨dh, dt, dn, hD⟩ := fx.dct (!e)
  obtain ⟨dh2, dt2, dn2, hD2⟩ := fx.dct e
  have hI := fx.inst (!e)
  have hI2 := fx.inst e
  unfold Fn
  intro p loose mean mg mb dp un gd cn cs a ccd cl outer A₀ base h₀ L m s Q E B F X N T hk hd hu ret
  refine wpAny_call ?_
  k_dflt (refine' code_defC ?k1 ?k2 ?k3 ?k4 ?k5 ?kA ?kF ?kK ?k6 ?k7 ?k8 ?k9 ?kB ?kD ?_ ?c2 ?c3 ?c4; (case kA => exact rfl); (case kF => exact rfl); (case kK => assumption); (case k1 => k_asm); (case k2 => k_asm); (case k3 => k_asm); (case k4 => k_asm); (case k5 => k_asm); (case k6 => k_is); (case k7 => k_is); (case k8 => ktr_room); (case k9 => exact BindsTo.of_eq rfl); (case kB => exact rfl); (case kD => decide +kernel); (case c2 => exact rfl); (case c3 => exact rfl); (case c4 => exact rfl); k_whole)
  intro g' L' h' tk' cells' FG' F' N' Y' B' X' T' l1
  obtain ⟨o1, o2, hE', d1, d2⟩ := CellsAre.two Y'
  subst hE'
  clear Y'
  obtain ⟨hW, hS⟩ := lay_lt l1
  clear l1
  have hlc := lay_cells2 (o1 := o1) (o2 := o2) (c1 := L' + 1 + 1) (c2 := L' + 1) hl hS (lt2 _) (lt1 _)
  replace N' : News g' L' h' (((L' + 1 + 1, o1) :: (L' + 1, o2) :: W) ++ Lg lay O) := N'
  clear hl
  (try dsimp only)
  (try k_fold)
  replace d1 : o1.data = .cell (some (.int (b2i u) tu)) := by with_unfolding_all exact d1
  replace d2 : o2.data = .cell (some (.int (b2i e) te)) := by with_unfolding_all exact d2
  repeat' ((fail_if_success (with_reducible show LCg.CompSrc _ _ _ _ _ _ _ _ _ _ _ _ _ _)); (fail_if_success (with_reducible show LCt.CompSrcT _ _ _ _ _ _ _ _ _ _ _ _ _ _ _)); (fail_if_success (with_reducible show wpAny _ _ (pyIter _) _ _ _)); (fail_if_success (with_reducible show wpAny _ _ (call (Value.ref 111) _) _ _ _)); first | (k_unfold; (try dsimp only)) | ((with_reducible show wpAny _ _ (execs (_ :: _) _) _ _ (Shared.mk _ _ _ (HAdd.hAdd _ _) _)); refine genT ?_; intro tk9) | ((with_reducible show wpAny _ _ (exec _ _) _ _ _); (fail_if_success (fail_if_success k_fold)); refine letQ ?_; intro q9) | ((with_reducible show wpAny _ _ (execs (_ :: _) _) _ _ _); (with_reducible rename Fr _ _ _ _ => kF9); (fail_if_success (with_reducible have : Fr _ _ _ ‹Str → Option Value› := kF9)); refine letm kF9 ?_; clear kF9; intro m9 F9) | ktr_member | ((fail_if_success (with_reducible show (if _ then _ else _))); first | walk1 | (dsimp only; walk1)))
  refine comp_range (G := fun i => sidOf (S.known e u + (i : Int)) e u) rfl (by k_asm) (by k_asm) (by assumption) (by assumption) (by omega) (by omega) (by omega) (by omega) ?_ ?_
  · intro gg i t I oI C oC D ys m₂ hh tk9 E9 hi hC hx F9 N9 hl9
    repeat' ((fail_if_success (with_reducible show LCg.CompSrc _ _ _ _ _ _ _ _ _ _ _ _ _ _)); (fail_if_success (with_reducible show LCt.CompSrcT _ _ _ _ _ _ _ _ _ _ _ _ _ _ _)); (fail_if_success (with_reducible show wpAny _ _ (pyIter _) _ _ _)); (fail_if_success (with_reducible show wpAny _ _ (call (Value.ref 111) _) _ _ _)); first | (k_unfold; (try dsimp only)) | ((with_reducible show wpAny _ _ (execs (_ :: _) _) _ _ (Shared.mk _ _ _ (HAdd.hAdd _ _) _)); refine genT ?_; intro tk9) | ((with_reducible show wpAny _ _ (exec _ _) _ _ _); (fail_if_success (fail_if_success k_fold)); refine letQ ?_; intro q9) | ((with_reducible show wpAny _ _ (execs (_ :: _) _) _ _ _); (with_reducible rename Fr _ _ _ _ => kF9); (fail_if_success (with_reducible have : Fr _ _ _ ‹Str → Option Value› := kF9)); refine letm kF9 ?_; clear kF9; intro m9 F9) | ktr_member | ((fail_if_success (with_reducible show (if _ then _ else _))); first | walk1 | (dsimp only; walk1)))
    exact EltInt.intro rfl (by k_asm) (by k_asm)
  · intro gg vs hv
    replace hv : IntsAre vs (comesL e u (S.known e u) (nn + 1)) := hv
    unfold LCg.FinA
    intro D hh tk9 F9 N9 o9
    replace N9 : News g' L' hh (((D, LCg.lst vs) :: (L' + 1 + 1, o1) :: (L' + 1, o2) :: W) ++ Lg lay O) := N9
    have hl9 : Lay lay ((D, LCg.lst vs) :: (L' + 1 + 1, o1) :: (L' + 1, o2) :: W) := lay_off1 hlc o9
    repeat' ((fail_if_success (with_reducible show LCg.CompSrc _ _ _ _ _ _ _ _ _ _ _ _ _ _)); (fail_if_success (with_reducible show LCt.CompSrcT _ _ _ _ _ _ _ _ _ _ _ _ _ _ _)); (fail_if_success (with_reducible show wpAny _ _ (pyIter _) _ _ _)); (fail_if_success (with_reducible show wpAny _ _ (call (Value.ref 111) _) _ _ _)); first | (k_unfold; (try dsimp only)) | ((with_reducible show wpAny _ _ (execs (_ :: _) _) _ _ (Shared.mk _ _ _ (HAdd.hAdd _ _) _)); refine genT ?_; intro tk9) | ((with_reducible show wpAny _ _ (exec _ _) _ _ _); (fail_if_success (fail_if_success k_fold)); refine letQ ?_; intro q9) | ((with_reducible show wpAny _ _ (execs (_ :: _) _) _ _ _); (with_reducible rename Fr _ _ _ _ => kF9); (fail_if_success (with_reducible have : Fr _ _ _ ‹Str → Option Value› := kF9)); refine letm kF9 ?_; clear kF9; intro m9 F9) | ktr_member | ((fail_if_success (with_reducible show (if _ then _ else _))); first | walk1 | (dsimp only; walk1)))
    have q1 : ¬ (!decide (comesL e u (S.known e u) (nn + 1) = comesL e u (S.known e u) (nn + 1))) = true := by simp
    refine' Fn.use ?k1 ?k2 ?k3 ?k4 ?k5 ?kK (c_peer w lay _ _ ?kl ?kf e u nn kd _ _ (S.told e) (S.known e) _ _ _ _ ?kg ?kp ?a1 b0 ?a3 ?a4 h3 hk9) ?kd ?ku ?_
    (case k1 => k_asm)
    (case k2 => k_asm)
    (case k3 => k_asm)
    (case k4 => k_asm)
    (case k5 => k_asm)
    (case kK => first | exact rfl | assumption)
    (case kd => ktr_room)
    (case ku => ktr_units)
    (case kl => assumption)
    (case kf => exact Fix.put fx trivial)
    (case kg => mod_arm)
    (case kp => mod_arm)
    (case a1 => omega)
    (case a3 => omega)
    (case a4 => omega)
    intro r9 W9 O9 h9 tk9 F9 N9 hl9 hs9 hP9
    (try dsimp only)
    (try k_sweep)
    obtain ⟨l, vs', n', rfl, hm', hv', t', rfl⟩ := hP9
    have hD9 := hs9 _ (List.Mem.head _)
    have hc1 := hs9 _ (List.Mem.tail _ (List.Mem.head _))
    have hc2 := hs9 _ (List.Mem.tail _ (List.Mem.tail _ (List.Mem.head _)))
    repeat' ((fail_if_success (with_reducible show LCg.CompSrc _ _ _ _ _ _ _ _ _ _ _ _ _ _)); (fail_if_success (with_reducible show LCt.CompSrcT _ _ _ _ _ _ _ _ _ _ _ _ _ _ _)); (fail_if_success (with_reducible show wpAny _ _ (pyIter _) _ _ _)); (fail_if_success (with_reducible show wpAny _ _ (call (Value.ref 111) _) _ _ _)); first | (k_unfold; (try dsimp only)) | ((with_reducible show wpAny _ _ (execs (_ :: _) _) _ _ (Shared.mk _ _ _ (HAdd.hAdd _ _) _)); refine genT ?_; intro tk9) | ((with_reducible show wpAny _ _ (exec _ _) _ _ _); (fail_if_success (fail_if_success k_fold)); refine letQ ?_; intro q9) | ((with_reducible show wpAny _ _ (execs (_ :: _) _) _ _ _); (with_reducible rename Fr _ _ _ _ => kF9); (fail_if_success (with_reducible have : Fr _ _ _ ‹Str → Option Value› := kF9)); refine letm kF9 ?_; clear kF9; intro m9 F9) | ktr_member | ((fail_if_success (with_reducible show (if _ then _ else _))); first | walk1 | (dsimp only; walk1)))
    refine' Fn.use ?k1 ?k2 ?k3 ?k4 ?k5 ?kK (c_own w lay _ _ ?kl ?kf e u nn _ _ (S.opened e) _ _ ?kg h1) ?kd ?ku ?_
    (case k1 => k_asm)
    (case k2 => k_asm)
    (case k3 => k_asm)
    (case k4 => k_asm)
    (case k5 => k_asm)
    (case kK => first | exact rfl | assumption)
    (case kd => ktr_room)
    (case ku => ktr_units)
    (case kl => assumption)
    (case kf => exact Fix.put (Fix.put fx trivial) trivial)
    (case kg => mod_arm)
    intro r8 W8 O8 h8 tk8 F8 N8 hl8 hs8 hP8
    (try dsimp only)
    (try k_sweep)
    obtain ⟨rfl, l8, n8, rfl, hm8⟩ := hP8
    repeat' ((fail_if_success (with_reducible show LCg.CompSrc _ _ _ _ _ _ _ _ _ _ _ _ _ _)); (fail_if_success (with_reducible show LCt.CompSrcT _ _ _ _ _ _ _ _ _ _ _ _ _ _ _)); (fail_if_success (with_reducible show wpAny _ _ (pyIter _) _ _ _)); (fail_if_success (with_reducible show wpAny _ _ (call (Value.ref 111) _) _ _ _)); first | (k_unfold; (try dsimp only)) | ((with_reducible show wpAny _ _ (execs (_ :: _) _) _ _ (Shared.mk _ _ _ (HAdd.hAdd _ _) _)); refine genT ?_; intro tk9) | ((with_reducible show wpAny _ _ (exec _ _) _ _ _); (fail_if_success (fail_if_success k_fold)); refine letQ ?_; intro q9) | ((with_reducible show wpAny _ _ (execs (_ :: _) _) _ _ _); (with_reducible rename Fr _ _ _ _ => kF9); (fail_if_success (with_reducible have : Fr _ _ _ ‹Str → Option Value› := kF9)); refine letm kF9 ?_; clear kF9; intro m9 F9) | ktr_member | ((fail_if_success (with_reducible show (if _ then _ else _))); first | walk1 | (dsimp only; walk1)))
    have hsub : ∀ q ∈ W, q ∈ W8 := fun q h => hs8 q (hs9 q (.tail _ (.tail _ (.tail _ h))))
    exact ret _ ((_, _) :: W8) _ _ _ (by k_asm) (by k_asm) (by assumption) (fun q h => .tail _ (hsub q h)) ⟨rfl, (R.known2 e u _ _ _ _ _).mono fun q h => .tail _ (hsub q h)⟩
end

/-! part S2 -/
section

noncomputable def letsOf (S : St) (e u : Bool) : Int := S.first e u + ((S.over e u).length : Nat)
open Classical in
noncomputable def toldS (S : St) (e u : Bool) : St := if letsOf S e u = S.told e u ∧ S.lost e u = false then S else
  { S with told := set2 S.told e u (letsOf S e u), lost := set2 S.lost e u false, wire := S.wire ++ [.lt e u (letsOf S e u)] }

theorem c_told (w : World) (lay : Slot → Addr) (W : Led) (O : Slot → Obj) (hl : Lay lay W) (S : St) (R : Rel w lay W O S) (e u : Bool) (te tu : Tok)
    (b1 : (S.over e u).length ≤ 500) (b2 : S.wire.length ≤ 500) :
    Fn w 165 20 [.ref (lay .ends), .ref (lay .net), .int (b2i e) te, .int (b2i u) tu] lay W O (fun r W' O' => r = .bool true ∧ Rel w lay W' O' (toldS S e u)) := by
  obtain ⟨ft, fk, hfi⟩ := R.first e
  obtain ⟨tt, tk0, hto⟩ := R.told e
  obtain ⟨ok, hlo⟩ := R.lost e
  obtain ⟨ovs, ovn, hov, hoi⟩ := R.over e u
  obtain ⟨orn, hor⟩ := R.fn.orow e
  obtain ⟨lt, ln, htl⟩ := R.toldL e
  obtain ⟨pt, pn, hpl⟩ := R.peerL e
  obtain ⟨wn, how⟩ := R.owes e
  obtain ⟨wvs, wnn, hwi, hww⟩ := R.wire
  obtain ⟨on, hnet, hnd⟩ := R.fn.net
  obtain ⟨o1n, ho1⟩ := R.fn.outer .first
  obtain ⟨o2n, ho2⟩ := R.fn.outer .told
  obtain ⟨o3n, ho3⟩ := R.fn.outer .lost
  obtain ⟨o4n, ho4⟩ := R.fn.outer .over
  have hwl := hww.length
  have hends := R.fx.ends
  have fx := R.fx
  obtain ⟨dh, dt, dn, hD⟩ := fx.dct (!e)
  have hI := fx.inst (!e)
  by_cases hc : letsOf S e u = S.told e u ∧ S.lost e u = false
  · have f1 : ¬ (S.first e u + ((S.over e u).length : Nat) != S.told e u) = true := by rw [show S.first e u + ((S.over e u).length : Nat) = S.told e u from hc.1]; simp
    have f2 : ¬ S.lost e u = true := by rw [hc.2]; decide
    unfold Fn
    intro p loose mean mg mb dp un gd cn cs a ccd cl outer A₀ base h₀ L m s Q E B F X N T hk hd hu ret
    refine wpAny_call ?_
    k_dflt ktr_enter
    repeat' ((fail_if_success (with_reducible show LCg.CompSrc _ _ _ _ _ _ _ _ _ _ _ _ _ _)); (fail_if_success (with_reducible show LCt.CompSrcT _ _ _ _ _ _ _ _ _ _ _ _ _ _ _)); (fail_if_success (with_reducible show wpAny _ _ (pyIter _) _ _ _)); (fail_if_success (with_reducible show wpAny _ _ (call (Value.ref 125) _) _ _ _)); first | (k_unfold; (try dsimp only)) | ((with_reducible show wpAny _ _ (execs (_ :: _) _) _ _ (Shared.mk _ _ _ (HAdd.hAdd _ _) _)); refine genT ?_; intro tk9) | ((with_reducible show wpAny _ _ (exec _ _) _ _ _); (fail_if_success (fail_if_success k_fold)); refine letQ ?_; intro q9) | ((with_reducible show wpAny _ _ (execs (_ :: _) _) _ _ _); (with_reducible rename Fr _ _ _ _ => kF9); (fail_if_success (with_reducible have : Fr _ _ _ ‹Str → Option Value› := kF9)); refine letm kF9 ?_; clear kF9; intro m9 F9) | ktr_member | ((fail_if_success (with_reducible show (if _ then _ else _))); first | walk1 | (dsimp only; walk1)))
    rw [b2i_one]
    refine' Fn.use ?k1 ?k2 ?k3 ?k4 ?k5 ?kK (c_grant w lay _ _ ?kl ?kf (!e) u (S.told e) (fun u => S.first e u + ((S.over e u).length : Nat)) (S.lost e) _ _ _ _ _ ?kg ?kp ?kb) ?kd ?ku ?_
    (case k1 => k_asm)
    (case k2 => k_asm)
    (case k3 => k_asm)
    (case k4 => k_asm)
    (case k5 => k_asm)
    (case kK => first | exact rfl | assumption)
    (case kd => ktr_room)
    (case ku => ktr_units)
    (case kl => assumption)
    (case kf => assumption)
    (case kg => mod_arm)
    (case kp => mod_arm)
    (case kb => mod_arm)
    intro r9 W9 O9 h9 tk9 F9 N9 hl9 hs9 hP9
    (try dsimp only)
    (try k_sweep)
    obtain ⟨hW, h⟩ := hP9
    subst hW
    rcases h with ⟨_, _, rfl, rfl⟩ | ⟨hx, _⟩
    · repeat' ((fail_if_success (with_reducible show LCg.CompSrc _ _ _ _ _ _ _ _ _ _ _ _ _ _)); (fail_if_success (with_reducible show LCt.CompSrcT _ _ _ _ _ _ _ _ _ _ _ _ _ _ _)); (fail_if_success (with_reducible show wpAny _ _ (pyIter _) _ _ _)); (fail_if_success (with_reducible show wpAny _ _ (call (Value.ref 125) _) _ _ _)); first | (k_unfold; (try dsimp only)) | ((with_reducible show wpAny _ _ (execs (_ :: _) _) _ _ (Shared.mk _ _ _ (HAdd.hAdd _ _) _)); refine genT ?_; intro tk9) | ((with_reducible show wpAny _ _ (exec _ _) _ _ _); (fail_if_success (fail_if_success k_fold)); refine letQ ?_; intro q9) | ((with_reducible show wpAny _ _ (execs (_ :: _) _) _ _ _); (with_reducible rename Fr _ _ _ _ => kF9); (fail_if_success (with_reducible have : Fr _ _ _ ‹Str → Option Value› := kF9)); refine letm kF9 ?_; clear kF9; intro m9 F9) | ktr_member | ((fail_if_success (with_reducible show (if _ then _ else _))); first | walk1 | (dsimp only; walk1)))
      exact ret _ W _ _ _ (by k_asm) (by k_asm) (by assumption) (fun _ h => h) ⟨rfl, by rw [toldS, if_pos hc]; exact R⟩
    · exact absurd ⟨hc.1.symm, hc.2⟩ hx
  · have f3 : ¬ (S.first e u + ((S.over e u).length : Nat) != S.first e u + ((S.over e u).length : Nat)) = true := by simp
    by_cases h1 : letsOf S e u = S.told e u
    · have f1 : ¬ (S.first e u + ((S.over e u).length : Nat) != S.told e u) = true := by rw [show S.first e u + ((S.over e u).length : Nat) = S.told e u from h1]; simp
      have f2 : S.lost e u = true := by cases h : S.lost e u; exact absurd ⟨h1, h⟩ hc; rfl
      unfold Fn
      intro p loose mean mg mb dp un gd cn cs a ccd cl outer A₀ base h₀ L m s Q E B F X N T hk hd hu ret
      refine wpAny_call ?_
      k_dflt ktr_enter
      repeat' ((fail_if_success (with_reducible show LCg.CompSrc _ _ _ _ _ _ _ _ _ _ _ _ _ _)); (fail_if_success (with_reducible show LCt.CompSrcT _ _ _ _ _ _ _ _ _ _ _ _ _ _ _)); (fail_if_success (with_reducible show wpAny _ _ (pyIter _) _ _ _)); (fail_if_success (with_reducible show wpAny _ _ (call (Value.ref 125) _) _ _ _)); first | (k_unfold; (try dsimp only)) | ((with_reducible show wpAny _ _ (execs (_ :: _) _) _ _ (Shared.mk _ _ _ (HAdd.hAdd _ _) _)); refine genT ?_; intro tk9) | ((with_reducible show wpAny _ _ (exec _ _) _ _ _); (fail_if_success (fail_if_success k_fold)); refine letQ ?_; intro q9) | ((with_reducible show wpAny _ _ (execs (_ :: _) _) _ _ _); (with_reducible rename Fr _ _ _ _ => kF9); (fail_if_success (with_reducible have : Fr _ _ _ ‹Str → Option Value› := kF9)); refine letm kF9 ?_; clear kF9; intro m9 F9) | ktr_member | ((fail_if_success (with_reducible show (if _ then _ else _))); first | walk1 | (dsimp only; walk1)))
      rw [b2i_one]
      refine' Fn.use ?k1 ?k2 ?k3 ?k4 ?k5 ?kK (c_grant w lay _ _ ?kl ?kf (!e) u (S.told e) (fun u => S.first e u + ((S.over e u).length : Nat)) (S.lost e) _ _ _ _ _ ?kg ?kp ?kb) ?kd ?ku ?_
      (case k1 => k_asm)
      (case k2 => k_asm)
      (case k3 => k_asm)
      (case k4 => k_asm)
      (case k5 => k_asm)
      (case kK => first | exact rfl | assumption)
      (case kd => ktr_room)
      (case ku => ktr_units)
      (case kl => assumption)
      (case kf => assumption)
      (case kg => mod_arm)
      (case kp => mod_arm)
      (case kb => mod_arm)
      intro r9 W9 O9 h9 tk9 F9 N9 hl9 hs9 hP9
      (try dsimp only)
      (try k_sweep)
      obtain ⟨hW, h⟩ := hP9
      subst hW
      rcases h with ⟨hx, hy, _⟩ | ⟨_, ⟨t1, rfl⟩, t2, rfl⟩
      · exact absurd ⟨hx.symm, hy⟩ hc
      · repeat' ((fail_if_success (with_reducible show LCg.CompSrc _ _ _ _ _ _ _ _ _ _ _ _ _ _)); (fail_if_success (with_reducible show LCt.CompSrcT _ _ _ _ _ _ _ _ _ _ _ _ _ _ _)); (fail_if_success (with_reducible show wpAny _ _ (pyIter _) _ _ _)); (fail_if_success (with_reducible show wpAny _ _ (call (Value.ref 125) _) _ _ _)); first | (k_unfold; (try dsimp only)) | ((with_reducible show wpAny _ _ (execs (_ :: _) _) _ _ (Shared.mk _ _ _ (HAdd.hAdd _ _) _)); refine genT ?_; intro tk9) | ((with_reducible show wpAny _ _ (exec _ _) _ _ _); (fail_if_success (fail_if_success k_fold)); refine letQ ?_; intro q9) | ((with_reducible show wpAny _ _ (execs (_ :: _) _) _ _ _); (with_reducible rename Fr _ _ _ _ => kF9); (fail_if_success (with_reducible have : Fr _ _ _ ‹Str → Option Value› := kF9)); refine letm kF9 ?_; clear kF9; intro m9 F9) | ktr_member | ((fail_if_success (with_reducible show (if _ then _ else _))); first | walk1 | (dsimp only; walk1)))
        refine ret _ ((_, tupOf _) :: W) _ _ _ (by k_asm) (by k_asm) (by assumption) (fun _ h => .tail _ h) ⟨rfl, ?_⟩
        rw [toldS, if_neg hc]
        exact (R.mono fun _ h => .tail _ h).told4 e u (letsOf S e u) (.lt e u (letsOf S e u)) _ _ _ _ _ _ _ _ ((hww.mono fun _ h => .tail _ h).append (.cons (.head _) ⟨_, _, _, _, rfl⟩ .nil))
    · have f1 : (S.first e u + ((S.over e u).length : Nat) != S.told e u) = true := by rw [bne_iff_ne]; exact h1
      unfold Fn
      intro p loose mean mg mb dp un gd cn cs a ccd cl outer A₀ base h₀ L m s Q E B F X N T hk hd hu ret
      refine wpAny_call ?_
      k_dflt ktr_enter
      repeat' ((fail_if_success (with_reducible show LCg.CompSrc _ _ _ _ _ _ _ _ _ _ _ _ _ _)); (fail_if_success (with_reducible show LCt.CompSrcT _ _ _ _ _ _ _ _ _ _ _ _ _ _ _)); (fail_if_success (with_reducible show wpAny _ _ (pyIter _) _ _ _)); (fail_if_success (with_reducible show wpAny _ _ (call (Value.ref 125) _) _ _ _)); first | (k_unfold; (try dsimp only)) | ((with_reducible show wpAny _ _ (execs (_ :: _) _) _ _ (Shared.mk _ _ _ (HAdd.hAdd _ _) _)); refine genT ?_; intro tk9) | ((with_reducible show wpAny _ _ (exec _ _) _ _ _); (fail_if_success (fail_if_success k_fold)); refine letQ ?_; intro q9) | ((with_reducible show wpAny _ _ (execs (_ :: _) _) _ _ _); (with_reducible rename Fr _ _ _ _ => kF9); (fail_if_success (with_reducible have : Fr _ _ _ ‹Str → Option Value› := kF9)); refine letm kF9 ?_; clear kF9; intro m9 F9) | ktr_member | ((fail_if_success (with_reducible show (if _ then _ else _))); first | walk1 | (dsimp only; walk1)))
      rw [b2i_one]
      refine' Fn.use ?k1 ?k2 ?k3 ?k4 ?k5 ?kK (c_grant w lay _ _ ?kl ?kf (!e) u (S.told e) (fun u => S.first e u + ((S.over e u).length : Nat)) (S.lost e) _ _ _ _ _ ?kg ?kp ?kb) ?kd ?ku ?_
      (case k1 => k_asm)
      (case k2 => k_asm)
      (case k3 => k_asm)
      (case k4 => k_asm)
      (case k5 => k_asm)
      (case kK => first | exact rfl | assumption)
      (case kd => ktr_room)
      (case ku => ktr_units)
      (case kl => assumption)
      (case kf => assumption)
      (case kg => mod_arm)
      (case kp => mod_arm)
      (case kb => mod_arm)
      intro r9 W9 O9 h9 tk9 F9 N9 hl9 hs9 hP9
      (try dsimp only)
      (try k_sweep)
      obtain ⟨hW, h⟩ := hP9
      subst hW
      rcases h with ⟨hx, hy, _⟩ | ⟨_, ⟨t1, rfl⟩, t2, rfl⟩
      · exact absurd ⟨hx.symm, hy⟩ hc
      · repeat' ((fail_if_success (with_reducible show LCg.CompSrc _ _ _ _ _ _ _ _ _ _ _ _ _ _)); (fail_if_success (with_reducible show LCt.CompSrcT _ _ _ _ _ _ _ _ _ _ _ _ _ _ _)); (fail_if_success (with_reducible show wpAny _ _ (pyIter _) _ _ _)); (fail_if_success (with_reducible show wpAny _ _ (call (Value.ref 125) _) _ _ _)); first | (k_unfold; (try dsimp only)) | ((with_reducible show wpAny _ _ (execs (_ :: _) _) _ _ (Shared.mk _ _ _ (HAdd.hAdd _ _) _)); refine genT ?_; intro tk9) | ((with_reducible show wpAny _ _ (exec _ _) _ _ _); (fail_if_success (fail_if_success k_fold)); refine letQ ?_; intro q9) | ((with_reducible show wpAny _ _ (execs (_ :: _) _) _ _ _); (with_reducible rename Fr _ _ _ _ => kF9); (fail_if_success (with_reducible have : Fr _ _ _ ‹Str → Option Value› := kF9)); refine letm kF9 ?_; clear kF9; intro m9 F9) | ktr_member | ((fail_if_success (with_reducible show (if _ then _ else _))); first | walk1 | (dsimp only; walk1)))
        refine ret _ ((_, tupOf _) :: W) _ _ _ (by k_asm) (by k_asm) (by assumption) (fun _ h => .tail _ h) ⟨rfl, ?_⟩
        rw [toldS, if_neg hc]
        exact (R.mono fun _ h => .tail _ h).told4 e u (letsOf S e u) (.lt e u (letsOf S e u)) _ _ _ _ _ _ _ _ ((hww.mono fun _ h => .tail _ h).append (.cons (.head _) ⟨_, _, _, _, rfl⟩ .nil))
end

/-! part S3 -/
section

noncomputable def wdS (S : St) : Wd → St
  | .lt e u v => { S with heard := set2 S.heard e u (if v > S.heard e u then v else S.heard e u) }
  | .fr _ e u n => { S with known := set2 S.known e u (if n + 1 > S.known e u then n + 1 else S.known e u) }
/-- what a word needs, that it may come -/
noncomputable def WdOk (S : St) : Wd → Prop
  | .lt _ _ _ => True
  | .fr k e u n => 0 ≤ n ∧ n < S.opened e u ∧ (k.fs = true → u = false)
theorem c_comes (w : World) (lay : Slot → Addr) (W : Led) (O : Slot → Obj) (hl : Lay lay W) (S : St) (R : Rel w lay W O S) (wa : Addr) (items : List Value) (wd : Wd) (hm : (wa, tupOf items) ∈ W) (hi : IsWd items wd) (ok : WdOk S wd)
    (b0 : ∀ e u, 0 ≤ S.known e u) (b1 : ∀ e u, S.known e u ≤ S.opened e u) (b2 : ∀ e u, S.opened e u ≤ S.told e u) (b3 : ∀ e u, S.told e u < 500) :
    Fn w 177 30 [.ref (lay .ends), .ref (lay .net), .ref wa] lay W O (fun r W' O' => r = .bool true ∧ Rel w lay W' O' (wdS S wd)) := by
  cases wd with
  | lt e u v =>
    obtain ⟨t0, t1, t2, t3, rfl⟩ := hi
    obtain ⟨ht, hn, hhe⟩ := R.heard e
    obtain ⟨lt, ln, hol⟩ := R.ownL e
    obtain ⟨on, hnet, hnd⟩ := R.fn.net
    obtain ⟨o1n, ho1⟩ := R.fn.outer .heard
    have hends := R.fx.ends
    have fx := R.fx
    obtain ⟨dh, dt, dn, hD⟩ := fx.dct e
    have hI := fx.inst e
    have f1 : ¬ (Str.ofString "let" != Str.ofString "let") = true := by decide
    unfold Fn
    intro p loose mean mg mb dp un gd cn cs a ccd cl outer A₀ base h₀ L m s Q E B F X N T hk hd hu ret
    refine wpAny_call ?_
    k_dflt ktr_enter
    repeat' ((fail_if_success (with_reducible show LCg.CompSrc _ _ _ _ _ _ _ _ _ _ _ _ _ _)); (fail_if_success (with_reducible show LCt.CompSrcT _ _ _ _ _ _ _ _ _ _ _ _ _ _ _)); (fail_if_success (with_reducible show wpAny _ _ (pyIter _) _ _ _)); (fail_if_success (with_reducible show wpAny _ _ (call (Value.ref 106) _) _ _ _)); first | (k_unfold; (try dsimp only)) | ((with_reducible show wpAny _ _ (execs (_ :: _) _) _ _ (Shared.mk _ _ _ (HAdd.hAdd _ _) _)); refine genT ?_; intro tk9) | ((with_reducible show wpAny _ _ (exec _ _) _ _ _); (fail_if_success (fail_if_success k_fold)); refine letQ ?_; intro q9) | ((with_reducible show wpAny _ _ (execs (_ :: _) _) _ _ _); (with_reducible rename Fr _ _ _ _ => kF9); (fail_if_success (with_reducible have : Fr _ _ _ ‹Str → Option Value› := kF9)); refine letm kF9 ?_; clear kF9; intro m9 F9) | ktr_member | ((fail_if_success (with_reducible show (if _ then _ else _))); first | walk1 | (dsimp only; walk1)))
    rw [b2i_one]
    refine' Fn.use ?k1 ?k2 ?k3 ?k4 ?k5 ?kK (c_raise w lay _ _ ?kl ?kf e u (S.heard e) _ _ ?kh _ _) ?kd ?ku ?_
    (case k1 => k_asm)
    (case k2 => k_asm)
    (case k3 => k_asm)
    (case k4 => k_asm)
    (case k5 => k_asm)
    (case kK => first | exact rfl | assumption)
    (case kd => ktr_room)
    (case ku => ktr_units)
    (case kl => assumption)
    (case kf => assumption)
    (case kh => mod_arm)
    intro r9 W9 O9 h9 tk9 F9 N9 hl9 hs9 hP9
    (try dsimp only)
    (try k_sweep)
    obtain ⟨hW, rfl, t9, rfl⟩ := hP9
    subst hW
    repeat' ((fail_if_success (with_reducible show LCg.CompSrc _ _ _ _ _ _ _ _ _ _ _ _ _ _)); (fail_if_success (with_reducible show LCt.CompSrcT _ _ _ _ _ _ _ _ _ _ _ _ _ _ _)); (fail_if_success (with_reducible show wpAny _ _ (pyIter _) _ _ _)); (fail_if_success (with_reducible show wpAny _ _ (call (Value.ref 106) _) _ _ _)); first | (k_unfold; (try dsimp only)) | ((with_reducible show wpAny _ _ (execs (_ :: _) _) _ _ (Shared.mk _ _ _ (HAdd.hAdd _ _) _)); refine genT ?_; intro tk9) | ((with_reducible show wpAny _ _ (exec _ _) _ _ _); (fail_if_success (fail_if_success k_fold)); refine letQ ?_; intro q9) | ((with_reducible show wpAny _ _ (execs (_ :: _) _) _ _ _); (with_reducible rename Fr _ _ _ _ => kF9); (fail_if_success (with_reducible have : Fr _ _ _ ‹Str → Option Value› := kF9)); refine letm kF9 ?_; clear kF9; intro m9 F9) | ktr_member | ((fail_if_success (with_reducible show (if _ then _ else _))); first | walk1 | (dsimp only; walk1)))
    exact ret _ W _ _ _ (by k_asm) (by k_asm) (by assumption) (fun _ h => h) ⟨rfl, R.heard2 e u _ _ _ _ _⟩
  | fr kd e u n =>
    obtain ⟨t0, t1, t2, t3, rfl⟩ := hi
    have f1 : (kd.str != Str.ofString "let") = true := by cases kd <;> decide
    unfold Fn
    intro p loose mean mg mb dp un gd cn cs a ccd cl outer A₀ base h₀ L m s Q E B F X N T hk hd hu ret
    refine wpAny_call ?_
    k_dflt ktr_enter
    repeat' ((fail_if_success (with_reducible show LCg.CompSrc _ _ _ _ _ _ _ _ _ _ _ _ _ _)); (fail_if_success (with_reducible show LCt.CompSrcT _ _ _ _ _ _ _ _ _ _ _ _ _ _ _)); (fail_if_success (with_reducible show wpAny _ _ (pyIter _) _ _ _)); (fail_if_success (with_reducible show wpAny _ _ (call (Value.ref 158) _) _ _ _)); first | (k_unfold; (try dsimp only)) | ((with_reducible show wpAny _ _ (execs (_ :: _) _) _ _ (Shared.mk _ _ _ (HAdd.hAdd _ _) _)); refine genT ?_; intro tk9) | ((with_reducible show wpAny _ _ (exec _ _) _ _ _); (fail_if_success (fail_if_success k_fold)); refine letQ ?_; intro q9) | ((with_reducible show wpAny _ _ (execs (_ :: _) _) _ _ _); (with_reducible rename Fr _ _ _ _ => kF9); (fail_if_success (with_reducible have : Fr _ _ _ ‹Str → Option Value› := kF9)); refine letm kF9 ?_; clear kF9; intro m9 F9) | ktr_member | ((fail_if_success (with_reducible show (if _ then _ else _))); first | walk1 | (dsimp only; walk1)))
    refine' Fn.use ?k1 ?k2 ?k3 ?k4 ?k5 ?kK (c_said w lay _ _ ?kl S ?kr e u n kd _ _ _ _ (b0 e u) (b1 e u) (b2 e u) (b3 e u) ok.1 ok.2.1 ok.2.2) ?kd ?ku ?_
    (case k1 => k_asm)
    (case k2 => k_asm)
    (case k3 => k_asm)
    (case k4 => k_asm)
    (case k5 => k_asm)
    (case kK => first | exact rfl | assumption)
    (case kd => ktr_room)
    (case ku => ktr_units)
    (case kl => assumption)
    (case kr => assumption)
    intro r9 W9 O9 h9 tk9 F9 N9 hl9 hs9 hP9
    (try dsimp only)
    (try k_sweep)
    obtain ⟨rfl, R9⟩ := hP9
    repeat' ((fail_if_success (with_reducible show LCg.CompSrc _ _ _ _ _ _ _ _ _ _ _ _ _ _)); (fail_if_success (with_reducible show LCt.CompSrcT _ _ _ _ _ _ _ _ _ _ _ _ _ _ _)); (fail_if_success (with_reducible show wpAny _ _ (pyIter _) _ _ _)); (fail_if_success (with_reducible show wpAny _ _ (call (Value.ref 158) _) _ _ _)); first | (k_unfold; (try dsimp only)) | ((with_reducible show wpAny _ _ (execs (_ :: _) _) _ _ (Shared.mk _ _ _ (HAdd.hAdd _ _) _)); refine genT ?_; intro tk9) | ((with_reducible show wpAny _ _ (exec _ _) _ _ _); (fail_if_success (fail_if_success k_fold)); refine letQ ?_; intro q9) | ((with_reducible show wpAny _ _ (execs (_ :: _) _) _ _ _); (with_reducible rename Fr _ _ _ _ => kF9); (fail_if_success (with_reducible have : Fr _ _ _ ‹Str → Option Value› := kF9)); refine letm kF9 ?_; clear kF9; intro m9 F9) | ktr_member | ((fail_if_success (with_reducible show (if _ then _ else _))); first | walk1 | (dsimp only; walk1)))
    exact ret _ W9 O9 _ _ (by k_asm) (by k_asm) (by assumption) hs9 ⟨rfl, R9⟩
end

/-! part C2 -/
section

section
variable {w : World} {A : Around} {E : Value → Shared → Prop} {s : Shared} {h₀ : Heap} {env : Env} {x : Str} {body : List Stmt} {Q : Flow → Shared → Prop} {lay : Slot → Addr} {C : Led}
/-- a turn's end: left, or all stands again for the next turn -/
noncomputable def TurnEnd (w : World) (h₀ : Heap) (L : Addr) (s : Shared) (lay : Slot → Addr) (C : Led) (I : Addr) (it : Obj) (J : (Str → Option Value) → St → Prop) (Q : Flow → Shared → Prop) (f : Flow) (s₂ : Shared) : Prop :=
  match f with
  | .ret v => Q (.ret v) s₂
  | .brk => Q .next s₂
  | _ => ∃ h' tk m' W' O' S', s₂ = { s with heap := h', toks := tk } ∧ Fr h₀ L h' m' ∧ News h₀ L h' (W' ++ Lg lay O') ∧ Lay lay W' ∧ (I, it) ∈ W' ∧ (∀ p ∈ C, p ∈ W') ∧ Rel w lay W' O' S' ∧ J m' S'

theorem Words.filter {W : Led} {I : Addr} (hI : ∀ a items, (a, tupOf items) ∈ W → a ≠ I) : ∀ {vs : List Value} {ws : List Wd}, Words W vs ws → Words (W.filter fun p => p.1 != I) vs ws
  | _, _, .nil => .nil
  | _, _, .cons a b c => .cons (List.mem_filter.mpr ⟨a, by simpa using hI _ _ a⟩) b (c.filter hI)

theorem range_rest {I : Addr} {a : Int} {n : Nat} {s₀ : Shared} {J : Nat → (Str → Option Value) → St → Prop} (hCI : ∀ p ∈ C, p.1 ≠ I)
    (turn : ∀ (i : Nat) (m₁ : Str → Option Value) (W₁ : Led) (O₁ : Slot → Obj) (S₁ : St) (t : Tok) (h : Heap) (tk : Nat) (it : Obj), i < n → J i m₁ S₁ → Rel w lay W₁ O₁ S₁ → (∀ p ∈ C, p ∈ W₁) → Lay lay W₁ → (I, it) ∈ W₁ →
      Fr h₀ env.locals h (fun y => if y = x then some (.int (a + (i : Int)) t) else m₁ y) → News h₀ env.locals h (W₁ ++ Lg lay O₁) →
      wpAny (model PR w) A (execs body env) (TurnEnd w h₀ env.locals { s₀ with heap := h, toks := tk } lay C I it (J (i + 1)) Q) E { s₀ with heap := h, toks := tk })
    (done : ∀ (m₁ : Str → Option Value) (W₁ : Led) (O₁ : Slot → Obj) (S₁ : St) (h : Heap) (tk : Nat), J n m₁ S₁ → Rel w lay W₁ O₁ S₁ → (∀ p ∈ C, p ∈ W₁) → Lay lay W₁ → Fr h₀ env.locals h m₁ → News h₀ env.locals h (W₁ ++ Lg lay O₁) → Q .next { s₀ with heap := h, toks := tk }) :
    ∀ (k i : Nat) (m₁ : Str → Option Value) (W₁ : Led) (O₁ : Slot → Obj) (S₁ : St), i + k = n → J i m₁ S₁ → Rel w lay W₁ O₁ S₁ → (∀ p ∈ C, p ∈ W₁) → Lay lay W₁ → (∀ sl, lay sl ≠ I) → (∀ p ∈ W₁, p.1 ≠ I) →
      RangeRest PR w A E h₀ env x body Q s₀ I a n k i m₁ (W₁ ++ Lg lay O₁) := by
  intro k
  induction k with
  | zero =>
    intro i m₁ W₁ O₁ S₁ hi hJ R hC hl _ _ h tk F N
    have : i = n := by omega
    subst this
    exact done m₁ W₁ O₁ S₁ h tk hJ R hC hl F N
  | succ k ih =>
    intro i m₁ W₁ O₁ S₁ hi hJ R hC hl hS hW t h tk F N
    refine wpAny_mono (turn i m₁ ((I, itR (a + ((i + 1 : Nat) : Int)) ((n : Int) - ((i + 1 : Nat) : Int))) :: W₁) O₁ S₁ t h tk _ (by omega) hJ (R.mono fun _ h => .tail _ h) (fun p hp => .tail _ (hC p hp)) (hl.cons fun sl q => hS sl q.symm) (.head _) F N) (fun f s₂ hf => ?_) fun _ _ e => e
    have fin : (∃ h' tk' m' W' O' S', s₂ = { ({ s₀ with heap := h, toks := tk } : Shared) with heap := h', toks := tk' } ∧ Fr h₀ env.locals h' m' ∧ News h₀ env.locals h' (W' ++ Lg lay O') ∧ Lay lay W' ∧ (I, itR (a + ((i + 1 : Nat) : Int)) ((n : Int) - ((i + 1 : Nat) : Int))) ∈ W' ∧ (∀ p ∈ C, p ∈ W') ∧ Rel w lay W' O' S' ∧ J (i + 1) m' S') →
        UnrEnd h₀ env.locals { s₀ with heap := h, toks := tk } I (itR (a + ((i + 1 : Nat) : Int)) ((n : Int) - ((i + 1 : Nat) : Int))) (RangeRest PR w A E h₀ env x body Q s₀ I a n k (i + 1)) s₂ := by
      rintro ⟨h', tk', m', W', O', S', rfl, F', N', hl', hI', hC', R', hJ'⟩
      have htup : ∀ b items, (b, tupOf items) ∈ W' → b ≠ I := by
        intro b items hb hbI
        have h1 := (N' _ (mem_W hb)).1
        have h2 := (N' _ (mem_W hI')).1
        rw [hbI] at h1
        have h3 := Option.some.inj (h1.symm.trans h2)
        have h4 := congrArg Obj.cls h3
        exact absurd (Value.type.inj h4) (by decide)
      refine UnrEnd.intro F' N' ((W'.filter fun p => p.1 != I) ++ Lg lay O') (fun p hp => ?_) (fun p hp => ?_) ?_
      · rcases List.mem_cons.mp hp with rfl | hp
        · exact mem_W hI'
        · rcases List.mem_append.mp hp with hp | hp
          · exact mem_W (List.mem_filter.mp hp).1
          · exact List.mem_append_right _ hp
      · rcases List.mem_append.mp hp with hp | hp
        · simpa using (List.mem_filter.mp hp).2
        · obtain ⟨sl, _, rfl⟩ := List.mem_map.mp hp
          exact hS sl
      · refine ih (i + 1) m' _ O' S' (by omega) hJ' ?_ (fun p hp => List.mem_filter.mpr ⟨hC' p hp, by simpa using hCI p hp⟩) ⟨hl'.inj, fun p hp => hl'.off p (List.mem_filter.mp hp).1⟩ hS (fun p hp => by simpa using (List.mem_filter.mp hp).2)
        exact { R' with wire := let ⟨vs, k, a, b⟩ := R'.wire; ⟨vs, k, a, b.filter htup⟩ }
    cases f with
    | ret v => exact hf
    | brk => exact hf
    | next => exact fin hf
    | cont => exact fin hf

theorem loop_range {r : Addr} {a b : Int} {t u v : Tok} {W : Led} {O : Slot → Obj} {S : St} {m₀ : Str → Option Value} (J : Nat → (Str → Option Value) → St → Prop) (C : Led) (hh : A.handled = none) (hr : IsRange s.heap r a b 1 t u v) (ha : -100000 < a) (ha' : a < 100000) (hb : -100000 < b) (hb' : b < 100000)
    (F : Fr h₀ env.locals s.heap m₀) (N : News h₀ env.locals s.heap (W ++ Lg lay O)) (hl : Lay lay W) (R : Rel w lay W O S) (hC : ∀ p ∈ C, p ∈ W) (hJ : J 0 m₀ S)
    (turn : ∀ (g : Heap) (I : Addr) (i : Nat) (m₁ : Str → Option Value) (W₁ : Led) (O₁ : Slot → Obj) (S₁ : St) (t : Tok) (h : Heap) (tk : Nat) (it : Obj), i < (b - a).toNat → J i m₁ S₁ → Rel w lay W₁ O₁ S₁ → (∀ p ∈ C, p ∈ W₁) → Lay lay W₁ → (I, it) ∈ W₁ →
      Fr h₀ env.locals h (fun y => if y = x then some (.int (a + (i : Int)) t) else m₁ y) → News h₀ env.locals h (W₁ ++ Lg lay O₁) →
      wpAny (model PR w) A (execs body env) (TurnEnd w h₀ env.locals { s with heap := h, toks := tk } lay C I it (J (i + 1)) Q) E { s with heap := h, toks := tk })
    (done : ∀ (m₁ : Str → Option Value) (W₁ : Led) (O₁ : Slot → Obj) (S₁ : St) (h : Heap) (tk : Nat), J (b - a).toNat m₁ S₁ → Rel w lay W₁ O₁ S₁ → (∀ p ∈ C, p ∈ W₁) → Lay lay W₁ → Fr h₀ env.locals h m₁ → News h₀ env.locals h (W₁ ++ Lg lay O₁) → Q .next { s with heap := h, toks := tk }) :
    wpAny (model PR w) A (pyIter (.ref r)) (fun it s₂ => LoopAtV PR w A h₀ env x body Q E it s₂) E s := by
  refine iter_rangeUnr (n := (b - a).toNat) hh hr (small_one (by omega) (by omega) (by omega) (by omega)) (rangeSize_nat a b) F N fun I hlt => ?_
  obtain ⟨h1, h2⟩ := lay_lt hlt
  refine range_rest (s₀ := s) (J := J) (C := C) (fun p hp => Nat.ne_of_lt (h1 p (hC p hp))) (fun i m₁ W₁ O₁ S₁ t h tk it hi hJ R hC hl hI F N => turn s.heap I i m₁ W₁ O₁ S₁ t h tk it hi hJ R hC hl hI F N) done _ 0 m₀ W O S (by omega) hJ R hC hl (fun sl => Nat.ne_of_lt (h2 sl)) (fun p hp => Nat.ne_of_lt (h1 p hp))
theorem map_two {M m : Str → Option Value} {y₂ : Str} (h : ∀ y, y ≠ x → y ≠ y₂ → m y = M y) : m = fun y => if y = y₂ then m y₂ else if y = x then m x else M y := by
  funext y
  by_cases h1 : y = y₂
  · subst h1; rw [if_pos rfl]
  · by_cases h2 : y = x
    · subst h2; rw [if_neg h1, if_pos rfl]
    · rw [if_neg h1, if_neg h2, h y h2 h1]
theorem TurnEnd.imp {h₀ : Heap} {L : Addr} {I : Addr} {it : Obj} {J J' : (Str → Option Value) → St → Prop} {f : Flow} {s₂ : Shared} (k : ∀ m S, J m S → J' m S) (h : TurnEnd w h₀ L s lay C I it J Q f s₂) : TurnEnd w h₀ L s lay C I it J' Q f s₂ := by
  cases f with
  | ret v => exact h
  | brk => exact h
  | next => obtain ⟨h', tk, m', W', O', S', a, b, c, d, e, f, g, i⟩ := h; exact ⟨h', tk, m', W', O', S', a, b, c, d, e, f, g, k _ _ i⟩
  | cont => obtain ⟨h', tk, m', W', O', S', a, b, c, d, e, f, g, i⟩ := h; exact ⟨h', tk, m', W', O', S', a, b, c, d, e, f, g, k _ _ i⟩
theorem loop_range2 {r : Addr} {a b : Int} {t u v : Tok} {W : Led} {O : Slot → Obj} {S : St} {M : Str → Option Value} (y₂ : Str) (J : Nat → St → Prop) (C : Led) (hh : A.handled = none) (hr : IsRange s.heap r a b 1 t u v) (ha : -100000 < a) (ha' : a < 100000) (hb : -100000 < b) (hb' : b < 100000)
    (F : Fr h₀ env.locals s.heap M) (N : News h₀ env.locals s.heap (W ++ Lg lay O)) (hl : Lay lay W) (R : Rel w lay W O S) (hC : ∀ p ∈ C, p ∈ W) (hJ : J 0 S)
    (turn : ∀ (I : Addr) (i : Nat) (x₁ x₂ : Option Value) (W₁ : Led) (O₁ : Slot → Obj) (S₁ : St) (t : Tok) (h : Heap) (tk : Nat) (it : Obj), i < (b - a).toNat → J i S₁ → Rel w lay W₁ O₁ S₁ → (∀ p ∈ C, p ∈ W₁) → Lay lay W₁ → (I, it) ∈ W₁ →
      Fr h₀ env.locals h (fun y => if y = x then some (.int (a + (i : Int)) t) else if y = y₂ then x₂ else if y = x then x₁ else M y) → News h₀ env.locals h (W₁ ++ Lg lay O₁) →
      wpAny (model PR w) A (execs body env) (TurnEnd w h₀ env.locals { s with heap := h, toks := tk } lay C I it (fun m' S' => (∀ y, y ≠ x → y ≠ y₂ → m' y = M y) ∧ J (i + 1) S') Q) E { s with heap := h, toks := tk })
    (done : ∀ (x₁ x₂ : Option Value) (W₁ : Led) (O₁ : Slot → Obj) (S₁ : St) (h : Heap) (tk : Nat), J (b - a).toNat S₁ → Rel w lay W₁ O₁ S₁ → (∀ p ∈ C, p ∈ W₁) → Lay lay W₁ → Fr h₀ env.locals h (fun y => if y = y₂ then x₂ else if y = x then x₁ else M y) → News h₀ env.locals h (W₁ ++ Lg lay O₁) → Q .next { s with heap := h, toks := tk }) :
    wpAny (model PR w) A (pyIter (.ref r)) (fun it s₂ => LoopAtV PR w A h₀ env x body Q E it s₂) E s := by
  refine loop_range (J := fun i m₁ S₁ => (∃ x₁ x₂, m₁ = fun y => if y = y₂ then x₂ else if y = x then x₁ else M y) ∧ J i S₁) C hh hr ha ha' hb hb' F N hl R hC ⟨⟨M x, M y₂, map_two fun _ _ _ => rfl⟩, hJ⟩ ?_ ?_
  · rintro _ I i m₁ W₁ O₁ S₁ t h tk it hi ⟨⟨x₁, x₂, rfl⟩, hJ⟩ R hC hl hI F N
    exact wpAny_mono (turn I i x₁ x₂ W₁ O₁ S₁ t h tk it hi hJ R hC hl hI F N) (fun f s₂ hf => hf.imp fun m S q => ⟨⟨m x, m y₂, map_two q.1⟩, q.2⟩) fun _ _ e => e
  · rintro m₁ W₁ O₁ S₁ h tk ⟨⟨x₁, x₂, rfl⟩, hJ⟩ R hC hl F N
    exact done x₁ x₂ W₁ O₁ S₁ h tk hJ R hC hl F N
end
end

/-! part S4 -/
section

noncomputable def opAt (op he : Int) (i : Nat) : Int := if op + (i : Int) ≤ he then op + (i : Int) else he
theorem set2_id {α : Type} {f : Bool → Bool → α} {e u : Bool} : set2 f e u (f e u) = f := by
  funext a b
  by_cases h : a = e
  · subst h
    rw [set2_row]
    by_cases h2 : b = u
    · subst h2; rw [setB_self]
    · rw [setB_ne h2]
  · rw [set2_ne h]
theorem set2_set2 {α : Type} {f : Bool → Bool → α} {e u : Bool} {v v' : α} : set2 (set2 f e u v) e u v' = set2 f e u v' := by
  funext a b
  by_cases h : a = e
  · subst h
    rw [set2_row, set2_row, set2_row]
    by_cases h2 : b = u
    · subst h2; rw [setB_self, setB_self]
    · rw [setB_ne h2, setB_ne h2, setB_ne h2]
  · rw [set2_ne h, set2_ne h, set2_ne h]
theorem c_lopen (w : World) (lay : Slot → Addr) (W : Led) (O : Slot → Obj) (hl : Lay lay W) (S : St) (R : Rel w lay W O S) (e u : Bool) (k : Int) (te tu tk : Tok)
    (b1 : S.opened e u ≤ S.heard e u) (b2 : 0 ≤ S.opened e u) (b3 : S.heard e u < 500) (hk0 : -1000 < k) (hk1 : k < 1000) :
    Fn w 153 20 [.ref (lay .ends), .ref (lay .net), .int (b2i e) te, .int (b2i u) tu, .int k tk] lay W O (fun r W' O' => r = .bool true ∧ Rel w lay W' O' { S with opened := set2 S.opened e u (opAt (S.opened e u) (S.heard e u) k.toNat) }) := by
  unfold Fn
  intro p loose mean mg mb dp un gd cn cs a ccd cl outer A₀ base h₀ L m s Q E B F X N T hk hd hu ret
  refine wpAny_call ?_
  k_dflt ktr_enter
  repeat' ((fail_if_success (with_reducible show LCg.CompSrc _ _ _ _ _ _ _ _ _ _ _ _ _ _)); (fail_if_success (with_reducible show LCt.CompSrcT _ _ _ _ _ _ _ _ _ _ _ _ _ _ _)); (fail_if_success (with_reducible show wpAny _ _ (pyIter _) _ _ _)); (fail_if_success (with_reducible show wpAny _ _ (call (Value.ref 99) _) _ _ _)); first | (k_unfold; (try dsimp only)) | ((with_reducible show wpAny _ _ (execs (_ :: _) _) _ _ (Shared.mk _ _ _ (HAdd.hAdd _ _) _)); refine genT ?_; intro tk9) | ((with_reducible show wpAny _ _ (exec _ _) _ _ _); (fail_if_success (fail_if_success k_fold)); refine letQ ?_; intro q9) | ((with_reducible show wpAny _ _ (execs (_ :: _) _) _ _ _); (with_reducible rename Fr _ _ _ _ => kF9); (fail_if_success (with_reducible have : Fr _ _ _ ‹Str → Option Value› := kF9)); refine letm kF9 ?_; clear kF9; intro m9 F9) | ktr_member | ((fail_if_success (with_reducible show (if _ then _ else _))); first | walk1 | (dsimp only; walk1)))
  refine loop_range2 (w := w) (lay := lay) (Str.ofString "due") (fun i S₁ => S₁ = { S with opened := set2 S.opened e u (opAt (S.opened e u) (S.heard e u) i) }) W rfl (by assumption) (by omega) (by omega) (by omega) (by omega) (by k_asm) (by k_asm) (by assumption) R (fun _ h => h) ?_ ?_ ?_
  · have e0 : opAt (S.opened e u) (S.heard e u) 0 = S.opened e u := by unfold opAt; rw [if_pos (by omega)]; omega
    rw [e0, set2_id]
  · intro I i x₁ x₂ W₁ O₁ S₁ t h tk9 it hi hJ R₁ hC hl₁ hI F₁ N₁
    have hop : S₁.opened e u = opAt (S.opened e u) (S.heard e u) i := by rw [hJ]; exact set2_self
    have hhe : S₁.heard = S.heard := by rw [hJ]
    obtain ⟨at1, an1, hro⟩ := R₁.opened e
    obtain ⟨at2, an2, hrh⟩ := R₁.heard e
    obtain ⟨at3, an3, hfo⟩ := R₁.ownM e
    obtain ⟨at4, an4, hfh⟩ := R₁.ownL e
    obtain ⟨on, hnet, hnd⟩ := R₁.fn.net
    obtain ⟨o1n, ho1⟩ := R₁.fn.outer .opened
    obtain ⟨o2n, ho2⟩ := R₁.fn.outer .heard
    have hends := R₁.fx.ends
    have fx := R₁.fx
    obtain ⟨dh, dt, dn, hD⟩ := fx.dct e
    have hIe := fx.inst e
    have f9 : ¬ (sidOf (S₁.opened e u) e u != 4 * S₁.opened e u + b2i e + 2 * b2i u) = true := by simp [sidOf]
    by_cases hlt : S₁.opened e u < S₁.heard e u
    · have f1 : decide (S₁.opened e u < S₁.heard e u) = true := by rw [decide_eq_true_eq]; exact hlt
      repeat' ((fail_if_success (with_reducible show LCg.CompSrc _ _ _ _ _ _ _ _ _ _ _ _ _ _)); (fail_if_success (with_reducible show LCt.CompSrcT _ _ _ _ _ _ _ _ _ _ _ _ _ _ _)); (fail_if_success (with_reducible show wpAny _ _ (pyIter _) _ _ _)); (fail_if_success (with_reducible show wpAny _ _ (call (Value.ref 99) _) _ _ _)); first | (k_unfold; (try dsimp only)) | ((with_reducible show wpAny _ _ (execs (_ :: _) _) _ _ (Shared.mk _ _ _ (HAdd.hAdd _ _) _)); refine genT ?_; intro tk9) | ((with_reducible show wpAny _ _ (exec _ _) _ _ _); (fail_if_success (fail_if_success k_fold)); refine letQ ?_; intro q9) | ((with_reducible show wpAny _ _ (execs (_ :: _) _) _ _ _); (with_reducible rename Fr _ _ _ _ => kF9); (fail_if_success (with_reducible have : Fr _ _ _ ‹Str → Option Value› := kF9)); refine letm kF9 ?_; clear kF9; intro m9 F9) | ktr_member | ((fail_if_success (with_reducible show (if _ then _ else _))); first | walk1 | (dsimp only; walk1)))
      rw [b2i_one]
      refine' Fn.use ?k1 ?k2 ?k3 ?k4 ?k5 ?kK (c_open w lay _ _ ?kl ?kf e u (S₁.opened e) (S₁.heard e) _ _ _ _ ?kg ?kh) ?kd ?ku ?_
      (case k1 => k_asm)
      (case k2 => k_asm)
      (case k3 => k_asm)
      (case k4 => k_asm)
      (case k5 => k_asm)
      (case kK => first | exact rfl | assumption)
      (case kd => ktr_room)
      (case ku => ktr_units)
      (case kl => assumption)
      (case kf => exact Fix.put fx trivial)
      (case kg => mod_arm)
      (case kh => mod_arm)
      intro r9 W9 O9 h9 tk8 F9 N9 hl9 hs9 hP9
      (try dsimp only)
      (try k_sweep)
      obtain ⟨hW, hc⟩ := hP9
      subst hW
      rcases hc with ⟨hx, _⟩ | ⟨_, ⟨t8, rfl⟩, t7, rfl⟩
      · exact absurd hlt (by omega)
      · repeat' ((fail_if_success (with_reducible show LCg.CompSrc _ _ _ _ _ _ _ _ _ _ _ _ _ _)); (fail_if_success (with_reducible show LCt.CompSrcT _ _ _ _ _ _ _ _ _ _ _ _ _ _ _)); (fail_if_success (with_reducible show wpAny _ _ (pyIter _) _ _ _)); (fail_if_success (with_reducible show wpAny _ _ (call (Value.ref 99) _) _ _ _)); first | (k_unfold; (try dsimp only)) | ((with_reducible show wpAny _ _ (execs (_ :: _) _) _ _ (Shared.mk _ _ _ (HAdd.hAdd _ _) _)); refine genT ?_; intro tk9) | ((with_reducible show wpAny _ _ (exec _ _) _ _ _); (fail_if_success (fail_if_success k_fold)); refine letQ ?_; intro q9) | ((with_reducible show wpAny _ _ (execs (_ :: _) _) _ _ _); (with_reducible rename Fr _ _ _ _ => kF9); (fail_if_success (with_reducible have : Fr _ _ _ ‹Str → Option Value› := kF9)); refine letm kF9 ?_; clear kF9; intro m9 F9) | ktr_member | ((fail_if_success (with_reducible show (if _ then _ else _))); first | walk1 | (dsimp only; walk1)))
        refine ⟨_, _, _, W₁, _, { S₁ with opened := set2 S₁.opened e u (S₁.opened e u + 1) }, rfl, by k_asm, by k_asm, hl₁, hI, hC, R₁.opened2 e u _ _ _ _ _, ?_, ?_⟩
        · intro y h1 h2
          simp +zetaDelta only [h1, h2, if_false]
        · have e1 : opAt (S.opened e u) (S.heard e u) (i + 1) = S₁.opened e u + 1 := by
            rw [hhe] at hlt
            rw [hop] at hlt ⊢
            unfold opAt at hlt ⊢
            split at hlt <;> split <;> omega
          rw [e1]
          rw [hJ]
          dsimp only
          rw [set2_set2]
    · have f1 : ¬ decide (S₁.opened e u < S₁.heard e u) = true := by rw [decide_eq_true_eq]; exact hlt
      repeat' ((fail_if_success (with_reducible show LCg.CompSrc _ _ _ _ _ _ _ _ _ _ _ _ _ _)); (fail_if_success (with_reducible show LCt.CompSrcT _ _ _ _ _ _ _ _ _ _ _ _ _ _ _)); (fail_if_success (with_reducible show wpAny _ _ (pyIter _) _ _ _)); (fail_if_success (with_reducible show wpAny _ _ (call (Value.ref 99) _) _ _ _)); first | (k_unfold; (try dsimp only)) | ((with_reducible show wpAny _ _ (execs (_ :: _) _) _ _ (Shared.mk _ _ _ (HAdd.hAdd _ _) _)); refine genT ?_; intro tk9) | ((with_reducible show wpAny _ _ (exec _ _) _ _ _); (fail_if_success (fail_if_success k_fold)); refine letQ ?_; intro q9) | ((with_reducible show wpAny _ _ (execs (_ :: _) _) _ _ _); (with_reducible rename Fr _ _ _ _ => kF9); (fail_if_success (with_reducible have : Fr _ _ _ ‹Str → Option Value› := kF9)); refine letm kF9 ?_; clear kF9; intro m9 F9) | ktr_member | ((fail_if_success (with_reducible show (if _ then _ else _))); first | walk1 | (dsimp only; walk1)))
      rw [b2i_one]
      refine' Fn.use ?k1 ?k2 ?k3 ?k4 ?k5 ?kK (c_open w lay _ _ ?kl ?kf e u (S₁.opened e) (S₁.heard e) _ _ _ _ ?kg ?kh) ?kd ?ku ?_
      (case k1 => k_asm)
      (case k2 => k_asm)
      (case k3 => k_asm)
      (case k4 => k_asm)
      (case k5 => k_asm)
      (case kK => first | exact rfl | assumption)
      (case kd => ktr_room)
      (case ku => ktr_units)
      (case kl => assumption)
      (case kf => assumption)
      (case kg => mod_arm)
      (case kh => mod_arm)
      intro r9 W9 O9 h9 tk8 F9 N9 hl9 hs9 hP9
      (try dsimp only)
      (try k_sweep)
      obtain ⟨hW, hc⟩ := hP9
      subst hW
      rcases hc with ⟨_, rfl, rfl⟩ | ⟨hx, _⟩
      · repeat' ((fail_if_success (with_reducible show LCg.CompSrc _ _ _ _ _ _ _ _ _ _ _ _ _ _)); (fail_if_success (with_reducible show LCt.CompSrcT _ _ _ _ _ _ _ _ _ _ _ _ _ _ _)); (fail_if_success (with_reducible show wpAny _ _ (pyIter _) _ _ _)); (fail_if_success (with_reducible show wpAny _ _ (call (Value.ref 99) _) _ _ _)); first | (k_unfold; (try dsimp only)) | ((with_reducible show wpAny _ _ (execs (_ :: _) _) _ _ (Shared.mk _ _ _ (HAdd.hAdd _ _) _)); refine genT ?_; intro tk9) | ((with_reducible show wpAny _ _ (exec _ _) _ _ _); (fail_if_success (fail_if_success k_fold)); refine letQ ?_; intro q9) | ((with_reducible show wpAny _ _ (execs (_ :: _) _) _ _ _); (with_reducible rename Fr _ _ _ _ => kF9); (fail_if_success (with_reducible have : Fr _ _ _ ‹Str → Option Value› := kF9)); refine letm kF9 ?_; clear kF9; intro m9 F9) | ktr_member | ((fail_if_success (with_reducible show (if _ then _ else _))); first | walk1 | (dsimp only; walk1)))
        refine ⟨_, _, _, W₁, _, S₁, rfl, by k_asm, by k_asm, hl₁, hI, hC, R₁, ?_, ?_⟩
        · intro y h1 h2
          simp +zetaDelta only [h1, h2, if_false]
        · have e1 : opAt (S.opened e u) (S.heard e u) (i + 1) = opAt (S.opened e u) (S.heard e u) i := by
            rw [hhe] at hlt
            rw [hop] at hlt
            unfold opAt at hlt ⊢
            split at hlt <;> split <;> omega
          rw [e1]
          exact hJ
      · exact absurd hx (by omega)
  · intro x₁ x₂ W₁ O₁ S₁ h tk9 hJ R₁ hC hl₁ F₁ N₁
    repeat' ((fail_if_success (with_reducible show LCg.CompSrc _ _ _ _ _ _ _ _ _ _ _ _ _ _)); (fail_if_success (with_reducible show LCt.CompSrcT _ _ _ _ _ _ _ _ _ _ _ _ _ _ _)); (fail_if_success (with_reducible show wpAny _ _ (pyIter _) _ _ _)); (fail_if_success (with_reducible show wpAny _ _ (call (Value.ref 99) _) _ _ _)); first | (k_unfold; (try dsimp only)) | ((with_reducible show wpAny _ _ (execs (_ :: _) _) _ _ (Shared.mk _ _ _ (HAdd.hAdd _ _) _)); refine genT ?_; intro tk9) | ((with_reducible show wpAny _ _ (exec _ _) _ _ _); (fail_if_success (fail_if_success k_fold)); refine letQ ?_; intro q9) | ((with_reducible show wpAny _ _ (execs (_ :: _) _) _ _ _); (with_reducible rename Fr _ _ _ _ => kF9); (fail_if_success (with_reducible have : Fr _ _ _ ‹Str → Option Value› := kF9)); refine letm kF9 ?_; clear kF9; intro m9 F9) | ktr_member | ((fail_if_success (with_reducible show (if _ then _ else _))); first | walk1 | (dsimp only; walk1)))
    exact ret _ W₁ _ _ _ (by k_asm) (by k_asm) (by assumption) hC ⟨rfl, by rw [hJ] at R₁; simpa using R₁⟩
end

/-! part E5 -/
section

theorem c_init (w : World) (e tt : Addr) (Z : Led) (code ft : Int) (text : Str) (t1 t2 t3 : Tok) (hc0 : 0 ≤ code) (hc1 : code < 100) (htx : text = Str.ofString "too many streams" ∨ text = Str.ofString "a stream that was not opened") (hne : ∀ p ∈ Z, p.1 ≠ e)
  (p : Program) (loose : List Str) (mean : ExcName → Option Value) (mg mb : Str → Option Value) (dp un : Nat) (gd : Option (List Code)) (cn : Str) (cs : Scope) (a : Addr) (ccd : Value) (cl : List (Str × Addr)) (outer : List Env) (A₀ : Around) (base h₀ : Heap) (L : Addr) (m : Str → Option Value) (s : Shared)
  (Q : Value → Shared → Prop) (E : Value → Shared → Prop) (B : Below A₀ base outer h₀) (F : Fr h₀ L s.heap m) (X : (Mine.hd0.heap_1 w.params).In h₀) (N : News h₀ L s.heap ((e, excNew 31 tt) :: Z)) (T : Top p loose mean mg mb h₀) (hk : cs.kind = .function) (hd : dp + 4 < recursionLimit) (hu : un + 8 * 4 < cLine)
  (ret : ∀ h' tk' t' dx od mA, Fr h₀ L h' m → News h₀ L h' ((e, excD 31 t' dx) :: (dx, od) :: Z) → DNs od mA → mA (Str.ofString "code") = some (.int code t1) → (∀ p ∈ Z, p.1 ≠ dx) → dx ≠ e → Q .none { s with heap := h', toks := tk' }) :
  codeAny (model PR w) (ktrTop dp un gd cn cs L a ccd cl outer) (.call (.ref 28) ⟨[.ref e, .int code t1, .int ft t2, .str text t3], []⟩) (fun r s' => match r with | .ok (.ret v) => Q v s' | .ok _ => False | .error e => E e s') s := by
  rcases htx with rfl | rfl
  all_goals
    k_dflt ktr_enter
    repeat' (first | (k_unfold; (try dsimp only)) | ((with_reducible show wpAny _ _ (getMethod (Value.type "Exception") _ _) _ _ _); refine exc_init_meth (by k_asm) (by k_asm) (by with_unfolding_all rfl) ?_) | ((with_reducible show wpAny _ _ (call (Value.builtin "Exception.__init__") (Value.ref _ :: _)) _ _ _); k_dflt (refine' init_led ?k1 ?k2 ?k3 ?k4 ?k5 ?_; (case k1 => k_asm); (case k2 => k_asm); (case k3 => k_asm); (case k4 => with_reducible assumption); (case k5 => exact Nat.le_of_ble_eq_true rfl); k_whole); intro h' t' F' N'; (try k_sweep)) | ((with_reducible show wpAny _ _ (setAttr (Value.ref _) (Str.ofString "code") _) _ _ _); k_dflt (refine' set1_led ?k1 ?k2 ?k3 ?k4 ?k5 ?k6 ?_; (case k1 => k_asm); (case k2 => k_asm); (case k3 => k_asm); (case k4 => with_reducible assumption); (case k5 => with_unfolding_all rfl); (case k6 => (first | rfl | kernel_rfl)); k_whole); intro h' tk' dx' od' F' N' D' hn' hde'; (try k_sweep)) | ((with_reducible show wpAny _ _ (setAttr (Value.ref _) _ _) _ _ _); k_dflt (refine' set2_led ?k1 ?k2 ?k3 ?k4 ?k5 ?k6 ?k7 ?k8 ?k9 ?kA ?kB ?_; (case k1 => k_asm); (case k2 => k_asm); (case k3 => k_asm); (case k4 => with_reducible assumption); (case k5 => with_reducible assumption); (case k6 => with_reducible assumption); (case k7 => with_reducible assumption); (case k8 => with_unfolding_all rfl); (case k9 => (first | rfl | kernel_rfl)); (case kA => within_ways); (case kB => exact Nat.le_of_ble_eq_true rfl); k_whole); intro h' tk' od' F' N' D'; (try k_sweep)) | ktr_member | walk1 | (dsimp only; walk1))
  all_goals exact ret _ _ _ _ _ _ (by k_asm) (by k_asm) (by assumption) (by rw [if_neg (by decide), if_neg (by decide), if_pos rfl]) (by assumption) (by assumption)
end

/-! part E10 -/
section
open PySem PySem.W PySem.Calls PyProof.Rows PyProof PySem.Builtin PySem.Builtin.ObjectAttr
theorem fillE10 : (∀ w : World, Mine.hd0.heap_1 w.params = Mine.hd0.heap_1 w.params) ∧ PySem.Challenge.rw_tk0090_01 = PySem.Challenge.rw_tk0090_01 := by
  k_fill
  exact ⟨fun _ => rfl, rfl⟩
theorem ns_val {K : Frag} {h : Heap} {N : Addr} {mg : Str → Option Value} {n : Str} {v : Value} (X : K.In h) (G : h.Ns N mg) (e : nsIn K N n = some (some v)) : mg n = some v := by
  obtain ⟨o, es, ep, ho, hd, _, hf⟩ := G
  unfold nsIn at e
  split at e
  · rename_i q
    have hq := X _ _ q
    rw [ho] at hq
    cases hq
    cases hd
    split at e
    · rename_i he
      cases e
      rw [← hf]
      unfold nsFind findBy
      rw [← Array.find?_toList, he]
      rfl
    · split at e <;> cases e
  · cases e
theorem qe_init {w : World} {h : Heap} (X : (Mine.hd0.heap_1 w.params).In h) : h.nsMap 30 (Str.ofString "__init__") = some (.ref 28) := ns_val X (qe_ns X) (by with_unfolding_all rfl)
theorem qe_fn {w : World} {h : Heap} (X : (Mine.hd0.heap_1 w.params).In h) : ∃ of, h.get? 28 = some of ∧ of.cls = .type "function" := ⟨_, X 28 _ (by k_is), rfl⟩
section
variable {w : World}
theorem raise_call {p : Program} {loose : List Str} {mean : ExcName → Option Value} {mg mb : Str → Option Value} {dp un : Nat} {gd : Option (List Code)} {cn : Str} {cs : Scope} {a : Addr} {ccd : Value} {cl : List (Str × Addr)} {outer : List Env} {A₀ : Around} {base h₀ : Heap} {L : Addr} {m : Str → Option Value} {s : Shared} {Z : Led} {code ft : Int} {text : Str} {t1 t2 t3 : Tok}
    {Q E : Value → Shared → Prop} (B : Below A₀ base outer h₀) (F : Fr h₀ L s.heap m) (X : (Mine.hd0.heap_1 w.params).In h₀) (N : News h₀ L s.heap Z) (T : Top p loose mean mg mb h₀) (hk : cs.kind = .function) (hd : dp + 8 < recursionLimit) (hu : un + 8 * 8 < cLine)
    (hc0 : 0 ≤ code) (hc1 : code < 100) (htx : text = Str.ofString "too many streams" ∨ text = Str.ofString "a stream that was not opened")
    (ret : ∀ h' tk' t' e dx od mA, Fr h₀ L h' m → News h₀ L h' ((e, excD 31 t' dx) :: (dx, od) :: Z) → DNs od mA → mA (Str.ofString "code") = some (.int code t1) → (∀ p ∈ Z, p.1 ≠ e) → (∀ p ∈ Z, p.1 ≠ dx) → dx ≠ e → Q (.ref e) { s with heap := h', toks := tk' }) :
    wpAny (model PR w) (ktrTop dp un gd cn cs L a ccd cl outer) (call (.ref 31) [.int code t1, .int ft t2, .str text t3]) Q E s := by
  have X' := X.keeps F.keep
  obtain ⟨_, _, _, _, _, _, _, _, _, _, hC⟩ := qe_obj X'
  obtain ⟨of, hf, hfc⟩ := qe_fn X'
  have lt : ∀ p ∈ Z, p.1 < s.heap.objs.size := fun p hp => Heap.lt_size (N p hp).1
  refine call_own PySem.F.excBase_Exception hC (qe_ns X') (qe_init X') hf hfc ?_ (by rw [sizeLine_eq]; exact Nat.le_of_ble_eq_true rfl)
  have F1 := F.push (excTup [.int code t1, .int ft t2, .str text t3])
  have N1 := News.pushKeep N (excTup [.int code t1, .int ft t2, .str text t3])
  have F2 := F1.push (excNew 31 s.heap.objs.size)
  have N2 := News.push F1 N1 (excNew 31 s.heap.objs.size)
  rw [Heap.size_push] at N2
  refine c_init w (s.heap.objs.size + 1) s.heap.objs.size Z code ft text t1 t2 t3 hc0 hc1 htx (fun p hp => Nat.ne_of_lt (Nat.lt_succ_of_lt (lt p hp))) p loose mean mg mb _ _ _ cn cs a ccd cl outer A₀ base h₀ L m _ _ _ B F2 X N2 T hk ?_ ?_ fun h' tk' t' dx od mA F' N' D' hco hdx hde => ⟨rfl, ret h' tk' t' _ dx od mA F' N' D' hco (fun p hp => Nat.ne_of_lt (Nat.lt_succ_of_lt (lt p hp))) hdx hde⟩
  · have hw : (Code.builtin "type.__call__" { pos := [Value.ref 31, Value.int code t1, Value.int ft t2, Value.str text t3] }).weight ≤ 3 := by
      show _ ≤ 3
      first | exact Nat.le_of_ble_eq_true rfl | (with_unfolding_all decide)
    dsimp only [ktrTop]
    omega
  · have hw : (Code.builtin "type.__call__" { pos := [Value.ref 31, Value.int code t1, Value.int ft t2, Value.str text t3] }).cUnits ≤ 30 := by
      first | exact Nat.le_of_ble_eq_true rfl | (with_unfolding_all decide)
    dsimp only [ktrTop]
    omega
end
end

/-! part E12 -/
section
open PySem PySem.W PySem.Calls PyProof.Rows
section
variable {w : World} {A₀ : Around} {E : Value → Shared → Prop} {s' : Shared} {base g g₀ G h : Heap} {outer : List Env} {L a e d C : Addr} {m : Str → Option Value} {name : Str} {scope : Scope} {cd : Value}
  {n : Str} {b₀ : Stmt} {suite : List Stmt} {pos np : Pos} {rest : List ExceptHandler} {Q : Flow → Shared → Prop} {news : Led} {KF : Frag}
  {p : Program} {loose : List Str} {mean : ExcName → Option Value} {mg mb : Str → Option Value} {x : Str}
theorem caught_D (R : RaisedD base G (envOf name scope L a cd :: outer) e d (.ref C) news s'.heap) (F : Fr g L G m) (K : Below A₀ base outer g) (hsm : G.UpToSlots s'.heap) (XB : KF.In base) (TB : Top p loose mean mg mb base)
    (D : KtsDicts (outer.filterMap (·.frame)) g) (T0 : KtsTurn (outer.filterMap (·.frame)) g₀ g)
    (ex : nsIn KF mainGlobals x = some (some (.ref C))) (q : ktsIn KF C "BaseException" = true)
    (k : ∀ h' g' tk oe', KtsTurn (outer.filterMap (·.frame)) g₀ g' → Fr g' L h' (fun y => if y = n then some (.ref e) else m y) → News g' L h' ((e, oe') :: news) → oe'.cls = .ref C → oe'.dict = some d → (∃ vs, oe'.data = .fields vs) → Below A₀ base outer g' → KF.In g' → Top p loose mean mg mb g' → KtsDicts (outer.filterMap (·.frame)) g' →
      wpAny (model PR w) ((A₀.deeper (envOf name scope L a cd)).mark (some (.ref e))) (execs (b₀ :: suite) (envOf name scope L a cd))
        (fun f s₄ => wpAny (model PR w) (A₀.deeper (envOf name scope L a cd)) (do bindName (envOf name scope L a cd) n .none; unbindBehindTheSuite (envOf name scope L a cd) n pos) (fun _ s₅ => Q f s₅) E s₄)
        (AsSuiteRaised (model PR w) ((A₀.deeper (envOf name scope L a cd)).mark (some (.ref e))) (envOf name scope L a cd) n pos (notedBy (model PR w) ((A₀.deeper (envOf name scope L a cd)).mark (some (.ref e))) (envOf name scope L a cd) (cameBackBy (model PR w) (A₀.deeper (envOf name scope L a cd)) (envOf name scope L a cd) E)))
        { s' with heap := h', toks := tk })
    (hk : scope.kind = .function := by rfl) (hlo : (envOf name scope L a cd).kindOf n = some .local := by rfl) (hx : (envOf name scope L a cd).kindOf x = some .globalImplicit := by rfl) (hd : (x == ("__debug__" : Str)) = false := by decide) :
    wpAny (model PR w) (A₀.deeper (envOf name scope L a cd)) (noteFrame (.ref e) (envOf name scope L a cd))
      (fun _ s₂ => wpAny (model PR w) (A₀.deeper (envOf name scope L a cd)) (setFlight (.ref e) none) (fun _ s₃ =>
        wpAny (model PR w) (A₀.deeper (envOf name scope L a cd)) (handleBy (.ref e) (envOf name scope L a cd) (.ExceptHandler (some (.Name x np)) (some n) (b₀ :: suite) pos :: rest)) Q E s₃) E s₂) E s' := by
  obtain ⟨B, hB, hBG, hl, fl⟩ := R
  have hL : B.get? L = none := by
    obtain ⟨_, ⟨L', _, hf, hn', _⟩, _⟩ := fl.frames
    obtain rfl : L = L' := Option.some.inj hf
    exact hn'
  refine note_next_D (Around.frames_deeper K.stack) rfl fl fun h₄ f₄ u₄ => ?_
  refine down_D f₄ fun h₅ f₅ u₅ => ?_
  obtain ⟨g₅, T₅, F₅, K₅⟩ := kts_ground K F hBG f₅.stays (hsm.trans (u₄.trans u₅))
  have X₅ : KF.In g₅ := XB.keeps K₅.stays
  have P₅ : TopRead p loose mg mb g₅ := topRead_of (TB.keeps K₅.stays)
  obtain ⟨ob, _, _, _, _, hob, hobc, _⟩ := f₅.td
  obtain ⟨nm, q', N, bs, bm, hdct, sn, sub, ab, col, dd, k0, k1, k2, k3, k5, newId, hC, hbase, hbT⟩ := kts_cls X₅ q
  refine wpAny_handleBy_cons (codeAny_handlers_test (name_K F₅ X₅ P₅ ex ?_ hk hx hd)) (by intro q; cases q)
  refine wpAny_excMatches_sub_self (F₅.keep _ _ hC) hob hobc hbase (codeAny_handlers_suite_as ?_)
  refine down_D f₅ fun h₆ f₆ u₆ => ?_
  obtain ⟨g₆, T₆, F₆, K₆⟩ := kts_ground K F hBG f₆.stays ((hsm.trans (u₄.trans u₅)).trans u₆)
  obtain ⟨oe, vs, _, _, _, he, hc, hdd, hdat, _⟩ := f₆.td
  have ne₆ : g₆.get? e = none := T₆.none_ _ (kts_fresh F hBG f₆.fresh fun o ho m => by
    obtain ⟨_, o', ho', hd⟩ := K.frames.mem m
    rw [ho] at ho'
    cases ho'
    obtain ⟨sl, hs⟩ := ((hsm.trans (u₄.trans u₅)).trans u₆) _ _ (F.keep _ _ ho) hd
    rw [he] at hs
    cases hs
    exact hd _ hdat)
  have N₆ := News.more F₆ News.nil he (fun es n q => by rw [hdat] at q; cases q) ne₆
  have Nl : News g₆ L h₆ news := fun q hq => ⟨f₆.stays _ _ (hl q hq).1, (fun z => by have := (hl q hq).1; rw [z, hL] at this; cases this), T₆.none_ _ (kts_none F.keep (hl q hq).2.1)⟩
  refine stN F₆ (news := (e, oe) :: news) (fun q hq => (List.mem_cons.mp hq).elim (fun z => N₆ q (by rw [z]; exact .head _)) (Nl q)) (fun h₇ F₇ N₇ => ?_) hk hlo
  exact k h₇ g₆ _ oe (T0.trans T₆) F₇ N₇ hc hdd ⟨vs, hdat⟩ K₆ (XB.keeps K₆.stays) (TB.keeps K₆.stays) (D.turn T₆)
end
end

/-! part E13 -/
section
open PySem PySem.W PySem.Calls PyProof.Rows PyProof PySem.Builtin PySem.Builtin.ObjectAttr
theorem ga_exc : PySem.Slot "Exception" "__getattribute__" "BaseException.__getattribute__" := .of (owner := "BaseException") (n := "__getattribute__") (by rw [typeLookup_type, builtinLookup_eq_fast]; kernel_rfl) (by decide +kernel) (by decide +kernel) (by decide +kernel)
    (by first | exact .inl (by decide +kernel) | exact .inr (by decide +kernel)) (by rw [isSubtype_type]; kernel_rfl)
theorem ngh_exc : typeLookup (.type "Exception") "__getattr__" = pure none := by rw [typeLookup_type, builtinLookup_eq_fast]; kernel_rfl
section
variable {prog : Program} {w : World} {A : Around} {E : Value → Shared → Prop} {h : Heap} {g : Array GenState} {d : Drawn} {t : Nat} {os : OsState}
variable {nm q : Str} {C N x tt dx : Addr} {bs : List Value} {sn : List Str} {sub : List Value} {ab : Bool} {col : Option Bool} {dd : Option Addr} {k0 k1 k2 k3 k5 : Option Value} {newId : String}
  {mN mA : Str → Option Value} {name : Str} {v : Value} {o : Obj} {vs : Array Value}
theorem own_entry {tk : Tok} {Q : Fin → Shared → Prop}
    (hC : h.get? C = some (excClassObj nm q C N bs [.type "Exception", .type "BaseException", .type "object"] true sn sub ab col dd k0 k1 k2 k3 k5 newId)) (hn : h.Ns N mN) (hna : mN name = none)
    (hB : typeLookup (.type "Exception") name = pure none) (hx : h.get? x = some o) (hc : o.cls = .ref C) (hdat : o.data = .fields vs) (hdx : o.dict = some dx) (hns : h.Ns dx mA) (hv : mA name = some v) (hq : Q (.done (.ret v)) ⟨h, g, d, t, os⟩) :
    wpAny (model prog w) A (Builtin.«object.__getattribute__» ⟨[.ref x, .str name tk], []⟩) Q E ⟨h, g, d, t, os⟩ := by
  unfold Builtin.«object.__getattribute__»
  repeat (first | (with_reducible refine wpAny_loadPart_at hx ?_; rw [hc]) | (with_reducible refine wpAny_typeLookup_exc hC hn PySem.F.store_Exception.mro hB ?_; rw [hna]) | wp_step)
  rw [hdat]
  unfold instanceDict
  repeat (first | (with_reducible refine wpAny_loadPart_at hx ?_; rw [hc]) | with_reducible refine wpAny_loadPart_at hC ?_ | wp_step)
  rw [hdx]
  repeat (first | (with_reducible refine wpAny_nsGet hns ?_; rw [hv]) | wp_step)
  exact hq
theorem chk_ga {M : Model} {nameV : Value} {Q : Unit → Shared → Prop} (hC : h.get? C = some (excClassObj nm q C N bs [.type "Exception", .type "BaseException", .type "object"] true sn sub ab col dd k0 k1 k2 k3 k5 newId))
    (hx : h.get? x = some o) (hc : o.cls = .ref C) (hq : Q () ⟨h, g, d, t, os⟩) : wpAny M A (checkBuiltinCall "BaseException.__getattribute__" ⟨[.ref x, nameV], []⟩) Q E ⟨h, g, d, t, os⟩ := by
  have hk : builtinKind "BaseException.__getattribute__" = some .slot := by decide +kernel
  have hsplit : splitId "BaseException.__getattribute__" = some ("BaseException", "__getattribute__") := by decide +kernel
  have hcB : (Value.ref C :: [Value.type "Exception", .type "BaseException", .type "object"]).contains (.type "BaseException") = true := by rw [List.contains_cons]; rw [show ([Value.type "Exception", .type "BaseException", .type "object"]).contains (.type "BaseException") = true from by decide, Bool.or_true]
  have ha := PySem.F.args_bexc_ga (.ref x) nameV
  simp only [checkBuiltinCall, hk, hsplit]
  refine wpAny_bind ?_
  · unfold isInstance
    repeat (first | (with_reducible refine wpAny_loadPart_at hx ?_; rw [hc]) | (with_reducible refine wpAny_isSubtype_exc hC ?_; rw [hcB]) | wp_step)
    exact hq
theorem own_by {tk : Tok} {fill expr : Bool} {Q : Value → Shared → Prop}
    (hC : h.get? C = some (excClassObj nm q C N bs [.type "Exception", .type "BaseException", .type "object"] true sn sub ab col dd k0 k1 k2 k3 k5 newId)) (hn : h.Ns N mN) (hg1 : mN "__getattribute__" = none) (hg2 : mN "__getattr__" = none) (hna : mN name = none)
    (hB : typeLookup (.type "Exception") name = pure none) (hx : h.get? x = some o) (hc : o.cls = .ref C) (hdat : o.data = .fields vs) (hdx : o.dict = some dx) (hns : h.Ns dx mA) (hv : mA name = some v) (hh : handedOut v = pure v) (hq : Q v ⟨h, g, d, t, os⟩) :
    wpAny (model prog w) A (getAttrBy (.ref x) (.str name tk) fill expr) Q E ⟨h, g, d, t, os⟩ := by
  have f3 := ga_exc.bind (.ref x)
  have hx0 : (expr && onTheHeap (Value.builtin "BaseException.__getattribute__")) = false := by cases expr <;> rfl
  have hx2 : (Value.builtin "BaseException.__getattribute__" == Value.builtin "object.__getattribute__") = false := by decide +kernel
  have hx1 : (onTheHeap (Value.ref C) && Value.builtin "BaseException.__getattribute__" == Value.builtin "object.__getattribute__") = false := by rw [hx2]; rfl
  repeat (any_goals (first | assumption | (with_reducible refine wpAny_loadPart_at hx ?_; rw [hc]) | (with_reducible refine wpAny_typeLookup_exc hC hn PySem.F.store_Exception.mro ga_exc.lookup ?_; rw [hg1]) | (with_reducible refine wpAny_typeLookup_exc hC hn PySem.F.store_Exception.mro ngh_exc ?_; rw [hg2]) | wp_step))
  refine codeAny_call_builtin ga_exc.plain PySem.F.entry_bexc_ga (chk_ga hC hx hc (own_entry hC hn hna hB hx hc hdat hdx hns hv ?_))
  show wpAny _ _ (handedOut v) _ _ _
  rw [hh]
  repeat (any_goals (first | assumption | wp_step))
theorem own_attr {expr : Bool} {Q : Value → Shared → Prop}
    (hC : h.get? C = some (excClassObj nm q C N bs [.type "Exception", .type "BaseException", .type "object"] true sn sub ab col dd k0 k1 k2 k3 k5 newId)) (hn : h.Ns N mN) (hg1 : mN "__getattribute__" = none) (hg2 : mN "__getattr__" = none) (hna : mN name = none)
    (hB : typeLookup (.type "Exception") name = pure none) (hx : h.get? x = some o) (hc : o.cls = .ref C) (hdat : o.data = .fields vs) (hdx : o.dict = some dx) (hns : h.Ns dx mA) (hv : mA name = some v) (hh : handedOut v = pure v) (hq : Q v ⟨h, g, d, t + 1, os⟩) :
    wpAny (model prog w) A (getAttr (.ref x) name expr) Q E ⟨h, g, d, t, os⟩ := by
  unfold getAttr
  repeat (any_goals (first | assumption | with_reducible apply own_by hC hn hg1 hg2 hna hB hx hc hdat hdx hns hv hh | wp_step))
end
theorem fillE13 : (∀ w : World, Mine.hd0.heap_1 w.params = Mine.hd0.heap_1 w.params) ∧ PySem.Challenge.rw_tk0090_01 = PySem.Challenge.rw_tk0090_01 := by
  k_fill
  exact ⟨fun _ => rfl, rfl⟩
section
variable {w : World} {A : Around} {E : Value → Shared → Prop} {s : Shared} {h₀ : Heap} {L e dx : Addr} {m : Str → Option Value} {Z : Led} {v : Value} {oe od : Obj} {mA : Str → Option Value} {vs : Array Value}
theorem code_attr {Q : Value → Shared → Prop} {expr : Bool} {cd : Int} {tc : Tok} (F : Fr h₀ L s.heap m) (X : (Mine.hd0.heap_1 w.params).In h₀) (N : News h₀ L s.heap Z) (me : (e, oe) ∈ Z) (md : (dx, od) ∈ Z) (hc : oe.cls = .ref 31) (hdat : oe.data = .fields vs) (hdx : oe.dict = some dx) (D : DNs od mA)
    (hv : mA (Str.ofString "code") = some (.int cd tc)) (hq : Q (.int cd tc) { s with toks := s.toks + 1 }) :
    wpAny (model PR w) A (getAttr (.ref e) (Str.ofString "code") expr) Q E s := by
  have X' := X.keeps F.keep
  obtain ⟨_, _, _, _, _, _, _, _, _, _, hC⟩ := qe_obj X'
  obtain ⟨es, ep, b2, b3, b4, b5⟩ := D
  exact own_attr hC (qe_ns X') (qe_none X' (by with_unfolding_all rfl)) (qe_none X' (by with_unfolding_all rfl)) (qe_none X' (by with_unfolding_all rfl)) (by rw [typeLookup_type, builtinLookup_eq_fast]; kernel_rfl) (N _ me).1 hc hdat hdx ⟨od, es, ep, (N _ md).1, b2, b3, b5⟩ hv rfl hq
end
end

/-! part E11 -/
section

noncomputable def FnR (w : World) (f : Addr) (d : Nat) (vs : List Value) (lay : Slot → Addr) (W : Led) (O : Slot → Obj) (code : Int) : Prop :=
  ∀ (p : Program) (loose : List Str) (mean : ExcName → Option Value) (mg mb : Str → Option Value) (dp un : Nat) (gd : Option (List Code)) (cn : Str) (cs : Scope) (a : Addr) (ccd : Value) (cl : List (Str × Addr)) (outer : List Env) (A₀ : Around) (base h₀ : Heap) (L : Addr) (m : Str → Option Value) (s : Shared)
    (Q E : Value → Shared → Prop),
    Below A₀ base outer h₀ → Fr h₀ L s.heap m → (Mine.hd0.heap_1 w.params).In h₀ → News h₀ L s.heap (W ++ Lg lay O) → Top p loose mean mg mb h₀ → cs.kind = .function → dp + d < recursionLimit → un + 8 * d < cLine →
    (∀ h' tk' e dx od mA t g, RaisedD base g (envX cn cs L a ccd cl :: outer) e dx (.ref 31) ((dx, od) :: (W ++ Lg lay O)) h' → Fr h₀ L g m → g.UpToSlots h' → DNs od mA → mA (Str.ofString "code") = some (.int code t) → E (.ref e) { s with heap := h', toks := tk' }) →
    wpAny (model PR w) (ktrTop dp un gd cn cs L a ccd cl outer) (call (.ref f) vs) Q E s
theorem args_led {M : Model} {A : Around} {E : Value → Shared → Prop} {s : Shared} {env : Env} {f : Value} {e₀ : PySem.Expr} {rest : List PySem.Expr} {cpos : Pos} {Q : Args → Shared → Prop}
    (h : wpAny M A (spliced (backTo cpos (starEach (e₀ :: rest) env))) (fun vs s₂ => Q ⟨vs, []⟩ s₂) E s) (he : starEach (e₀ :: rest) env = (false, eval e₀ env) :: starEach rest env) :
    wpAny M A (evalArgs f true (backTo cpos (starEach (e₀ :: rest) env)) []) Q E s := by
  rw [he] at h ⊢
  exact Calls.evalArgs_plain h
theorem raise_qe {w : World} {A : Around} {E : Value → Shared → Prop} {s : Shared} {env : Env} {h₀ : Heap} {x : Str} {np cpos pos : Pos} {args : List PySem.Expr} {Q : Flow → Shared → Prop} (X : (Mine.hd0.heap_1 w.params).In h₀)
    (hh : A.handled = none) (hplain : (backTo cpos (starEach args env)).any (·.1) = false)
    (hx : wpAny (model PR w) A (eval (.Name x np) env) (fun v s₁ => v = .ref 31 ∧ wpAny (model PR w) A (evalArgs (.ref 31) true (backTo cpos (starEach args env)) [])
      (fun a s₂ => a.kw = [] ∧ (∃ L m, Fr h₀ L s₂.heap m) ∧
        wpAny (model PR w) A (call (.ref 31) a.pos) (fun v s₃ => ∃ e tt dx, v = .ref e ∧ (∃ L m, Fr h₀ L s₃.heap m) ∧ s₃.heap.get? e = some (excD 31 tt dx) ∧ E (.ref e) s₃) E s₂) E s₁) E s) :
    wpAny (model PR w) A (exec (.Raise (some (.Call (.Name x np) args [] cpos)) none pos) env) Q E s := by
  obtain ⟨k0, k1, k2, k3, k5, sn, sub, ab, col, dd, hC⟩ := qe_obj X
  refine raise_own (C := 31) (nm := Str.ofString "QuicError") (q := Str.ofString "QuicError") (N := 30) (bs := [.type "Exception"]) (hdct := true) (sn := sn) (sub := sub) (ab := ab) (col := col) (dd := dd) (k0 := k0) (k1 := k1) (k2 := k2) (k3 := k3) (k5 := k5) (newId := "Exception.__new__") (bm := [.type "Exception", .type "BaseException", .type "object"]) (by decide) hh hplain (wpAny_mono hx (fun v s₁ h₁ => ⟨h₁.1, wpAny_mono h₁.2 (fun a s₂ h₂ => ?_) fun _ _ z => z⟩) fun _ _ z => z)
  obtain ⟨hk, ⟨L, m, F⟩, h₂⟩ := h₂
  refine ⟨hk, F.keep _ _ hC, wpAny_mono h₂ (fun v s₃ h₃ => ?_) fun _ _ z => z⟩
  obtain ⟨e, tt, dx, he, ⟨L', m', F'⟩, hd, hE⟩ := h₃
  exact ⟨e, tt, dx, he, F'.keep _ _ hC, hd, hE⟩
local macro_rules | `(tactic| ktr_member) => `(tactic| ((with_reducible show wpAny _ _ (subscriptTail _ _ (Value.ref 36) (Value.str _ _)) _ _ _); k_dflt (refine' topItem_K ?k_asm ?k_asm2 ?k_is ?k_keys ?k_is2 ?_; (case k_asm => k_asm); (case k_asm2 => k_asm); (case k_is => k_is); (case k_keys => k_keys); (case k_is2 => k_is))))
theorem c_own5 (w : World) (lay : Slot → Addr) (W : Led) (O : Slot → Obj) (hl : Lay lay W) (fx : Fix lay O) (e u : Bool) (nn : Int) (tk tx : Tok) (g : Bool → Int) (tg : Bool → Tok) (n : Nat) (hg : O (.fld e .ownM) = rowI g tg n)
    (h1 : g u ≤ nn) :
    FnR w 111 20 [.ref (lay (.inst e)), .str (Str.ofString "stop_sending") tk, .int (sidOf nn e u) tx] lay W O 5 := by
  obtain ⟨dh, dt, dn, hD⟩ := fx.dct e
  have hI := fx.inst e
  have f0 : (![Str.ofString "stream", Str.ofString "reset_stream", Str.ofString "stream_data_blocked"].any fun x => x == Str.ofString "stop_sending") = true := by decide
  have f1 : ¬ (!(!u || (e == e))) = true := by cases u <;> cases e <;> decide
  have f3 : (roleS e == roleS e) = true := by cases e <;> decide
  have f4 : decide (g u ≤ nn) = true := by simp only [decide_eq_true_eq]; omega
  unfold FnR
  intro p loose mean mg mb dp un gd cn cs a ccd cl outer A₀ base h₀ L m s Q E B F X N T hk hd hu err
  refine wpAny_call ?_
  k_dflt (refine' code_defC ?k1 ?k2 ?k3 ?k4 ?k5 ?kA ?kF ?kK ?k6 ?k7 ?k8 ?k9 ?kB ?kD ?_ ?c2 ?c3 ?c4; (case kA => exact rfl); (case kF => exact rfl); (case kK => assumption); (case k1 => k_asm); (case k2 => k_asm); (case k3 => k_asm); (case k4 => k_asm); (case k5 => k_asm); (case k6 => k_is); (case k7 => k_is); (case k8 => ktr_room); (case k9 => exact BindsTo.of_eq rfl); (case kB => exact rfl); (case kD => decide +kernel); (case c2 => exact rfl); (case c3 => exact rfl); (case c4 => exact rfl); k_whole)
  intro g' L' h' tk' cells' FG' F' N' Y' B' X' T' l1
  obtain ⟨o1, o2, hE', d1, d2⟩ := CellsAre.two Y'
  subst hE'
  clear Y'
  obtain ⟨hW, hS⟩ := lay_lt l1
  clear l1
  have hlc := lay_cells2 (o1 := o1) (o2 := o2) (c1 := L' + 1 + 1) (c2 := L' + 1) hl hS (lt2 _) (lt1 _)
  replace N' : News g' L' h' (((L' + 1 + 1, o1) :: (L' + 1, o2) :: W) ++ Lg lay O) := N'
  clear hl
  (try dsimp only)
  (try k_fold)
  replace d1 : o1.data = .cell none := by with_unfolding_all exact d1
  replace d2 : o2.data = .cell (some (.int (sidOf nn e u) tx)) := by with_unfolding_all exact d2
  repeat' ((fail_if_success (with_reducible show LCg.CompSrc _ _ _ _ _ _ _ _ _ _ _ _ _ _)); (fail_if_success (with_reducible show LCt.CompSrcT _ _ _ _ _ _ _ _ _ _ _ _ _ _ _)); (fail_if_success (with_reducible show wpAny _ _ (pyIter _) _ _ _)); (fail_if_success (with_reducible show wpAny _ _ (exec (Stmt.Raise _ _ _) _) _ _ _)); (fail_if_success (with_reducible show wpAny _ _ (call (Value.ref 31) _) _ _ _)); first | (k_unfold; (try dsimp only)) | ((with_reducible show wpAny _ _ (execs (_ :: _) _) _ _ (Shared.mk _ _ _ (HAdd.hAdd _ _) _)); refine genT ?_; intro tk9) | ((with_reducible show wpAny _ _ (exec _ _) _ _ _); (fail_if_success (fail_if_success k_fold)); refine letQ ?_; intro q9) | ((with_reducible show wpAny _ _ (execs (_ :: _) _) _ _ _); (with_reducible rename Fr _ _ _ _ => kF9); (fail_if_success (with_reducible have : Fr _ _ _ ‹Str → Option Value› := kF9)); refine letm kF9 ?_; clear kF9; intro m9 F9) | ktr_member | ((fail_if_success (with_reducible show (if _ then _ else _))); first | walk1 | (dsimp only; walk1)))
  refine raise_qe X' rfl (by rfl) ?_
  repeat' ((fail_if_success (with_reducible show LCg.CompSrc _ _ _ _ _ _ _ _ _ _ _ _ _ _)); (fail_if_success (with_reducible show LCt.CompSrcT _ _ _ _ _ _ _ _ _ _ _ _ _ _ _)); (fail_if_success (with_reducible show wpAny _ _ (pyIter _) _ _ _)); (fail_if_success (with_reducible show wpAny _ _ (exec (Stmt.Raise _ _ _) _) _ _ _)); (fail_if_success (with_reducible show wpAny _ _ (call (Value.ref 31) _) _ _ _)); (fail_if_success (with_reducible show And _ _)); first | (k_unfold; (try dsimp only)) | ((with_reducible show wpAny _ _ (execs (_ :: _) _) _ _ (Shared.mk _ _ _ (HAdd.hAdd _ _) _)); refine genT ?_; intro tk9) | ((with_reducible show wpAny _ _ (exec _ _) _ _ _); (fail_if_success (fail_if_success k_fold)); refine letQ ?_; intro q9) | ((with_reducible show wpAny _ _ (execs (_ :: _) _) _ _ _); (with_reducible rename Fr _ _ _ _ => kF9); (fail_if_success (with_reducible have : Fr _ _ _ ‹Str → Option Value› := kF9)); refine letm kF9 ?_; clear kF9; intro m9 F9) | ktr_member | ((fail_if_success (with_reducible show (if _ then _ else _))); first | walk1 | (dsimp only; walk1)))
  refine ⟨rfl, ?_⟩
  refine args_led ?_ (by rfl)
  repeat' ((fail_if_success (with_reducible show LCg.CompSrc _ _ _ _ _ _ _ _ _ _ _ _ _ _)); (fail_if_success (with_reducible show LCt.CompSrcT _ _ _ _ _ _ _ _ _ _ _ _ _ _ _)); (fail_if_success (with_reducible show wpAny _ _ (pyIter _) _ _ _)); (fail_if_success (with_reducible show wpAny _ _ (exec (Stmt.Raise _ _ _) _) _ _ _)); (fail_if_success (with_reducible show wpAny _ _ (call (Value.ref 31) _) _ _ _)); (fail_if_success (with_reducible show And _ _)); first | (k_unfold; (try dsimp only)) | ((with_reducible show wpAny _ _ (execs (_ :: _) _) _ _ (Shared.mk _ _ _ (HAdd.hAdd _ _) _)); refine genT ?_; intro tk9) | ((with_reducible show wpAny _ _ (exec _ _) _ _ _); (fail_if_success (fail_if_success k_fold)); refine letQ ?_; intro q9) | ((with_reducible show wpAny _ _ (execs (_ :: _) _) _ _ _); (with_reducible rename Fr _ _ _ _ => kF9); (fail_if_success (with_reducible have : Fr _ _ _ ‹Str → Option Value› := kF9)); refine letm kF9 ?_; clear kF9; intro m9 F9) | ktr_member | ((fail_if_success (with_reducible show (if _ then _ else _))); first | walk1 | (dsimp only; walk1)))
  refine ⟨(by first | trivial | rfl), ⟨_, _, by k_asm⟩, ?_⟩
  (try dsimp only)
  refine' raise_call ?k1 ?k2 ?k3 ?k4 ?k5 ?kK ?kd ?ku ?q0 ?q1 ?q2 ?_
  (case k1 => k_asm)
  (case k2 => k_asm)
  (case k3 => k_asm)
  (case k4 => k_asm)
  (case k5 => k_asm)
  (case kK => first | exact rfl | assumption)
  (case kd => ktr_room)
  (case ku => ktr_units)
  (case q0 => decide)
  (case q1 => decide)
  (case q2 => exact .inr rfl)
  intro h9 tk9 t9 e9 dx od mA F9 N9 D9 hco hne hnd hde
  refine ⟨_, _, _, rfl, ⟨_, _, F9⟩, (N9 _ (.head _)).1, ?_⟩
  refine leave_D (news := (dx, od) :: (W ++ Lg lay O)) B' F9 (fun q hq => N9 q ?_) rfl (fun q => nomatch q) (N9 _ (.head _)).1 rfl rfl rfl (N9 _ (.head _)).2.2 (fun q hq => ?_) fun h8 R8 U8 => ?_
  · rcases List.mem_cons.mp hq with hq | hq
    · rw [hq]; exact .tail _ (.head _)
    · exact .tail _ (.tail _ (.tail _ (.tail _ hq)))
  · rcases List.mem_cons.mp hq with hq | hq
    · rw [hq]; exact hde
    · exact hne q (.tail _ (.tail _ hq))
  · exact err _ _ _ _ _ _ _ _ R8 FG' ((Heap.UpToSlots.of_keeps F9.keep).trans U8) D9 hco
theorem c_peer4 (w : World) (lay : Slot → Addr) (W : Led) (O : Slot → Obj) (hl : Lay lay W) (fx : Fix lay O) (e u : Bool) (nn : Int) (tk tx : Tok) (g : Bool → Int) (tg : Bool → Tok) (n : Nat) (hg : O (.fld (!e) .toldL) = rowI g tg n)
    (h1 : g u ≤ nn) :
    FnR w 111 20 [.ref (lay (.inst (!e))), .str (Str.ofString "stream") tk, .int (sidOf nn e u) tx] lay W O 4 := by
  obtain ⟨dh, dt, dn, hD⟩ := fx.dct (!e)
  have hI := fx.inst (!e)
  have f0 : ¬ (![Str.ofString "stream", Str.ofString "reset_stream", Str.ofString "stream_data_blocked"].any fun x => x == Str.ofString "stream") = true := by decide
  have f2 : ¬ (!(!u || (e != !e))) = true := by cases u <;> cases e <;> decide
  have f3 : ¬ (roleS e == roleS (!e)) = true := by cases e <;> decide
  have f4 : decide (g u ≤ nn) = true := by simp only [decide_eq_true_eq]; omega
  unfold FnR
  intro p loose mean mg mb dp un gd cn cs a ccd cl outer A₀ base h₀ L m s Q E B F X N T hk hd hu err
  refine wpAny_call ?_
  k_dflt (refine' code_defC ?k1 ?k2 ?k3 ?k4 ?k5 ?kA ?kF ?kK ?k6 ?k7 ?k8 ?k9 ?kB ?kD ?_ ?c2 ?c3 ?c4; (case kA => exact rfl); (case kF => exact rfl); (case kK => assumption); (case k1 => k_asm); (case k2 => k_asm); (case k3 => k_asm); (case k4 => k_asm); (case k5 => k_asm); (case k6 => k_is); (case k7 => k_is); (case k8 => ktr_room); (case k9 => exact BindsTo.of_eq rfl); (case kB => exact rfl); (case kD => decide +kernel); (case c2 => exact rfl); (case c3 => exact rfl); (case c4 => exact rfl); k_whole)
  intro g' L' h' tk' cells' FG' F' N' Y' B' X' T' l1
  obtain ⟨o1, o2, hE', d1, d2⟩ := CellsAre.two Y'
  subst hE'
  clear Y'
  obtain ⟨hW, hS⟩ := lay_lt l1
  clear l1
  have hlc := lay_cells2 (o1 := o1) (o2 := o2) (c1 := L' + 1 + 1) (c2 := L' + 1) hl hS (lt2 _) (lt1 _)
  replace N' : News g' L' h' (((L' + 1 + 1, o1) :: (L' + 1, o2) :: W) ++ Lg lay O) := N'
  clear hl
  (try dsimp only)
  (try k_fold)
  replace d1 : o1.data = .cell none := by with_unfolding_all exact d1
  replace d2 : o2.data = .cell (some (.int (sidOf nn e u) tx)) := by with_unfolding_all exact d2
  repeat' ((fail_if_success (with_reducible show LCg.CompSrc _ _ _ _ _ _ _ _ _ _ _ _ _ _)); (fail_if_success (with_reducible show LCt.CompSrcT _ _ _ _ _ _ _ _ _ _ _ _ _ _ _)); (fail_if_success (with_reducible show wpAny _ _ (pyIter _) _ _ _)); (fail_if_success (with_reducible show wpAny _ _ (exec (Stmt.Raise _ _ _) _) _ _ _)); (fail_if_success (with_reducible show wpAny _ _ (call (Value.ref 31) _) _ _ _)); first | (k_unfold; (try dsimp only)) | ((with_reducible show wpAny _ _ (execs (_ :: _) _) _ _ (Shared.mk _ _ _ (HAdd.hAdd _ _) _)); refine genT ?_; intro tk9) | ((with_reducible show wpAny _ _ (exec _ _) _ _ _); (fail_if_success (fail_if_success k_fold)); refine letQ ?_; intro q9) | ((with_reducible show wpAny _ _ (execs (_ :: _) _) _ _ _); (with_reducible rename Fr _ _ _ _ => kF9); (fail_if_success (with_reducible have : Fr _ _ _ ‹Str → Option Value› := kF9)); refine letm kF9 ?_; clear kF9; intro m9 F9) | ktr_member | ((fail_if_success (with_reducible show (if _ then _ else _))); first | walk1 | (dsimp only; walk1)))
  refine raise_qe X' rfl (by rfl) ?_
  repeat' ((fail_if_success (with_reducible show LCg.CompSrc _ _ _ _ _ _ _ _ _ _ _ _ _ _)); (fail_if_success (with_reducible show LCt.CompSrcT _ _ _ _ _ _ _ _ _ _ _ _ _ _ _)); (fail_if_success (with_reducible show wpAny _ _ (pyIter _) _ _ _)); (fail_if_success (with_reducible show wpAny _ _ (exec (Stmt.Raise _ _ _) _) _ _ _)); (fail_if_success (with_reducible show wpAny _ _ (call (Value.ref 31) _) _ _ _)); (fail_if_success (with_reducible show And _ _)); first | (k_unfold; (try dsimp only)) | ((with_reducible show wpAny _ _ (execs (_ :: _) _) _ _ (Shared.mk _ _ _ (HAdd.hAdd _ _) _)); refine genT ?_; intro tk9) | ((with_reducible show wpAny _ _ (exec _ _) _ _ _); (fail_if_success (fail_if_success k_fold)); refine letQ ?_; intro q9) | ((with_reducible show wpAny _ _ (execs (_ :: _) _) _ _ _); (with_reducible rename Fr _ _ _ _ => kF9); (fail_if_success (with_reducible have : Fr _ _ _ ‹Str → Option Value› := kF9)); refine letm kF9 ?_; clear kF9; intro m9 F9) | ktr_member | ((fail_if_success (with_reducible show (if _ then _ else _))); first | walk1 | (dsimp only; walk1)))
  refine ⟨rfl, ?_⟩
  refine args_led ?_ (by rfl)
  repeat' ((fail_if_success (with_reducible show LCg.CompSrc _ _ _ _ _ _ _ _ _ _ _ _ _ _)); (fail_if_success (with_reducible show LCt.CompSrcT _ _ _ _ _ _ _ _ _ _ _ _ _ _ _)); (fail_if_success (with_reducible show wpAny _ _ (pyIter _) _ _ _)); (fail_if_success (with_reducible show wpAny _ _ (exec (Stmt.Raise _ _ _) _) _ _ _)); (fail_if_success (with_reducible show wpAny _ _ (call (Value.ref 31) _) _ _ _)); (fail_if_success (with_reducible show And _ _)); first | (k_unfold; (try dsimp only)) | ((with_reducible show wpAny _ _ (execs (_ :: _) _) _ _ (Shared.mk _ _ _ (HAdd.hAdd _ _) _)); refine genT ?_; intro tk9) | ((with_reducible show wpAny _ _ (exec _ _) _ _ _); (fail_if_success (fail_if_success k_fold)); refine letQ ?_; intro q9) | ((with_reducible show wpAny _ _ (execs (_ :: _) _) _ _ _); (with_reducible rename Fr _ _ _ _ => kF9); (fail_if_success (with_reducible have : Fr _ _ _ ‹Str → Option Value› := kF9)); refine letm kF9 ?_; clear kF9; intro m9 F9) | ktr_member | ((fail_if_success (with_reducible show (if _ then _ else _))); first | walk1 | (dsimp only; walk1)))
  refine ⟨(by first | trivial | rfl), ⟨_, _, by k_asm⟩, ?_⟩
  (try dsimp only)
  refine' raise_call ?k1 ?k2 ?k3 ?k4 ?k5 ?kK ?kd ?ku ?q0 ?q1 ?q2 ?_
  (case k1 => k_asm)
  (case k2 => k_asm)
  (case k3 => k_asm)
  (case k4 => k_asm)
  (case k5 => k_asm)
  (case kK => first | exact rfl | assumption)
  (case kd => ktr_room)
  (case ku => ktr_units)
  (case q0 => decide)
  (case q1 => decide)
  (case q2 => exact .inl rfl)
  intro h9 tk9 t9 e9 dx od mA F9 N9 D9 hco hne hnd hde
  refine ⟨_, _, _, rfl, ⟨_, _, F9⟩, (N9 _ (.head _)).1, ?_⟩
  refine leave_D (news := (dx, od) :: (W ++ Lg lay O)) B' F9 (fun q hq => N9 q ?_) rfl (fun q => nomatch q) (N9 _ (.head _)).1 rfl rfl rfl (N9 _ (.head _)).2.2 (fun q hq => ?_) fun h8 R8 U8 => ?_
  · rcases List.mem_cons.mp hq with hq | hq
    · rw [hq]; exact .tail _ (.head _)
    · exact .tail _ (.tail _ (.tail _ (.tail _ hq)))
  · rcases List.mem_cons.mp hq with hq | hq
    · rw [hq]; exact hde
    · exact hne q (.tail _ (.tail _ hq))
  · exact err _ _ _ _ _ _ _ _ R8 FG' ((Heap.UpToSlots.of_keeps F9.keep).trans U8) D9 hco
end

/-! part E14 -/
section

noncomputable def FnX (w : World) (f : Addr) (d : Nat) (vs : List Value) (lay : Slot → Addr) (W : Led) (O : Slot → Obj) (P : Value → Led → (Slot → Obj) → Prop) : Prop :=
  ∀ (p : Program) (loose : List Str) (mean : ExcName → Option Value) (mg mb : Str → Option Value) (dp un : Nat) (gd : Option (List Code)) (cn : Str) (cs : Scope) (a : Addr) (ccd : Value) (outer : List Env) (A₀ : Around) (base h₀ : Heap) (L : Addr) (m : Str → Option Value) (s : Shared)
    (Q E : Value → Shared → Prop),
    Below A₀ base outer h₀ → Fr h₀ L s.heap m → (Mine.hd0.heap_1 w.params).In h₀ → News h₀ L s.heap (W ++ Lg lay O) → Top p loose mean mg mb h₀ → (Mine.hd0.heap_1 w.params).In base → Top p loose mean mg mb base → KtsDicts (outer.filterMap (·.frame)) h₀ → cs.kind = .function → dp + d < recursionLimit → un + 8 * d < cLine →
    (∀ g r W' O' h' tk', KtsTurn (outer.filterMap (·.frame)) h₀ g → Fr g L h' m → News g L h' (W' ++ Lg lay O') → Below A₀ base outer g → (Mine.hd0.heap_1 w.params).In g → Top p loose mean mg mb g → KtsDicts (outer.filterMap (·.frame)) g → Lay lay W' → (∀ p ∈ W, p ∈ W') → P r W' O' → Q r { s with heap := h', toks := tk' }) →
    wpAny (model PR w) (ktrTop dp un gd cn cs L a ccd [] outer) (call (.ref f) vs) Q E s
theorem FnR.use {w : World} {f : Addr} {d : Nat} {vs : List Value} {lay : Slot → Addr} {W : Led} {O : Slot → Obj} {code : Int}
    {p : Program} {loose : List Str} {mean : ExcName → Option Value} {mg mb : Str → Option Value} {dp un : Nat} {gd : Option (List Code)} {cn : Str} {cs : Scope} {a : Addr} {ccd : Value} {cl : List (Str × Addr)} {outer : List Env} {A₀ : Around} {base h₀ : Heap} {L : Addr} {m : Str → Option Value} {s : Shared}
    {Q E : Value → Shared → Prop}
    (B : Below A₀ base outer h₀) (F : Fr h₀ L s.heap m) (X : (Mine.hd0.heap_1 w.params).In h₀) (N : News h₀ L s.heap (W ++ Lg lay O)) (T : Top p loose mean mg mb h₀) (hk : cs.kind = .function) (C : FnR w f d vs lay W O code) (hd : dp + d < recursionLimit) (hu : un + 8 * d < cLine)
    (err : ∀ h' tk' e dx od mA t g, RaisedD base g (envX cn cs L a ccd cl :: outer) e dx (.ref 31) ((dx, od) :: (W ++ Lg lay O)) h' → Fr h₀ L g m → g.UpToSlots h' → DNs od mA → mA (Str.ofString "code") = some (.int code t) → E (.ref e) { s with heap := h', toks := tk' }) :
    wpAny (model PR w) (ktrTop dp un gd cn cs L a ccd cl outer) (call (.ref f) vs) Q E s := C p loose mean mg mb dp un gd cn cs a ccd cl outer A₀ base h₀ L m s Q E B F X N T hk hd hu err
theorem c_code5 (w : World) (lay : Slot → Addr) (W : Led) (O : Slot → Obj) (hl : Lay lay W) (fx : Fix lay O) (e u : Bool) (nn : Int) (tk tx : Tok) (g : Bool → Int) (tg : Bool → Tok) (n : Nat) (hg : O (.fld e .ownM) = rowI g tg n) (h1 : g u ≤ nn) :
    FnX w 184 40 [.ref (lay (.inst e)), .str (Str.ofString "stop_sending") tk, .int (sidOf nn e u) tx] lay W O (fun r W' O' => O = O' ∧ ∃ t, r = .int 5 t) := by
  obtain ⟨dh, dt, dn, hD⟩ := fx.dct e
  have hI := fx.inst e
  unfold FnX
  intro p loose mean mg mb dp un gd cn cs a ccd outer A₀ base h₀ L m s Q E B F X N T XB TB D hk hd hu ret
  refine wpAny_call ?_
  k_dflt (refine' code_defS (g₀ := h₀) ?k1 ?k2 ?k3 ?k4 ?k5 ?XB ?TB ?D ?T0 ?kA ?k6 ?k7 ?k8 ?k9 ?kB ?_ ?cK ?c2 ?c3 ?c4 ?c5; (case kA => exact rfl); (case k2 => k_asm); (case k1 => k_asm); (case XB => assumption); (case TB => assumption); (case D => assumption); (case T0 => exact KtsTurn.refl); (case k3 => k_asm); (case k4 => k_asm); (case k5 => k_asm); (case k6 => k_is); (case k7 => k_is); (case k8 => ktr_room); (case k9 => exact BindsTo.of_eq rfl); (case kB => exact locs rfl); (case cK => assumption); (case c2 => exact rfl); (case c3 => exact rfl); (case c4 => exact rfl); (case c5 => decide); k_whole)
  intro g' L' h' FG' F' N' B' X' T' D'
  (try dsimp only)
  (try k_fold)
  repeat' ((fail_if_success (with_reducible show LCg.CompSrc _ _ _ _ _ _ _ _ _ _ _ _ _ _)); (fail_if_success (with_reducible show LCt.CompSrcT _ _ _ _ _ _ _ _ _ _ _ _ _ _ _)); (fail_if_success (with_reducible show wpAny _ _ (pyIter _) _ _ _)); (fail_if_success (with_reducible show wpAny _ _ (call (Value.ref 111) _) _ _ _)); first | (k_unfold; (try dsimp only)) | ((with_reducible show wpAny _ _ (execs (_ :: _) _) _ _ (Shared.mk _ _ _ (HAdd.hAdd _ _) _)); refine genT ?_; intro tk9) | ((with_reducible show wpAny _ _ (exec _ _) _ _ _); (fail_if_success (fail_if_success k_fold)); refine letQ ?_; intro q9) | ((with_reducible show wpAny _ _ (execs (_ :: _) _) _ _ _); (with_reducible rename Fr _ _ _ _ => kF9); (fail_if_success (with_reducible have : Fr _ _ _ ‹Str → Option Value› := kF9)); refine letm kF9 ?_; clear kF9; intro m9 F9) | ktr_member | ((fail_if_success (with_reducible show (if _ then _ else _))); first | walk1 | (dsimp only; walk1)))
  refine' FnR.use ?k1 ?k2 ?k3 ?k4 ?k5 ?kK (c_own5 w lay _ _ ?kl ?kf e u nn _ _ g tg n ?kg ?kh) ?kd ?ku ?_
  (case k1 => k_asm)
  (case k2 => k_asm)
  (case k3 => k_asm)
  (case k4 => k_asm)
  (case k5 => k_asm)
  (case kK => first | exact rfl | assumption)
  (case kl => assumption)
  (case kf => assumption)
  (case kg => assumption)
  (case kh => assumption)
  (case kd => ktr_room)
  (case ku => ktr_units)
  intro h9 tk9 e9 dx od mA t9 G9 R9 F9 U9 D9 hco
  (try dsimp only)
  refine caught_D (KF := Mine.hd0.heap_1 w.params) (C := 31) (g₀ := g') R9 F9 B' U9 XB TB D' KtsTurn.refl ?ex ?q fun h4 g4 tk4 oe T4 F4 N4 hoc hod hof B4 X4 P4 D4 => ?_
  (case ex => k_is)
  (case q => with_unfolding_all rfl)
  obtain ⟨vf, hof⟩ := hof
  repeat' ((fail_if_success (with_reducible show wpAny _ _ (getAttr (Value.ref _) _ _) _ _ _)); first | (k_unfold; (try dsimp only)) | walk1 | (dsimp only; walk1))
  refine code_attr (by k_asm) (by k_asm) (by k_asm) (.head _) (.tail _ (.head _)) hoc hof hod D9 hco ?_
  repeat' (first | (k_unfold; (try dsimp only)) | walk1 | (dsimp only; walk1))
  exact ret _ _ W O _ _ (by assumption) (by assumption) (fun q hq => (show News _ L _ ((e9, oe) :: (dx, od) :: (W ++ Lg lay O)) from by assumption) q (.tail _ (.tail _ hq))) (by assumption) (by assumption) (by assumption) (by assumption) hl (fun _ h => h) ⟨rfl, _, rfl⟩
theorem c_code4 (w : World) (lay : Slot → Addr) (W : Led) (O : Slot → Obj) (hl : Lay lay W) (fx : Fix lay O) (e u : Bool) (nn : Int) (tk tx : Tok) (g : Bool → Int) (tg : Bool → Tok) (n : Nat) (hg : O (.fld (!e) .toldL) = rowI g tg n) (h1 : g u ≤ nn) :
    FnX w 184 40 [.ref (lay (.inst (!e))), .str (Str.ofString "stream") tk, .int (sidOf nn e u) tx] lay W O (fun r W' O' => O = O' ∧ ∃ t, r = .int 4 t) := by
  obtain ⟨dh, dt, dn, hD⟩ := fx.dct (!e)
  have hI := fx.inst (!e)
  unfold FnX
  intro p loose mean mg mb dp un gd cn cs a ccd outer A₀ base h₀ L m s Q E B F X N T XB TB D hk hd hu ret
  refine wpAny_call ?_
  k_dflt (refine' code_defS (g₀ := h₀) ?k1 ?k2 ?k3 ?k4 ?k5 ?XB ?TB ?D ?T0 ?kA ?k6 ?k7 ?k8 ?k9 ?kB ?_ ?cK ?c2 ?c3 ?c4 ?c5; (case kA => exact rfl); (case k2 => k_asm); (case k1 => k_asm); (case XB => assumption); (case TB => assumption); (case D => assumption); (case T0 => exact KtsTurn.refl); (case k3 => k_asm); (case k4 => k_asm); (case k5 => k_asm); (case k6 => k_is); (case k7 => k_is); (case k8 => ktr_room); (case k9 => exact BindsTo.of_eq rfl); (case kB => exact locs rfl); (case cK => assumption); (case c2 => exact rfl); (case c3 => exact rfl); (case c4 => exact rfl); (case c5 => decide); k_whole)
  intro g' L' h' FG' F' N' B' X' T' D'
  (try dsimp only)
  (try k_fold)
  repeat' ((fail_if_success (with_reducible show LCg.CompSrc _ _ _ _ _ _ _ _ _ _ _ _ _ _)); (fail_if_success (with_reducible show LCt.CompSrcT _ _ _ _ _ _ _ _ _ _ _ _ _ _ _)); (fail_if_success (with_reducible show wpAny _ _ (pyIter _) _ _ _)); (fail_if_success (with_reducible show wpAny _ _ (call (Value.ref 111) _) _ _ _)); first | (k_unfold; (try dsimp only)) | ((with_reducible show wpAny _ _ (execs (_ :: _) _) _ _ (Shared.mk _ _ _ (HAdd.hAdd _ _) _)); refine genT ?_; intro tk9) | ((with_reducible show wpAny _ _ (exec _ _) _ _ _); (fail_if_success (fail_if_success k_fold)); refine letQ ?_; intro q9) | ((with_reducible show wpAny _ _ (execs (_ :: _) _) _ _ _); (with_reducible rename Fr _ _ _ _ => kF9); (fail_if_success (with_reducible have : Fr _ _ _ ‹Str → Option Value› := kF9)); refine letm kF9 ?_; clear kF9; intro m9 F9) | ktr_member | ((fail_if_success (with_reducible show (if _ then _ else _))); first | walk1 | (dsimp only; walk1)))
  refine' FnR.use ?k1 ?k2 ?k3 ?k4 ?k5 ?kK (c_peer4 w lay _ _ ?kl ?kf e u nn _ _ g tg n ?kg ?kh) ?kd ?ku ?_
  (case k1 => k_asm)
  (case k2 => k_asm)
  (case k3 => k_asm)
  (case k4 => k_asm)
  (case k5 => k_asm)
  (case kK => first | exact rfl | assumption)
  (case kl => assumption)
  (case kf => assumption)
  (case kg => assumption)
  (case kh => assumption)
  (case kd => ktr_room)
  (case ku => ktr_units)
  intro h9 tk9 e9 dx od mA t9 G9 R9 F9 U9 D9 hco
  (try dsimp only)
  refine caught_D (KF := Mine.hd0.heap_1 w.params) (C := 31) (g₀ := g') R9 F9 B' U9 XB TB D' KtsTurn.refl ?ex ?q fun h4 g4 tk4 oe T4 F4 N4 hoc hod hof B4 X4 P4 D4 => ?_
  (case ex => k_is)
  (case q => with_unfolding_all rfl)
  obtain ⟨vf, hof⟩ := hof
  repeat' ((fail_if_success (with_reducible show wpAny _ _ (getAttr (Value.ref _) _ _) _ _ _)); first | (k_unfold; (try dsimp only)) | walk1 | (dsimp only; walk1))
  refine code_attr (by k_asm) (by k_asm) (by k_asm) (.head _) (.tail _ (.head _)) hoc hof hod D9 hco ?_
  repeat' (first | (k_unfold; (try dsimp only)) | walk1 | (dsimp only; walk1))
  exact ret _ _ W O _ _ (by assumption) (by assumption) (fun q hq => (show News _ L _ ((e9, oe) :: (dx, od) :: (W ++ Lg lay O)) from by assumption) q (.tail _ (.tail _ hq))) (by assumption) (by assumption) (by assumption) (by assumption) hl (fun _ h => h) ⟨rfl, _, rfl⟩
end

/-! part E15 -/
section
open PySem PySem.W PySem.Calls PyProof.Rows PySem.Spec
section
variable {prog : Program} {w : World} {A₀ A : Around} {s : Shared} {base h₀ : Heap} {env : Env} {L : Addr} {m : Str → Option Value} {news : List (Addr × Obj)} {K : Frag} {p : Program} {loose : List Str} {mean : ExcName → Option Value} {mg mb : Str → Option Value}
    {R : Result → Shared → Prop} {name qual : Str} {params : Arguments} {body : List Stmt} {scope : Scope} {dV kV doc pm cdv ct oc : Value} {an od : Option Addr} {osl : Array (Option Value)} {f : Addr} {args : Args} {binds : List (Str × Value)}
theorem code_def0 (B : Below A₀ base [] h₀) (F : Fr h₀ L s.heap m) (X₀ : K.In h₀) (N : News h₀ L s.heap news) (T : Top p loose mean mg mb h₀) (hA : A.frames = some [env]) (hf : env.frame = some L) (hke : env.scope.kind = .function)
    (ho : K.lookup f = some ⟨oc, od, .func (fnOf name qual params body scope dV kV doc pm an cdv ct), osl⟩) (hcd : codeIn K cdv qual = true) (hroom : A.depth < recursionLimit)
    (hbind : BindsTo s (fnOf name qual params body scope dV kV doc pm an cdv ct) args binds) (hloc : ∀ y ∈ binds, scope.names.lookup y.1 = some .local)
    (h : ∀ g L' h₁, Fr h₀ L g m → Fr g L' h₁ (fun y => binds.reverse.lookup y) → News g L' h₁ news → Below A base [env] g → K.In g → Top p loose mean mg mb g → KtsDicts ([env].filterMap (·.frame)) g →
      wpAny (model prog w) (A.deeper (envOf qual scope L' f cdv)) (execs body (envOf qual scope L' f cdv))
        (fun fl s' => LeaveS0 ([env].filterMap (·.frame)) h₀ L m g R (match fl with | .ret v => v | _ => .none) s')
        (fun e s' => wpAny (model prog w) (A.deeper (envOf qual scope L' f cdv)) (leaving (envOf qual scope L' f cdv) e) (fun _ s'' => R (.error e) s'') (fun e' s'' => R (.error e') s'') s')
        { s with heap := h₁, toks := s.toks + binds.length })
    (hco : scope.isCoroutine = false) (hgen : scope.isGenerator = false) (hk : scope.kind = .function)
    (hcell : ∀ x ∈ scope.names, x.2 ≠ .cell) : codeAny (model prog w) A (.call (.ref f) args) R s := by
  have X := X₀.keeps F.keep
  obtain ⟨FG, BG, st, _⟩ := groundX (R := R) B F N hA hf hke
  have at_ : ∀ b ∈ [env].filterMap (·.frame), b = L := fun b hb => by
    simp only [List.filterMap_cons, hf, List.filterMap_nil, List.mem_singleton] at hb
    exact hb
  refine codeAny_call_def (fd := fnOf name qual params body scope dV kV doc pm an cdv ct) (body := body) (binds := binds) hroom (X _ _ ho) rfl (T.nolimit.keeps F.keep) (codeRec_of X hcd) rfl hbind hcell hloc (fun h₁ hns hk₁ => ?_) hco hgen hk
  obtain ⟨oL, es, ep, hLg, hLd, hLr⟩ := FG.ns
  refine wpAny_mono (h _ s.heap.objs.size h₁ FG ⟨hns, fun b o e => hk₁ b o (of_hideAll _ e), Nat.le_of_eq (hideAll_size _ _)⟩
    (fun p hp => ⟨hk₁ _ _ (N p hp).1, Nat.ne_of_lt (Heap.lt_size (N p hp).1), hideAll_none _ (List.mem_map_of_mem hp)⟩) BG (X₀.keeps st) (T.keeps st) (fun b hb => by
      rw [at_ b hb]
      exact ⟨oL, es, ep, hLg, hLd⟩)) (fun fl s' hl => ?_) fun _ _ y => y
  obtain ⟨g', L', m', news', T', F', N', k⟩ := hl
  have nL₀ : h₀.get? L = none := kts_self F
  obtain ⟨sl, hs⟩ := T'.up hLg
  refine k ⟨⟨_, es, ep, F'.keep _ _ hs, hLd, hLr⟩, fun b o e => F'.keep b o (T'.other b o (st b o e) (fun q => by
    rw [at_ b q, nL₀] at e
    cases e)), F.above⟩ fun p hp => ⟨(N' p hp).1, fun q => ?_, ?_⟩
  · have := (N' p hp).2.2; rw [q, hs] at this; cases this
  · cases q : h₀.get? p.1 with
    | none => rfl
    | some o =>
      obtain ⟨sl', hs'⟩ := T'.up (st _ _ q)
      have := (N' p hp).2.2
      rw [hs'] at this
      cases this
end
noncomputable def Fn0 (w : World) (f : Addr) (d : Nat) (vs : List Value) (lay : Slot → Addr) (W : Led) (O : Slot → Obj) (P : Value → Led → (Slot → Obj) → Prop) : Prop :=
  ∀ (p : Program) (loose : List Str) (mean : ExcName → Option Value) (mg mb : Str → Option Value) (dp un : Nat) (gd : Option (List Code)) (cn : Str) (cs : Scope) (a : Addr) (ccd : Value) (cl : List (Str × Addr)) (A₀ : Around) (base h₀ : Heap) (L : Addr) (m : Str → Option Value) (s : Shared)
    (Q E : Value → Shared → Prop),
    Below A₀ base [] h₀ → Fr h₀ L s.heap m → (Mine.hd0.heap_1 w.params).In h₀ → News h₀ L s.heap (W ++ Lg lay O) → Top p loose mean mg mb h₀ → (Mine.hd0.heap_1 w.params).In base → Top p loose mean mg mb base → cs.kind = .function → dp + d < recursionLimit → un + 8 * d < cLine →
    (∀ r W' O' h' tk', Fr h₀ L h' m → News h₀ L h' (W' ++ Lg lay O') → Lay lay W' → (∀ p ∈ W, p ∈ W') → P r W' O' → Q r { s with heap := h', toks := tk' }) →
    wpAny (model PR w) (ktrTop dp un gd cn cs L a ccd cl []) (call (.ref f) vs) Q E s
theorem Fn0.use {w : World} {f : Addr} {d : Nat} {vs : List Value} {lay : Slot → Addr} {W : Led} {O : Slot → Obj} {P : Value → Led → (Slot → Obj) → Prop}
    {p : Program} {loose : List Str} {mean : ExcName → Option Value} {mg mb : Str → Option Value} {dp un : Nat} {gd : Option (List Code)} {cn : Str} {cs : Scope} {a : Addr} {ccd : Value} {cl : List (Str × Addr)} {A₀ : Around} {base h₀ : Heap} {L : Addr} {m : Str → Option Value} {s : Shared}
    {Q E : Value → Shared → Prop}
    (B : Below A₀ base [] h₀) (F : Fr h₀ L s.heap m) (X : (Mine.hd0.heap_1 w.params).In h₀) (N : News h₀ L s.heap (W ++ Lg lay O)) (T : Top p loose mean mg mb h₀) (XB : (Mine.hd0.heap_1 w.params).In base) (TB : Top p loose mean mg mb base) (hk : cs.kind = .function) (C : Fn0 w f d vs lay W O P) (hd : dp + d < recursionLimit) (hu : un + 8 * d < cLine)
    (ret : ∀ r W' O' h' tk', Fr h₀ L h' m → News h₀ L h' (W' ++ Lg lay O') → Lay lay W' → (∀ p ∈ W, p ∈ W') → P r W' O' → Q r { s with heap := h', toks := tk' }) :
    wpAny (model PR w) (ktrTop dp un gd cn cs L a ccd cl []) (call (.ref f) vs) Q E s := C p loose mean mg mb dp un gd cn cs a ccd cl A₀ base h₀ L m s Q E B F X N T XB TB hk hd hu ret
theorem FnX.use {w : World} {f : Addr} {d : Nat} {vs : List Value} {lay : Slot → Addr} {W : Led} {O : Slot → Obj} {P : Value → Led → (Slot → Obj) → Prop}
    {p : Program} {loose : List Str} {mean : ExcName → Option Value} {mg mb : Str → Option Value} {dp un : Nat} {gd : Option (List Code)} {cn : Str} {cs : Scope} {a : Addr} {ccd : Value} {outer : List Env} {A₀ : Around} {base h₀ : Heap} {L : Addr} {m : Str → Option Value} {s : Shared}
    {Q E : Value → Shared → Prop}
    (B : Below A₀ base outer h₀) (F : Fr h₀ L s.heap m) (X : (Mine.hd0.heap_1 w.params).In h₀) (N : News h₀ L s.heap (W ++ Lg lay O)) (T : Top p loose mean mg mb h₀) (XB : (Mine.hd0.heap_1 w.params).In base) (TB : Top p loose mean mg mb base) (D : KtsDicts (outer.filterMap (·.frame)) h₀) (hk : cs.kind = .function) (C : FnX w f d vs lay W O P) (hd : dp + d < recursionLimit) (hu : un + 8 * d < cLine)
    (ret : ∀ g r W' O' h' tk', KtsTurn (outer.filterMap (·.frame)) h₀ g → Fr g L h' m → News g L h' (W' ++ Lg lay O') → Below A₀ base outer g → (Mine.hd0.heap_1 w.params).In g → Top p loose mean mg mb g → KtsDicts (outer.filterMap (·.frame)) g → Lay lay W' → (∀ p ∈ W, p ∈ W') → P r W' O' → Q r { s with heap := h', toks := tk' }) :
    wpAny (model PR w) (ktrTop dp un gd cn cs L a ccd [] outer) (call (.ref f) vs) Q E s := C p loose mean mg mb dp un gd cn cs a ccd outer A₀ base h₀ L m s Q E B F X N T XB TB D hk hd hu ret
end

/-! part S5 lemmas -/
section

section
variable {w : World} {A : Around} {E : Value → Shared → Prop} {s : Shared} {h₀ : Heap} {L t : Addr} {m : Str → Option Value} {vs : List Value} {ns : List Int} {n : Nat} {x : Value} {lay : Slot → Addr} {W : Led} {O : Slot → Obj} {sl : Slot}
theorem new_listD {Q : Value → Shared → Prop} (F : Fr h₀ L s.heap m) (N : News h₀ L s.heap (W ++ Lg lay O)) (hl : Lay lay W) (hsz : vs.length ≤ 1000)
    (h : ∀ t h', Fr h₀ L h' m → News h₀ L h' (((t, listOf vs.toArray 0) :: W) ++ Lg lay O) → Lay lay ((t, listOf vs.toArray 0) :: W) → (∀ p ∈ W, p.1 ≠ t) → Q (.ref t) { s with heap := h' }) : wpAny (model PR w) A (newList vs) Q E s :=
  newList_N F N (fun h' F' N' => h _ h' F' N' (lay_new N hl) fun p hp => Nat.ne_of_lt (Heap.lt_size (N p (mem_W hp)).1)) (Nat.le_trans hsz (by rw [sizeLine_eq]; decide))
theorem meth_appO {pl : Sem Bool} {Q : Value × List Value → Shared → Prop} (N : News h₀ L s.heap (W ++ Lg lay O)) (hO : O sl = listOf vs.toArray n) (h : Q (.builtin "list.append", [.ref (lay sl)]) s) :
    wpAny (model PR w) A (getMethod (.ref (lay sl)) (Str.ofString "append") pl) Q E s := getMethod_append_N N (mem_O hO) h rfl rfl
theorem meth_appW {pl : Sem Bool} {Q : Value × List Value → Shared → Prop} (N : News h₀ L s.heap (((t, listOf vs.toArray n) :: W) ++ Lg lay O)) (h : Q (.builtin "list.append", [.ref t]) s) :
    wpAny (model PR w) A (getMethod (.ref t) (Str.ofString "append") pl) Q E s := getMethod_append_N N (mem_W (.head _)) h rfl rfl
theorem app_head {Q : Value → Shared → Prop} (F : Fr h₀ L s.heap m) (N : News h₀ L s.heap (((t, listOf vs.toArray n) :: W) ++ Lg lay O)) (hl : Lay lay ((t, listOf vs.toArray n) :: W)) (hd : ∀ p ∈ W, p.1 ≠ t) (hsz : vs.length ≤ 1000)
    (h : ∀ h', Fr h₀ L h' m → News h₀ L h' (((t, listOf (vs ++ [x]).toArray (n + 1)) :: W) ++ Lg lay O) → Lay lay ((t, listOf (vs ++ [x]).toArray (n + 1)) :: W) → Q .none { s with heap := h' }) : wpAny (model PR w) A (call (.builtin "list.append") [.ref t, x]) Q E s := by
  refine append_K F N (Upd.head (o' := listOf (vs.toArray.push x) (n + 1)) fun p hp => ?_) (fun h' F' N' => h h' F' ?_ ?_) (by rw [List.size_toArray, sizeLine_eq]; omega)
  · rcases List.mem_append.mp hp with hp | hp
    · exact hd p hp
    · obtain ⟨sl, _, rfl⟩ := List.mem_map.mp hp
      exact fun q => hl.off _ (.head _) sl q.symm
  · rw [List.push_toArray] at N'
    exact N'
  · exact ⟨hl.inj, fun p hp sl => by
      rcases List.mem_cons.mp hp with rfl | hp
      · exact hl.off (t, listOf vs.toArray n) (.head _) sl
      · exact hl.off p (.tail _ hp) sl⟩
theorem sorted_same {a b : List Int} : a.Perm b → a.Pairwise (· ≤ ·) → b.Pairwise (· ≤ ·) → a = b := fun h h1 h2 => by
  exact h.eq_of_pairwise (fun _ _ _ _ h3 h4 => Int.le_antisymm h3 h4) h1 h2
theorem sorted_led {Q : Value → Shared → Prop} (F : Fr h₀ L s.heap m) (N : News h₀ L s.heap (W ++ Lg lay O)) (hl : Lay lay W) (hm : (t, listOf vs.toArray n) ∈ W) (hi : IntsAre vs ns) (hs : ns.Pairwise (· ≤ ·)) (hsz : ns.length ≤ 60)
    (h : ∀ t' vs' n' h', Fr h₀ L h' m → News h₀ L h' (((t', listOf vs'.toArray n') :: W) ++ Lg lay O) → Lay lay ((t', listOf vs'.toArray n') :: W) → IntsAre vs' ns → Q (.ref t') { s with heap := h' }) : wpAny (model PR w) A (call (.builtin "sorted") [.ref t]) Q E s := by
  refine kso_sorted F N (News.isList N (mem_W hm)) hi (by omega) fun D vs' ns' c h' F' N' l1 i' _ p' o' _ => ?_
  have e := sorted_same p' o' hs
  subst e
  exact h D vs' c h' F' N' (hl.cons fun sl q => by
    have h1 := l1 (lay sl, O sl) (mem_O rfl)
    exact Nat.ne_of_gt h1 q) i'
end


end

local macro_rules | `(tactic| ktr_member) => `(tactic| first
  | ((with_reducible show wpAny _ _ (newList _) _ _ _); k_dflt (refine' new_listD ?k1 ?k2 ?k3 ?k4 ?_; (case k1 | k2 => k_asm); (case k3 => with_reducible assumption); (case k4 => exact Nat.le_of_ble_eq_true rfl); k_whole; intro t' h' F' N' hl' hd'; (try k_sweep)))
  | ((with_reducible show wpAny _ _ (getMethod (Value.ref _) (Str.ofString "append") _) _ _ _); k_dflt (first
    | (refine' meth_appO ?k1 ?k2 ?_; (case k1 => k_asm); (case k2 => mod_arm); k_whole)
    | (refine' meth_appW ?k1 ?_; (case k1 => k_asm); k_whole)))
  | ((with_reducible show wpAny _ _ (call (Value.builtin "list.append") [Value.ref _, _]) _ _ _); k_dflt (refine' app_head ?k1 ?k2 ?k3 ?k4 ?k5 ?_; (case k1 | k2 => k_asm); (case k3 | k4 => with_reducible assumption); (case k5 => exact Nat.le_of_ble_eq_true rfl); k_whole; intro h' F' N' hl'; (try k_sweep)))
  | ((with_reducible show wpAny _ _ (call (Value.builtin "sorted") [Value.ref _]) _ _ _); k_dflt (refine' sorted_led ?k1 ?k2 ?k3 ?k4 ?k5 ?k6 ?k7 ?_; (case k1 | k2 => k_asm); (case k3 => with_reducible assumption); (case k4 => (first | with_reducible assumption | exact .head _ | exact .tail _ (.head _))); (case k5 => first | with_reducible assumption | repeat (first | exact .nil | apply IntsAre.cons)); (case k6 => with_reducible assumption); (case k7 => exact Nat.le_of_ble_eq_true rfl); k_whole; intro t' vs' n' h' F' N' hl' hi'; (try k_sweep)))
  | ((with_reducible show wpAny _ _ (compareOp CmpOp.Eq (Value.ref _) (Value.ref _)) _ _ _); k_dflt (refine' eq_led ?k1 ?k2 ?k3 ?k4 ?k5 ?k6 ?_; (case k1 => k_asm); (case k2 => k_tabat); (case k3 => first | with_reducible assumption | repeat (first | exact .nil | apply IntsAre.cons)); (case k4 => k_tabat); (case k5 => first | with_reducible assumption | repeat (first | exact .nil | apply IntsAre.cons)); (case k6 => ktr_units); k_whole))
  | fail "no own step 2")
local macro_rules | `(tactic| ktr_member) => `(tactic| first
  | ((with_reducible show wpAny _ _ (exec (Stmt.Assign [Expr.Name _ _] (Expr.ListComp _ [⟨_, _, [_], _⟩] _ _) _) _) _ _ _); k_dflt (refine LCt.Assign_ListComp_T (F₀ := by k_asm) (by rfl) (by with_unfolding_all rfl) (by with_unfolding_all rfl) (by decide) (by rfl) (by decide) (by rfl) (by rfl) (by rfl) ?_))
  | fail "no own step 3")

/-! part S5 walk -/
section

theorem c_chain (w : World) (lay : Slot → Addr) (W : Led) (O : Slot → Obj) (hl : Lay lay W) (S : St) (R : Rel w lay W O S) (e u : Bool) (te tu : Tok)
    (b1 : S.known e u ≤ S.opened e u) (b2 : S.opened e u ≤ S.heard e u) (b3 : S.heard e u ≤ S.told e u) (b4 : S.told e u ≤ letsOf S e u) (b5 : (S.over e u).length ≤ 500) :
    Fn w 191 20 [.ref (lay .ends), .ref (lay .net), .int (b2i e) te, .int (b2i u) tu] lay W O (fun r W' O' => O = O' ∧ ∃ l vs n, r = .ref l ∧ (l, listOf vs.toArray n) ∈ W' ∧ IntsAre vs [S.known e u, S.opened e u, S.heard e u, S.told e u, letsOf S e u]) := by
  obtain ⟨ft, fk, hfi⟩ := R.first e
  obtain ⟨a1, a2, hr1⟩ := R.known e
  obtain ⟨a3, a4, hr2⟩ := R.opened e
  obtain ⟨a5, a6, hr3⟩ := R.heard e
  obtain ⟨a7, a8, hr4⟩ := R.told e
  obtain ⟨ovs, ovn, hov, hoi⟩ := R.over e u
  obtain ⟨orn, hor⟩ := R.fn.orow e
  obtain ⟨c1, c2, hf1⟩ := R.peerM e
  obtain ⟨c3, c4, hf2⟩ := R.ownM e
  obtain ⟨c5, c6, hf3⟩ := R.ownL e
  obtain ⟨c7, c8, hf4⟩ := R.toldL e
  obtain ⟨c9, c0, hf5⟩ := R.peerL e
  obtain ⟨on, hnet, hnd⟩ := R.fn.net
  obtain ⟨o1n, ho1⟩ := R.fn.outer .first
  obtain ⟨o2n, ho2⟩ := R.fn.outer .known
  obtain ⟨o3n, ho3⟩ := R.fn.outer .opened
  obtain ⟨o4n, ho4⟩ := R.fn.outer .heard
  obtain ⟨o5n, ho5⟩ := R.fn.outer .told
  obtain ⟨o6n, ho6⟩ := R.fn.outer .over
  have hends := R.fx.ends
  have fx := R.fx
  obtain ⟨dh, dt, dn, hD⟩ := fx.dct e
  have hI := fx.inst e
  obtain ⟨dh2, dt2, dn2, hD2⟩ := fx.dct (!e)
  have hI2 := fx.inst (!e)
  have f1 : decide ([S.known e u, S.opened e u, S.heard e u, S.told e u, S.first e u + ((S.over e u).length : Nat)] = [S.known e u, S.opened e u, S.heard e u, S.told e u, S.first e u + ((S.over e u).length : Nat)]) = true := decide_eq_true rfl
  have hpw : [S.known e u, S.opened e u, S.heard e u, S.told e u, S.first e u + ((S.over e u).length : Nat)].Pairwise (· ≤ ·) := by
    unfold letsOf at b4
    simp
    omega
  unfold Fn
  intro p loose mean mg mb dp un gd cn cs a ccd cl outer A₀ base h₀ L m s Q E B F X N T hk hd hu ret
  refine wpAny_call ?_
  k_dflt ktr_enter
  repeat' ((fail_if_success (with_reducible show LCg.CompSrc _ _ _ _ _ _ _ _ _ _ _ _ _ _)); (fail_if_success (with_reducible show LCt.CompSrcT _ _ _ _ _ _ _ _ _ _ _ _ _ _ _)); (fail_if_success (with_reducible show wpAny _ _ (pyIter _) _ _ _)); (fail_if_success (with_reducible show wpAny _ _ (call (Value.ref 99) _) _ _ _)); first | (k_unfold; (try dsimp only)) | ((with_reducible show wpAny _ _ (execs (_ :: _) _) _ _ (Shared.mk _ _ _ (HAdd.hAdd _ _) _)); refine genT ?_; intro tk9) | ((with_reducible show wpAny _ _ (exec _ _) _ _ _); (fail_if_success (fail_if_success k_fold)); refine letQ ?_; intro q9) | ((with_reducible show wpAny _ _ (execs (_ :: _) _) _ _ _); (with_reducible rename Fr _ _ _ _ => kF9); (fail_if_success (with_reducible have : Fr _ _ _ ‹Str → Option Value› := kF9)); refine letm kF9 ?_; clear kF9; intro m9 F9) | ktr_member | ((fail_if_success (with_reducible show (if _ then _ else _))); first | walk1 | (dsimp only; walk1)))
  exact ret _ ((_, _) :: (_, _) :: (_, _) :: W) _ _ _ (by k_asm) (by k_asm) (by assumption) (fun _ h => .tail _ (.tail _ (.tail _ h))) ⟨rfl, _, _, _, rfl, .tail _ (.tail _ (.head _)), .cons _ _ (.cons _ _ (.cons _ _ (.cons _ _ (.cons _ _ .nil))))⟩
end

/-! part C3 -/
section

section
variable {w : World} {A : Around} {E : Value → Shared → Prop} {s : Shared} {h₀ : Heap} {L : Addr} {m : Str → Option Value} {env : Env} {lay : Slot → Addr} {W : Led} {O : Slot → Obj} {ct elt : PySem.Expr} {x : Str} {scope : Scope} {cl : List (Str × Addr)}
/-- a test's end: a bool came, all stands as it stood -/
noncomputable def TestEnd (h₀ : Heap) (L : Addr) (m : Str → Option Value) (s : Shared) (lay : Slot → Addr) (W : Led) (O : Slot → Obj) (b : Bool) (y : Bool) (s' : Shared) : Prop :=
  y = b ∧ ∃ h' tk', s' = { s with heap := h', toks := tk' } ∧ Fr h₀ L h' m ∧ News h₀ L h' (W ++ Lg lay O)
theorem TestEnd.intro {b j : Bool} {h' : Heap} {tk' : Nat} (e : j = b) (F : Fr h₀ L h' m) (N : News h₀ L h' (W ++ Lg lay O)) : TestEnd h₀ L m s lay W O b j { s with heap := h', toks := tk' } := ⟨e, h', tk', rfl, F, N⟩
theorem ints_test {vs : List Value} {G : Nat → Int} {T : Nat → Bool} {i : Nat} {t : Tok} (h : IntsAre vs (((List.range i).filter T).map G)) (b : T i = true) : IntsAre (vs ++ [.int (G i) t]) (((List.range (i + 1)).filter T).map G) := by
  rw [List.range_succ, List.filter_append, List.map_append]
  refine h.append ?_
  simp only [List.filter_cons, b, if_true, List.filter_nil, List.map_cons, List.map_nil]
  exact .cons _ _ .nil
theorem ints_skip {vs : List Value} {G : Nat → Int} {T : Nat → Bool} {i : Nat} (h : IntsAre vs (((List.range i).filter T).map G)) (b : T i = false) : IntsAre vs (((List.range (i + 1)).filter T).map G) := by
  rw [List.range_succ, List.filter_append]
  simp only [List.filter_cons, b, Bool.false_eq_true, if_false, List.filter_nil, List.append_nil]
  exact h
theorem comp_restT {G : Nat → Int} {T : Nat → Bool} {a : Int} {n : Nat} {Fin : List Value → Led → Prop} (hl : Lay lay W)
    (test : ∀ (i : Nat) (t : Tok) (I : Addr) (oI : Obj) (C : Addr) (oC : Obj) (D : Addr) (ys : List Value) (m₂ : Str → Option Value) (h : Heap) (tk : Nat) (E' : Value → Shared → Prop), i < n → LCg.NsObj oC m₂ → m₂ x = some (.int (a + (i : Int)) t) → Fr h₀ L h m →
      News h₀ L h (((I, oI) :: (C, oC) :: (D, LCg.lst ys) :: W) ++ Lg lay O) → Lay lay ((I, oI) :: (C, oC) :: (D, LCg.lst ys) :: W) →
      wpAny (model PR w) A (isTrue ct (compEnvC scope cl C env) (eval ct (compEnvC scope cl C env))) (TestEnd h₀ L m { s with heap := h, toks := tk } lay ((I, oI) :: (C, oC) :: (D, LCg.lst ys) :: W) O (T i)) E' { s with heap := h, toks := tk })
    (turn : ∀ (i : Nat) (t : Tok) (I : Addr) (oI : Obj) (C : Addr) (oC : Obj) (D : Addr) (ys : List Value) (m₂ : Str → Option Value) (h : Heap) (tk : Nat) (E' : Value → Shared → Prop), i < n → T i = true → LCg.NsObj oC m₂ → m₂ x = some (.int (a + (i : Int)) t) → Fr h₀ L h m →
      News h₀ L h (((I, oI) :: (C, oC) :: (D, LCg.lst ys) :: W) ++ Lg lay O) → Lay lay ((I, oI) :: (C, oC) :: (D, LCg.lst ys) :: W) →
      wpAny (model PR w) A (eval elt (compEnvC scope cl C env)) (EltInt h₀ L m { s with heap := h, toks := tk } lay ((I, oI) :: (C, oC) :: (D, LCg.lst ys) :: W) O (G i)) E' { s with heap := h, toks := tk })
    (fin : ∀ vs, IntsAre vs (((List.range n).filter T).map G) → Fin vs (W ++ Lg lay O)) :
    ∀ (k i : Nat) (ys : List Value), i + k = n → IntsAre ys (((List.range i).filter T).map G) →
      LCt.CompRestT PR w A h₀ L m env ct elt x scope cl s (fun _ => True) (fun i v => ∃ t, v = .int (a + (i : Int)) t) Fin k i ys (W ++ Lg lay O) := by
  intro k
  induction k with
  | zero =>
    intro i ys hi hy
    have : i = n := by omega
    subst this
    exact fin ys hy
  | succ k ih =>
    intro i ys hi hy v I oI C oC D m₂ h tk E' hv hC hx F N off ne
    obtain ⟨t, rfl⟩ := hv
    refine wpAny_mono (test i t I oI C oC D ys m₂ h tk E' (by omega) hC hx F N (lay_off3 hl off)) (fun y s' hs => ?_) fun _ _ e => e
    obtain ⟨rfl, h', tk', rfl, F', N'⟩ := hs
    cases hT : T i with
    | true =>
      rw [if_pos rfl]
      refine wpAny_mono (turn i t I oI C oC D ys m₂ h' tk' E' (by omega) hT hC hx F' N' (lay_off3 hl off)) (fun y s' hs => ?_) fun _ _ e => e
      obtain ⟨⟨t', rfl⟩, h'', tk'', rfl, F'', N''⟩ := hs
      exact LCg.CompEnd.intro (s₁ := { s with heap := h, toks := tk }) F'' N'' (W ++ Lg lay O) (fun p hp => hp) off trivial (ih (i + 1) _ (by omega) (ints_test hy hT))
    | false =>
      rw [if_neg Bool.false_ne_true]
      exact LCg.CompEnd.intro (s₁ := { s with heap := h, toks := tk }) F' N' (W ++ Lg lay O) (fun p hp => hp) off trivial (ih (i + 1) _ (by omega) (ints_skip hy hT))
theorem comp_rangeT {G : Nat → Int} {T : Nat → Bool} {r : Addr} {a b : Int} {t u v : Tok} {Fin : Shared → List Value → Led → Prop} (hh : A.handled = none) (F : Fr h₀ L s.heap m) (N : News h₀ L s.heap (W ++ Lg lay O)) (hl : Lay lay W)
    (hr : IsRange s.heap r a b 1 t u v) (ha : -100000 < a) (ha' : a < 100000) (hb : -100000 < b) (hb' : b < 100000)
    (test : ∀ (g : Heap) (i : Nat) (t : Tok) (I : Addr) (oI : Obj) (C : Addr) (oC : Obj) (D : Addr) (ys : List Value) (m₂ : Str → Option Value) (h : Heap) (tk : Nat) (E' : Value → Shared → Prop), i < (b - a).toNat → LCg.NsObj oC m₂ → m₂ x = some (.int (a + (i : Int)) t) → Fr h₀ L h m →
      News h₀ L h (((I, oI) :: (C, oC) :: (D, LCg.lst ys) :: W) ++ Lg lay O) → Lay lay ((I, oI) :: (C, oC) :: (D, LCg.lst ys) :: W) →
      wpAny (model PR w) A (isTrue ct (compEnvC scope cl C env) (eval ct (compEnvC scope cl C env))) (TestEnd h₀ L m { s with heap := h, toks := tk } lay ((I, oI) :: (C, oC) :: (D, LCg.lst ys) :: W) O (T i)) E' { s with heap := h, toks := tk })
    (turn : ∀ (g : Heap) (i : Nat) (t : Tok) (I : Addr) (oI : Obj) (C : Addr) (oC : Obj) (D : Addr) (ys : List Value) (m₂ : Str → Option Value) (h : Heap) (tk : Nat) (E' : Value → Shared → Prop), i < (b - a).toNat → T i = true → LCg.NsObj oC m₂ → m₂ x = some (.int (a + (i : Int)) t) → Fr h₀ L h m →
      News h₀ L h (((I, oI) :: (C, oC) :: (D, LCg.lst ys) :: W) ++ Lg lay O) → Lay lay ((I, oI) :: (C, oC) :: (D, LCg.lst ys) :: W) →
      wpAny (model PR w) A (eval elt (compEnvC scope cl C env)) (EltInt h₀ L m { s with heap := h, toks := tk } lay ((I, oI) :: (C, oC) :: (D, LCg.lst ys) :: W) O (G i)) E' { s with heap := h, toks := tk })
    (fin : ∀ g vs, IntsAre vs (((List.range (b - a).toNat).filter T).map G) → Fin { s with heap := g } vs (W ++ Lg lay O)) :
    LCt.CompSrcT PR w A h₀ L m env ct elt x scope cl Fin (.ref r) s := by
  refine LCt.CompSrcT.range hh F N hr (small_one (by omega) (by omega) (by omega) (by omega)) (rangeSize_nat a b) (by rw [sizeLine_eq]; omega) fun g => ?_
  exact comp_restT (s := { s with heap := g }) hl (test g) (turn g) (fin g) (b - a).toNat 0 [] (by omega) .nil
end
section
variable {w : World} {A : Around} {E : Value → Shared → Prop} {s : Shared} {h₀ : Heap} {L a : Addr} {news : Led} {vs : List Value} {ns : List Int} {n : Nat} {k : Int} {t : Tok} {Q : Value → Shared → Prop}
theorem notin_led (N : News h₀ L s.heap news) (hm : (a, listOf vs.toArray n) ∈ news) (hi : IntsAre vs ns) (h : Q (.bool (!(ns.any (· == k)))) s) : wpAny (model PR w) A (compareOp .NotIn (.int k t) (.ref a)) Q E s := notin_list_ints (News.isList N hm) hi h
end
theorem set2_other {α : Type} {f : Bool → Bool → α} {e u x y : Bool} {v : α} (h : ¬ (x = e ∧ y = u)) : set2 f e u v x y = f x y := by
  by_cases hx : x = e
  · subst hx
    rw [set2_row, setB_ne fun q => h ⟨rfl, q⟩]
  · rw [set2_ne hx]
theorem setB_id {α : Type} {g : Bool → α} {u : Bool} : setB g u (g u) = g := by
  funext y
  by_cases hy : y = u
  · subst hy; rw [setB_self]
  · rw [setB_ne hy]
theorem over_len {S : St} {e u : Bool} {one : Int} : setB (fun u => S.first e u + ((S.over e u).length : Nat)) u (S.first e u + ((S.over e u).length : Nat) + 1) = fun y => S.first e y + ((set2 S.over e u (S.over e u ++ [one]) e y).length : Nat) := by
  funext y
  by_cases hy : y = u
  · subst hy
    rw [setB_self, set2_self, List.length_append]
    simp only [List.length_cons, List.length_nil]
    omega
  · rw [setB_ne hy, set2_other (fun q => hy q.2)]
theorem Rel.over2 {w : World} {lay : Slot → Addr} {W : Led} {O : Slot → Obj} {S : St} (R : Rel w lay W O S) (e u : Bool) (one : Int) (vs' : List Value) (t1 : Bool → Tok) (n1 n2 : Nat) (hv : IntsAre vs' (S.over e u ++ [one])) : Rel w lay W (put (put O (.over e u) (listOf vs'.toArray n1)) (.fld (!e) .peerL) (rowI (setB (fun u => S.first e u + ((S.over e u).length : Nat)) u (S.first e u + ((S.over e u).length : Nat) + 1)) t1 n2)) { S with over := set2 S.over e u (S.over e u ++ [one]) } where
  fx := Fix.put (Fix.put R.fx trivial) trivial
  fn := FixN.put (FixN.put R.fn trivial) trivial
  first := fun x => (R.first x).imp fun _ => Exists.imp fun _ h => (put_ne (by first | exact ne_ix rfl | exact ne_rk rfl | exact ne_fk rfl | simp)).trans ((put_ne (by first | exact ne_ix rfl | exact ne_rk rfl | exact ne_fk rfl | simp)).trans (h))
  known := fun x => (R.known x).imp fun _ => Exists.imp fun _ h => (put_ne (by first | exact ne_ix rfl | exact ne_rk rfl | exact ne_fk rfl | simp)).trans ((put_ne (by first | exact ne_ix rfl | exact ne_rk rfl | exact ne_fk rfl | simp)).trans (h))
  opened := fun x => (R.opened x).imp fun _ => Exists.imp fun _ h => (put_ne (by first | exact ne_ix rfl | exact ne_rk rfl | exact ne_fk rfl | simp)).trans ((put_ne (by first | exact ne_ix rfl | exact ne_rk rfl | exact ne_fk rfl | simp)).trans (h))
  heard := fun x => (R.heard x).imp fun _ => Exists.imp fun _ h => (put_ne (by first | exact ne_ix rfl | exact ne_rk rfl | exact ne_fk rfl | simp)).trans ((put_ne (by first | exact ne_ix rfl | exact ne_rk rfl | exact ne_fk rfl | simp)).trans (h))
  told := fun x => (R.told x).imp fun _ => Exists.imp fun _ h => (put_ne (by first | exact ne_ix rfl | exact ne_rk rfl | exact ne_fk rfl | simp)).trans ((put_ne (by first | exact ne_ix rfl | exact ne_rk rfl | exact ne_fk rfl | simp)).trans (h))
  lost := fun x => (R.lost x).imp fun _ h => (put_ne (by first | exact ne_ix rfl | exact ne_rk rfl | exact ne_fk rfl | simp)).trans ((put_ne (by first | exact ne_ix rfl | exact ne_rk rfl | exact ne_fk rfl | simp)).trans (h))
  over := fun x y => by
    by_cases hx : x = e ∧ y = u
    · obtain ⟨hx, hy⟩ := hx; subst hx; subst hy; exact ⟨vs', n1, (put_ne (by first | exact ne_ix rfl | exact ne_rk rfl | exact ne_fk rfl | simp)).trans put_self, by dsimp only; rw [set2_self]; exact hv⟩
    · obtain ⟨vs, k, h, i⟩ := R.over x y; exact ⟨vs, k, (put_ne (by first | exact ne_ix rfl | exact ne_rk rfl | exact ne_fk rfl | simp)).trans ((put_ne (by simpa using hx)).trans h), by dsimp only; rw [set2_other hx]; exact i⟩
  ownL := fun x => (R.ownL x).imp fun _ => Exists.imp fun _ h => (put_ne (by first | exact ne_ix rfl | exact ne_rk rfl | exact ne_fk rfl | simp)).trans ((put_ne (by first | exact ne_ix rfl | exact ne_rk rfl | exact ne_fk rfl | simp)).trans (h))
  ownM := fun x => (R.ownM x).imp fun _ => Exists.imp fun _ h => (put_ne (by first | exact ne_ix rfl | exact ne_rk rfl | exact ne_fk rfl | simp)).trans ((put_ne (by first | exact ne_ix rfl | exact ne_rk rfl | exact ne_fk rfl | simp)).trans (h))
  peerM := fun x => (R.peerM x).imp fun _ => Exists.imp fun _ h => (put_ne (by first | exact ne_ix rfl | exact ne_rk rfl | exact ne_fk rfl | simp)).trans ((put_ne (by first | exact ne_ix rfl | exact ne_rk rfl | exact ne_fk rfl | simp)).trans (h))
  toldL := fun x => (R.toldL x).imp fun _ => Exists.imp fun _ h => (put_ne (by first | exact ne_ix rfl | exact ne_rk rfl | exact ne_fk rfl | simp)).trans ((put_ne (by first | exact ne_ix rfl | exact ne_rk rfl | exact ne_fk rfl | simp)).trans (h))
  peerL := fun x => by
    by_cases hx : x = e
    · subst hx; exact ⟨t1, n2, put_self.trans (by rw [over_len (one := one)])⟩
    · obtain ⟨tk, k, h⟩ := R.peerL x; exact ⟨tk, k, (put_ne (by simp [hx])).trans ((put_ne (by first | exact ne_ix rfl | exact ne_rk rfl | exact ne_fk rfl | simp)).trans (by rw [h]; dsimp only; rw [set2_ne hx]))⟩
  owes := fun x => (R.owes x).imp fun _ h => (put_ne (by first | exact ne_ix rfl | exact ne_rk rfl | exact ne_fk rfl | simp)).trans ((put_ne (by first | exact ne_ix rfl | exact ne_rk rfl | exact ne_fk rfl | simp)).trans (h))
  wire := R.wire.imp fun _ => Exists.imp fun _ => And.imp_left fun h => (put_ne (by first | exact ne_ix rfl | exact ne_rk rfl | exact ne_fk rfl | simp)).trans ((put_ne (by first | exact ne_ix rfl | exact ne_rk rfl | exact ne_fk rfl | simp)).trans (h))
  box := R.box.imp fun _ => Exists.imp fun _ h => (put_ne (by first | exact ne_ix rfl | exact ne_rk rfl | exact ne_fk rfl | simp)).trans ((put_ne (by first | exact ne_ix rfl | exact ne_rk rfl | exact ne_fk rfl | simp)).trans (h))
  scr := R.scr.imp fun _ => Exists.imp fun _ => Exists.imp fun _ => And.imp_left fun h => (put_ne (by first | exact ne_ix rfl | exact ne_rk rfl | exact ne_fk rfl | simp)).trans ((put_ne (by first | exact ne_ix rfl | exact ne_rk rfl | exact ne_fk rfl | simp)).trans (h))
theorem Rel.box1 {w : World} {lay : Slot → Addr} {W : Led} {O : Slot → Obj} {S : St} (R : Rel w lay W O S) (v : Int) (t1 : Tok) (n1 : Nat) : Rel w lay W (put O .box (listOf #[.ref (lay .scr), .int v t1] n1)) { S with spot := v } where
  fx := Fix.put R.fx trivial
  fn := FixN.put R.fn trivial
  first := fun x => (R.first x).imp fun _ => Exists.imp fun _ h => (put_ne (by first | exact ne_ix rfl | exact ne_rk rfl | exact ne_fk rfl | simp)).trans (h)
  known := fun x => (R.known x).imp fun _ => Exists.imp fun _ h => (put_ne (by first | exact ne_ix rfl | exact ne_rk rfl | exact ne_fk rfl | simp)).trans (h)
  opened := fun x => (R.opened x).imp fun _ => Exists.imp fun _ h => (put_ne (by first | exact ne_ix rfl | exact ne_rk rfl | exact ne_fk rfl | simp)).trans (h)
  heard := fun x => (R.heard x).imp fun _ => Exists.imp fun _ h => (put_ne (by first | exact ne_ix rfl | exact ne_rk rfl | exact ne_fk rfl | simp)).trans (h)
  told := fun x => (R.told x).imp fun _ => Exists.imp fun _ h => (put_ne (by first | exact ne_ix rfl | exact ne_rk rfl | exact ne_fk rfl | simp)).trans (h)
  lost := fun x => (R.lost x).imp fun _ h => (put_ne (by first | exact ne_ix rfl | exact ne_rk rfl | exact ne_fk rfl | simp)).trans (h)
  over := fun x y => (R.over x y).imp fun _ => Exists.imp fun _ => And.imp_left fun h => (put_ne (by first | exact ne_ix rfl | exact ne_rk rfl | exact ne_fk rfl | simp)).trans (h)
  ownL := fun x => (R.ownL x).imp fun _ => Exists.imp fun _ h => (put_ne (by first | exact ne_ix rfl | exact ne_rk rfl | exact ne_fk rfl | simp)).trans (h)
  ownM := fun x => (R.ownM x).imp fun _ => Exists.imp fun _ h => (put_ne (by first | exact ne_ix rfl | exact ne_rk rfl | exact ne_fk rfl | simp)).trans (h)
  peerM := fun x => (R.peerM x).imp fun _ => Exists.imp fun _ h => (put_ne (by first | exact ne_ix rfl | exact ne_rk rfl | exact ne_fk rfl | simp)).trans (h)
  toldL := fun x => (R.toldL x).imp fun _ => Exists.imp fun _ h => (put_ne (by first | exact ne_ix rfl | exact ne_rk rfl | exact ne_fk rfl | simp)).trans (h)
  peerL := fun x => (R.peerL x).imp fun _ => Exists.imp fun _ h => (put_ne (by first | exact ne_ix rfl | exact ne_rk rfl | exact ne_fk rfl | simp)).trans (h)
  owes := fun x => (R.owes x).imp fun _ h => (put_ne (by first | exact ne_ix rfl | exact ne_rk rfl | exact ne_fk rfl | simp)).trans (h)
  wire := R.wire.imp fun _ => Exists.imp fun _ => And.imp_left fun h => (put_ne (by first | exact ne_ix rfl | exact ne_rk rfl | exact ne_fk rfl | simp)).trans (h)
  box := ⟨t1, n1, put_self⟩
  scr := R.scr.imp fun _ => Exists.imp fun _ => Exists.imp fun _ => And.imp_left fun h => (put_ne (by first | exact ne_ix rfl | exact ne_rk rfl | exact ne_fk rfl | simp)).trans (h)
theorem Rel.wire1 {w : World} {lay : Slot → Addr} {W : Led} {O : Slot → Obj} {S : St} (R : Rel w lay W O S) (vs : List Value) (ws : List Wd) (n1 : Nat) (hw : Words W vs ws) : Rel w lay W (put O .wire (listOf vs.toArray n1)) { S with wire := ws } where
  fx := Fix.put R.fx trivial
  fn := FixN.put R.fn trivial
  first := fun x => (R.first x).imp fun _ => Exists.imp fun _ h => (put_ne (by first | exact ne_ix rfl | exact ne_rk rfl | exact ne_fk rfl | simp)).trans (h)
  known := fun x => (R.known x).imp fun _ => Exists.imp fun _ h => (put_ne (by first | exact ne_ix rfl | exact ne_rk rfl | exact ne_fk rfl | simp)).trans (h)
  opened := fun x => (R.opened x).imp fun _ => Exists.imp fun _ h => (put_ne (by first | exact ne_ix rfl | exact ne_rk rfl | exact ne_fk rfl | simp)).trans (h)
  heard := fun x => (R.heard x).imp fun _ => Exists.imp fun _ h => (put_ne (by first | exact ne_ix rfl | exact ne_rk rfl | exact ne_fk rfl | simp)).trans (h)
  told := fun x => (R.told x).imp fun _ => Exists.imp fun _ h => (put_ne (by first | exact ne_ix rfl | exact ne_rk rfl | exact ne_fk rfl | simp)).trans (h)
  lost := fun x => (R.lost x).imp fun _ h => (put_ne (by first | exact ne_ix rfl | exact ne_rk rfl | exact ne_fk rfl | simp)).trans (h)
  over := fun x y => (R.over x y).imp fun _ => Exists.imp fun _ => And.imp_left fun h => (put_ne (by first | exact ne_ix rfl | exact ne_rk rfl | exact ne_fk rfl | simp)).trans (h)
  ownL := fun x => (R.ownL x).imp fun _ => Exists.imp fun _ h => (put_ne (by first | exact ne_ix rfl | exact ne_rk rfl | exact ne_fk rfl | simp)).trans (h)
  ownM := fun x => (R.ownM x).imp fun _ => Exists.imp fun _ h => (put_ne (by first | exact ne_ix rfl | exact ne_rk rfl | exact ne_fk rfl | simp)).trans (h)
  peerM := fun x => (R.peerM x).imp fun _ => Exists.imp fun _ h => (put_ne (by first | exact ne_ix rfl | exact ne_rk rfl | exact ne_fk rfl | simp)).trans (h)
  toldL := fun x => (R.toldL x).imp fun _ => Exists.imp fun _ h => (put_ne (by first | exact ne_ix rfl | exact ne_rk rfl | exact ne_fk rfl | simp)).trans (h)
  peerL := fun x => (R.peerL x).imp fun _ => Exists.imp fun _ h => (put_ne (by first | exact ne_ix rfl | exact ne_rk rfl | exact ne_fk rfl | simp)).trans (h)
  owes := fun x => (R.owes x).imp fun _ h => (put_ne (by first | exact ne_ix rfl | exact ne_rk rfl | exact ne_fk rfl | simp)).trans (h)
  wire := ⟨vs, n1, put_self, hw⟩
  box := R.box.imp fun _ => Exists.imp fun _ h => (put_ne (by first | exact ne_ix rfl | exact ne_rk rfl | exact ne_fk rfl | simp)).trans (h)
  scr := R.scr.imp fun _ => Exists.imp fun _ => Exists.imp fun _ => And.imp_left fun h => (put_ne (by first | exact ne_ix rfl | exact ne_rk rfl | exact ne_fk rfl | simp)).trans (h)
theorem Rel.lost2 {w : World} {lay : Slot → Addr} {W : Led} {O : Slot → Obj} {S : St} (R : Rel w lay W O S) (e u : Bool) (n1 n2 : Nat) (b : Bool) : Rel w lay W (put (put O (.fld (!e) .owes) (pairL (fun s => .bool (setB (S.lost e) u b s)) n1)) (.row .lost e) (pairL (fun s => .bool (setB (S.lost e) u b s)) n2)) { S with lost := set2 S.lost e u b } where
  fx := Fix.put (Fix.put R.fx trivial) trivial
  fn := FixN.put (FixN.put R.fn trivial) trivial
  first := fun x => (R.first x).imp fun _ => Exists.imp fun _ h => (put_ne (by first | exact ne_ix rfl | exact ne_rk rfl | exact ne_fk rfl | simp)).trans ((put_ne (by first | exact ne_ix rfl | exact ne_rk rfl | exact ne_fk rfl | simp)).trans (h))
  known := fun x => (R.known x).imp fun _ => Exists.imp fun _ h => (put_ne (by first | exact ne_ix rfl | exact ne_rk rfl | exact ne_fk rfl | simp)).trans ((put_ne (by first | exact ne_ix rfl | exact ne_rk rfl | exact ne_fk rfl | simp)).trans (h))
  opened := fun x => (R.opened x).imp fun _ => Exists.imp fun _ h => (put_ne (by first | exact ne_ix rfl | exact ne_rk rfl | exact ne_fk rfl | simp)).trans ((put_ne (by first | exact ne_ix rfl | exact ne_rk rfl | exact ne_fk rfl | simp)).trans (h))
  heard := fun x => (R.heard x).imp fun _ => Exists.imp fun _ h => (put_ne (by first | exact ne_ix rfl | exact ne_rk rfl | exact ne_fk rfl | simp)).trans ((put_ne (by first | exact ne_ix rfl | exact ne_rk rfl | exact ne_fk rfl | simp)).trans (h))
  told := fun x => (R.told x).imp fun _ => Exists.imp fun _ h => (put_ne (by first | exact ne_ix rfl | exact ne_rk rfl | exact ne_fk rfl | simp)).trans ((put_ne (by first | exact ne_ix rfl | exact ne_rk rfl | exact ne_fk rfl | simp)).trans (h))
  lost := fun x => by
    by_cases hx : x = e
    · subst hx; exact ⟨n2, put_self.trans (by dsimp only; rw [set2_row])⟩
    · obtain ⟨k, h⟩ := R.lost x; exact ⟨k, (put_ne (by simp [hx])).trans ((put_ne (by first | exact ne_ix rfl | exact ne_rk rfl | exact ne_fk rfl | simp)).trans (by rw [h]; dsimp only; rw [set2_ne hx]))⟩
  over := fun x y => (R.over x y).imp fun _ => Exists.imp fun _ => And.imp_left fun h => (put_ne (by first | exact ne_ix rfl | exact ne_rk rfl | exact ne_fk rfl | simp)).trans ((put_ne (by first | exact ne_ix rfl | exact ne_rk rfl | exact ne_fk rfl | simp)).trans (h))
  ownL := fun x => (R.ownL x).imp fun _ => Exists.imp fun _ h => (put_ne (by first | exact ne_ix rfl | exact ne_rk rfl | exact ne_fk rfl | simp)).trans ((put_ne (by first | exact ne_ix rfl | exact ne_rk rfl | exact ne_fk rfl | simp)).trans (h))
  ownM := fun x => (R.ownM x).imp fun _ => Exists.imp fun _ h => (put_ne (by first | exact ne_ix rfl | exact ne_rk rfl | exact ne_fk rfl | simp)).trans ((put_ne (by first | exact ne_ix rfl | exact ne_rk rfl | exact ne_fk rfl | simp)).trans (h))
  peerM := fun x => (R.peerM x).imp fun _ => Exists.imp fun _ h => (put_ne (by first | exact ne_ix rfl | exact ne_rk rfl | exact ne_fk rfl | simp)).trans ((put_ne (by first | exact ne_ix rfl | exact ne_rk rfl | exact ne_fk rfl | simp)).trans (h))
  toldL := fun x => (R.toldL x).imp fun _ => Exists.imp fun _ h => (put_ne (by first | exact ne_ix rfl | exact ne_rk rfl | exact ne_fk rfl | simp)).trans ((put_ne (by first | exact ne_ix rfl | exact ne_rk rfl | exact ne_fk rfl | simp)).trans (h))
  peerL := fun x => (R.peerL x).imp fun _ => Exists.imp fun _ h => (put_ne (by first | exact ne_ix rfl | exact ne_rk rfl | exact ne_fk rfl | simp)).trans ((put_ne (by first | exact ne_ix rfl | exact ne_rk rfl | exact ne_fk rfl | simp)).trans (h))
  owes := fun x => by
    by_cases hx : x = e
    · subst hx; exact ⟨n1, (put_ne (by first | exact ne_ix rfl | exact ne_rk rfl | exact ne_fk rfl | simp)).trans (put_self.trans (by dsimp only; rw [set2_row]))⟩
    · obtain ⟨k, h⟩ := R.owes x; exact ⟨k, (put_ne (by first | exact ne_ix rfl | exact ne_rk rfl | exact ne_fk rfl | simp)).trans ((put_ne (by simp [hx])).trans (by rw [h]; dsimp only; rw [set2_ne hx]))⟩
  wire := R.wire.imp fun _ => Exists.imp fun _ => And.imp_left fun h => (put_ne (by first | exact ne_ix rfl | exact ne_rk rfl | exact ne_fk rfl | simp)).trans ((put_ne (by first | exact ne_ix rfl | exact ne_rk rfl | exact ne_fk rfl | simp)).trans (h))
  box := R.box.imp fun _ => Exists.imp fun _ h => (put_ne (by first | exact ne_ix rfl | exact ne_rk rfl | exact ne_fk rfl | simp)).trans ((put_ne (by first | exact ne_ix rfl | exact ne_rk rfl | exact ne_fk rfl | simp)).trans (h))
  scr := R.scr.imp fun _ => Exists.imp fun _ => Exists.imp fun _ => And.imp_left fun h => (put_ne (by first | exact ne_ix rfl | exact ne_rk rfl | exact ne_fk rfl | simp)).trans ((put_ne (by first | exact ne_ix rfl | exact ne_rk rfl | exact ne_fk rfl | simp)).trans (h))
theorem Rel.lost1 {w : World} {lay : Slot → Addr} {W : Led} {O : Slot → Obj} {S : St} (R : Rel w lay W O S) (e u : Bool) (n2 : Nat) : Rel w lay W (put O (.row .lost e) (pairL (fun s => .bool (setB (S.lost e) u (S.lost e u) s)) n2)) S where
  fx := Fix.put R.fx trivial
  fn := FixN.put R.fn trivial
  first := fun x => (R.first x).imp fun _ => Exists.imp fun _ h => (put_ne (by first | exact ne_ix rfl | exact ne_rk rfl | exact ne_fk rfl | simp)).trans (h)
  known := fun x => (R.known x).imp fun _ => Exists.imp fun _ h => (put_ne (by first | exact ne_ix rfl | exact ne_rk rfl | exact ne_fk rfl | simp)).trans (h)
  opened := fun x => (R.opened x).imp fun _ => Exists.imp fun _ h => (put_ne (by first | exact ne_ix rfl | exact ne_rk rfl | exact ne_fk rfl | simp)).trans (h)
  heard := fun x => (R.heard x).imp fun _ => Exists.imp fun _ h => (put_ne (by first | exact ne_ix rfl | exact ne_rk rfl | exact ne_fk rfl | simp)).trans (h)
  told := fun x => (R.told x).imp fun _ => Exists.imp fun _ h => (put_ne (by first | exact ne_ix rfl | exact ne_rk rfl | exact ne_fk rfl | simp)).trans (h)
  lost := fun x => by
    by_cases hx : x = e
    · subst hx; exact ⟨n2, put_self.trans (by rw [setB_id])⟩
    · obtain ⟨k, h⟩ := R.lost x; exact ⟨k, (put_ne (by simp [hx])).trans h⟩
  over := fun x y => (R.over x y).imp fun _ => Exists.imp fun _ => And.imp_left fun h => (put_ne (by first | exact ne_ix rfl | exact ne_rk rfl | exact ne_fk rfl | simp)).trans (h)
  ownL := fun x => (R.ownL x).imp fun _ => Exists.imp fun _ h => (put_ne (by first | exact ne_ix rfl | exact ne_rk rfl | exact ne_fk rfl | simp)).trans (h)
  ownM := fun x => (R.ownM x).imp fun _ => Exists.imp fun _ h => (put_ne (by first | exact ne_ix rfl | exact ne_rk rfl | exact ne_fk rfl | simp)).trans (h)
  peerM := fun x => (R.peerM x).imp fun _ => Exists.imp fun _ h => (put_ne (by first | exact ne_ix rfl | exact ne_rk rfl | exact ne_fk rfl | simp)).trans (h)
  toldL := fun x => (R.toldL x).imp fun _ => Exists.imp fun _ h => (put_ne (by first | exact ne_ix rfl | exact ne_rk rfl | exact ne_fk rfl | simp)).trans (h)
  peerL := fun x => (R.peerL x).imp fun _ => Exists.imp fun _ h => (put_ne (by first | exact ne_ix rfl | exact ne_rk rfl | exact ne_fk rfl | simp)).trans (h)
  owes := fun x => (R.owes x).imp fun _ h => (put_ne (by first | exact ne_ix rfl | exact ne_rk rfl | exact ne_fk rfl | simp)).trans (h)
  wire := R.wire.imp fun _ => Exists.imp fun _ => And.imp_left fun h => (put_ne (by first | exact ne_ix rfl | exact ne_rk rfl | exact ne_fk rfl | simp)).trans (h)
  box := R.box.imp fun _ => Exists.imp fun _ h => (put_ne (by first | exact ne_ix rfl | exact ne_rk rfl | exact ne_fk rfl | simp)).trans (h)
  scr := R.scr.imp fun _ => Exists.imp fun _ => Exists.imp fun _ => And.imp_left fun h => (put_ne (by first | exact ne_ix rfl | exact ne_rk rfl | exact ne_fk rfl | simp)).trans (h)
end

section
local macro_rules | `(tactic| ktr_member) => `(tactic| first
  | ((with_reducible show wpAny _ _ (compareOp CmpOp.NotIn (Value.int _ _) (Value.ref _)) _ _ _); k_dflt (refine' notin_led ?k1 ?k2 ?k3 ?_; (case k1 => k_asm); (case k2 => exact mem_O (by mod_arm)); (case k3 => with_reducible assumption); k_whole))
  | fail "no own step 4")
local macro_rules | `(tactic| ktr_member) => `(tactic| first
  | ((with_reducible show wpAny _ _ (call (Value.builtin "len") [Value.ref _]) _ _ _); k_dflt (refine' len_il ?k1 ?k2 ?k3 ?k4 ?_; (case k1 => k_asm); (case k2 => k_tabat); (case k3 => with_reducible assumption); (case k4 => omega); k_whole))
  | ((with_reducible show wpAny _ _ (subscriptTail _ _ (Value.ref _) (Value.int _ _)) _ _ _); k_dflt (refine' sub_ints ?k1 ?k2 ?k3 ?k4 ?k5 ?k6 ?_ ?k7; (case k1 => k_asm); (case k2 => k_tabat); (case k3 => with_reducible assumption); (case k4 | k5 => first | with_reducible assumption | omega); (case k6 => omega); (case k7 => with_unfolding_all rfl); k_whole; intro t'))
  | fail "no own step 5")

/-! part S6 -/
section

noncomputable def liveL (S : St) (e u : Bool) : List Int := ((List.range (S.known e u - 0).toNat).filter fun (i : Nat) => !((S.over e u).any (· == (0 + (i : Int))))).map fun (i : Nat) => 0 + (i : Int)
theorem live_mem {S : St} {e u : Bool} {x : Int} (h : x ∈ liveL S e u) : 0 ≤ x ∧ x < S.known e u ∧ x ∉ S.over e u := by
  obtain ⟨i, hi, rfl⟩ := List.mem_map.mp h
  obtain ⟨h1, h2⟩ := List.mem_filter.mp hi
  rw [List.mem_range] at h1
  refine ⟨by omega, by omega, fun h3 => ?_⟩
  have : ((S.over e u).any (· == (0 + (i : Int)))) = true := List.any_eq_true.mpr ⟨_, h3, by simp⟩
  rw [this] at h2
  exact absurd h2 (by decide)
theorem live_len {S : St} {e u : Bool} : (liveL S e u).length ≤ (S.known e u).toNat := by
  unfold liveL
  rw [List.length_map]
  exact Nat.le_trans (List.length_filter_le _ _) (by rw [List.length_range]; omega)
theorem getD_mem : ∀ {l : List Int} {i : Nat}, i < l.length → l.getD i 0 ∈ l
  | _ :: _, 0, _ => .head _
  | _ :: _, i + 1, h => .tail _ (getD_mem (Nat.lt_of_succ_lt_succ h))
theorem c_over (w : World) (lay : Slot → Addr) (W : Led) (O : Slot → Obj) (hl : Lay lay W) (S : St) (R : Rel w lay W O S) (e u : Bool) (pick : Int) (te tu tp : Tok)
    (b0 : 0 ≤ S.known e u) (b1 : S.known e u < 500) (b2 : (S.over e u).length ≤ 400) (b3 : S.wire.length ≤ 400) (b4 : 0 ≤ S.first e u) (b5 : S.first e u < 100) :
    Fn w 170 30 [.ref (lay .ends), .ref (lay .net), .int (b2i e) te, .int (b2i u) tu, .int pick tp] lay W O (fun r W' O' =>
      r = .bool true ∧ ∃ S', Rel w lay W' O' (toldS S' e u) ∧ (S' = S ∨ ∃ one, 0 ≤ one ∧ one < S.known e u ∧ one ∉ S.over e u ∧ S' = { S with over := set2 S.over e u (S.over e u ++ [one]) })) := by
  obtain ⟨kt, kn, hkn⟩ := R.known e
  obtain ⟨ovs, ovn, hov, hoi⟩ := R.over e u
  obtain ⟨orn, hor⟩ := R.fn.orow e
  obtain ⟨pt, pn, hpl⟩ := R.peerL e
  obtain ⟨on, hnet, hnd⟩ := R.fn.net
  obtain ⟨okn, hok⟩ := R.fn.outer .known
  obtain ⟨oon, hoo⟩ := R.fn.outer .over
  have hends := R.fx.ends
  have fx := R.fx
  obtain ⟨dh, dt, dn, hD⟩ := fx.dct (!e)
  have hI := fx.inst (!e)
  have hovl := hoi.length
  have hlv := @live_len S e u
  unfold Fn
  intro p loose mean mg mb dp un gd cn cs a ccd cl outer A₀ base h₀ L m s Q E B F X N T hk hd hu ret
  refine wpAny_call ?_
  k_dflt (refine' code_defC ?k1 ?k2 ?k3 ?k4 ?k5 ?kA ?kF ?kK ?k6 ?k7 ?k8 ?k9 ?kB ?kD ?_ ?c2 ?c3 ?c4; (case kA => exact rfl); (case kF => exact rfl); (case kK => assumption); (case k1 => k_asm); (case k2 => k_asm); (case k3 => k_asm); (case k4 => k_asm); (case k5 => k_asm); (case k6 => k_is); (case k7 => k_is); (case k8 => ktr_room); (case k9 => exact BindsTo.of_eq rfl); (case kB => exact rfl); (case kD => decide +kernel); (case c2 => exact rfl); (case c3 => exact rfl); (case c4 => exact rfl); k_whole)
  intro g' L' h' tk' cells' FG' F' N' Y' B' X' T' l1
  obtain ⟨o1, o2, o3, hE', d1, d2, d3⟩ := CellsAre.three Y'
  subst hE'
  clear Y'
  obtain ⟨hW, hS⟩ := lay_lt l1
  clear l1
  have hlc := lay_cells3 (o1 := o1) (o2 := o2) (o3 := o3) (c1 := L' + 1 + 1 + 1) (c2 := L' + 1 + 1) (c3 := L' + 1) hl hS (lt3 _) (lt2 _) (lt1 _)
  replace N' : News g' L' h' (((L' + 1 + 1 + 1, o1) :: (L' + 1 + 1, o2) :: (L' + 1, o3) :: W) ++ Lg lay O) := N'
  clear hl
  (try dsimp only)
  (try k_fold)
  replace d1 : o1.data = .cell (some (.int (b2i u) tu)) := by with_unfolding_all exact d1
  replace d2 : o2.data = .cell (some (.int (b2i e) te)) := by with_unfolding_all exact d2
  replace d3 : o3.data = .cell (some (.ref (lay .net))) := by with_unfolding_all exact d3
  repeat' ((fail_if_success (with_reducible show LCg.CompSrc _ _ _ _ _ _ _ _ _ _ _ _ _ _)); (fail_if_success (with_reducible show LCt.CompSrcT _ _ _ _ _ _ _ _ _ _ _ _ _ _ _)); (fail_if_success (with_reducible show wpAny _ _ (pyIter _) _ _ _)); (fail_if_success (with_reducible show wpAny _ _ (call (Value.ref 118) _) _ _ _)); (fail_if_success (with_reducible show wpAny _ _ (call (Value.ref 165) _) _ _ _)); first | (k_unfold; (try dsimp only)) | ((with_reducible show wpAny _ _ (execs (_ :: _) _) _ _ (Shared.mk _ _ _ (HAdd.hAdd _ _) _)); refine genT ?_; intro tk9) | ((with_reducible show wpAny _ _ (exec _ _) _ _ _); (fail_if_success (fail_if_success k_fold)); refine letQ ?_; intro q9) | ((with_reducible show wpAny _ _ (execs (_ :: _) _) _ _ _); (with_reducible rename Fr _ _ _ _ => kF9); (fail_if_success (with_reducible have : Fr _ _ _ ‹Str → Option Value› := kF9)); refine letm kF9 ?_; clear kF9; intro m9 F9) | ktr_member | ((fail_if_success (with_reducible show (if _ then _ else _))); first | walk1 | (dsimp only; walk1)))
  refine comp_rangeT (G := fun (i : Nat) => 0 + (i : Int)) (T := fun (i : Nat) => !((S.over e u).any (· == (0 + (i : Int))))) rfl (by k_asm) (by k_asm) (by assumption) (by assumption) (by omega) (by omega) (by omega) (by omega) ?_ ?_ ?_
  · intro gg i t I oI C oC D ys m₂ hh tk9 E9 hi hC hx F9 N9 hl9
    repeat' ((fail_if_success (with_reducible show LCg.CompSrc _ _ _ _ _ _ _ _ _ _ _ _ _ _)); (fail_if_success (with_reducible show LCt.CompSrcT _ _ _ _ _ _ _ _ _ _ _ _ _ _ _)); (fail_if_success (with_reducible show wpAny _ _ (pyIter _) _ _ _)); (fail_if_success (with_reducible show wpAny _ _ (call (Value.ref 118) _) _ _ _)); (fail_if_success (with_reducible show wpAny _ _ (call (Value.ref 165) _) _ _ _)); first | (k_unfold; (try dsimp only)) | ((with_reducible show wpAny _ _ (execs (_ :: _) _) _ _ (Shared.mk _ _ _ (HAdd.hAdd _ _) _)); refine genT ?_; intro tk9) | ((with_reducible show wpAny _ _ (exec _ _) _ _ _); (fail_if_success (fail_if_success k_fold)); refine letQ ?_; intro q9) | ((with_reducible show wpAny _ _ (execs (_ :: _) _) _ _ _); (with_reducible rename Fr _ _ _ _ => kF9); (fail_if_success (with_reducible have : Fr _ _ _ ‹Str → Option Value› := kF9)); refine letm kF9 ?_; clear kF9; intro m9 F9) | ktr_member | ((fail_if_success (with_reducible show (if _ then _ else _))); first | walk1 | (dsimp only; walk1)))
    exact TestEnd.intro rfl (by k_asm) (by k_asm)
  · intro gg i t I oI C oC D ys m₂ hh tk9 E9 hi hT hC hx F9 N9 hl9
    repeat' ((fail_if_success (with_reducible show LCg.CompSrc _ _ _ _ _ _ _ _ _ _ _ _ _ _)); (fail_if_success (with_reducible show LCt.CompSrcT _ _ _ _ _ _ _ _ _ _ _ _ _ _ _)); (fail_if_success (with_reducible show wpAny _ _ (pyIter _) _ _ _)); (fail_if_success (with_reducible show wpAny _ _ (call (Value.ref 118) _) _ _ _)); (fail_if_success (with_reducible show wpAny _ _ (call (Value.ref 165) _) _ _ _)); first | (k_unfold; (try dsimp only)) | ((with_reducible show wpAny _ _ (execs (_ :: _) _) _ _ (Shared.mk _ _ _ (HAdd.hAdd _ _) _)); refine genT ?_; intro tk9) | ((with_reducible show wpAny _ _ (exec _ _) _ _ _); (fail_if_success (fail_if_success k_fold)); refine letQ ?_; intro q9) | ((with_reducible show wpAny _ _ (execs (_ :: _) _) _ _ _); (with_reducible rename Fr _ _ _ _ => kF9); (fail_if_success (with_reducible have : Fr _ _ _ ‹Str → Option Value› := kF9)); refine letm kF9 ?_; clear kF9; intro m9 F9) | ktr_member | ((fail_if_success (with_reducible show (if _ then _ else _))); first | walk1 | (dsimp only; walk1)))
    exact EltInt.intro rfl (by k_asm) (by k_asm)
  · intro gg vs hv
    replace hv : IntsAre vs (liveL S e u) := hv
    unfold LCg.FinA
    intro D hh tk9 F9 N9 o9
    replace N9 : News g' L' hh (((D, listOf vs.toArray vs.length) :: (L' + 1 + 1 + 1, o1) :: (L' + 1 + 1, o2) :: (L' + 1, o3) :: W) ++ Lg lay O) := N9
    have hl9 : Lay lay ((D, listOf vs.toArray vs.length) :: (L' + 1 + 1 + 1, o1) :: (L' + 1 + 1, o2) :: (L' + 1, o3) :: W) := lay_off1 hlc o9
    have hvl := hv.length
    by_cases hnil : liveL S e u = []
    · have f1 : ¬ (!decide (liveL S e u = [])) = true := by rw [hnil]; decide
      repeat' ((fail_if_success (with_reducible show LCg.CompSrc _ _ _ _ _ _ _ _ _ _ _ _ _ _)); (fail_if_success (with_reducible show LCt.CompSrcT _ _ _ _ _ _ _ _ _ _ _ _ _ _ _)); (fail_if_success (with_reducible show wpAny _ _ (pyIter _) _ _ _)); (fail_if_success (with_reducible show wpAny _ _ (call (Value.ref 118) _) _ _ _)); (fail_if_success (with_reducible show wpAny _ _ (call (Value.ref 165) _) _ _ _)); first | (k_unfold; (try dsimp only)) | ((with_reducible show wpAny _ _ (execs (_ :: _) _) _ _ (Shared.mk _ _ _ (HAdd.hAdd _ _) _)); refine genT ?_; intro tk9) | ((with_reducible show wpAny _ _ (exec _ _) _ _ _); (fail_if_success (fail_if_success k_fold)); refine letQ ?_; intro q9) | ((with_reducible show wpAny _ _ (execs (_ :: _) _) _ _ _); (with_reducible rename Fr _ _ _ _ => kF9); (fail_if_success (with_reducible have : Fr _ _ _ ‹Str → Option Value› := kF9)); refine letm kF9 ?_; clear kF9; intro m9 F9) | ktr_member | ((fail_if_success (with_reducible show (if _ then _ else _))); first | walk1 | (dsimp only; walk1)))
      refine' Fn.use ?k1 ?k2 ?k3 ?k4 ?k5 ?kK (c_told w lay _ _ ?kl S ?kr e u _ _ ?b1 ?b2) ?kd ?ku ?_
      (case k1 => k_asm)
      (case k2 => k_asm)
      (case k3 => k_asm)
      (case k4 => k_asm)
      (case k5 => k_asm)
      (case kK => first | exact rfl | assumption)
      (case kd => ktr_room)
      (case ku => ktr_units)
      (case kl => assumption)
      (case kr => exact R.mono fun q h => .tail _ (.tail _ (.tail _ (.tail _ (.tail _ h)))))
      (case b1 => omega)
      (case b2 => omega)
      intro r9 W9 O9 h9 tk9 F9 N9 hl9 hs9 hP9
      (try dsimp only)
      (try k_sweep)
      obtain ⟨rfl, R9⟩ := hP9
      repeat' ((fail_if_success (with_reducible show LCg.CompSrc _ _ _ _ _ _ _ _ _ _ _ _ _ _)); (fail_if_success (with_reducible show LCt.CompSrcT _ _ _ _ _ _ _ _ _ _ _ _ _ _ _)); (fail_if_success (with_reducible show wpAny _ _ (pyIter _) _ _ _)); (fail_if_success (with_reducible show wpAny _ _ (call (Value.ref 118) _) _ _ _)); (fail_if_success (with_reducible show wpAny _ _ (call (Value.ref 165) _) _ _ _)); first | (k_unfold; (try dsimp only)) | ((with_reducible show wpAny _ _ (execs (_ :: _) _) _ _ (Shared.mk _ _ _ (HAdd.hAdd _ _) _)); refine genT ?_; intro tk9) | ((with_reducible show wpAny _ _ (exec _ _) _ _ _); (fail_if_success (fail_if_success k_fold)); refine letQ ?_; intro q9) | ((with_reducible show wpAny _ _ (execs (_ :: _) _) _ _ _); (with_reducible rename Fr _ _ _ _ => kF9); (fail_if_success (with_reducible have : Fr _ _ _ ‹Str → Option Value› := kF9)); refine letm kF9 ?_; clear kF9; intro m9 F9) | ktr_member | ((fail_if_success (with_reducible show (if _ then _ else _))); first | walk1 | (dsimp only; walk1)))
      exact ret _ W9 O9 _ _ (by k_asm) (by k_asm) (by assumption) (fun q h => hs9 q (.tail _ (.tail _ (.tail _ (.tail _ (.tail _ h)))))) ⟨rfl, S, R9, .inl rfl⟩
    · have f1 : (!decide (liveL S e u = [])) = true := by rw [decide_eq_false hnil]; rfl
      have hpos : 0 < (liveL S e u).length := List.length_pos_iff.mpr hnil
      have hlo := fmod_lo pick (n := ((liveL S e u).length : Int)) (by omega)
      have hhi := fmod_hi pick (n := ((liveL S e u).length : Int)) (by omega)
      repeat' ((fail_if_success (with_reducible show LCg.CompSrc _ _ _ _ _ _ _ _ _ _ _ _ _ _)); (fail_if_success (with_reducible show LCt.CompSrcT _ _ _ _ _ _ _ _ _ _ _ _ _ _ _)); (fail_if_success (with_reducible show wpAny _ _ (pyIter _) _ _ _)); (fail_if_success (with_reducible show wpAny _ _ (call (Value.ref 118) _) _ _ _)); (fail_if_success (with_reducible show wpAny _ _ (call (Value.ref 165) _) _ _ _)); first | (k_unfold; (try dsimp only)) | ((with_reducible show wpAny _ _ (execs (_ :: _) _) _ _ (Shared.mk _ _ _ (HAdd.hAdd _ _) _)); refine genT ?_; intro tk9) | ((with_reducible show wpAny _ _ (exec _ _) _ _ _); (fail_if_success (fail_if_success k_fold)); refine letQ ?_; intro q9) | ((with_reducible show wpAny _ _ (execs (_ :: _) _) _ _ _); (with_reducible rename Fr _ _ _ _ => kF9); (fail_if_success (with_reducible have : Fr _ _ _ ‹Str → Option Value› := kF9)); refine letm kF9 ?_; clear kF9; intro m9 F9) | ktr_member | ((fail_if_success (with_reducible show (if _ then _ else _))); first | walk1 | (dsimp only; walk1)))
      have hone : (liveL S e u).getD (pick.fmod ↑(liveL S e u).length).toNat 0 ∈ liveL S e u := getD_mem (by omega)
      generalize (liveL S e u).getD (pick.fmod ↑(liveL S e u).length).toNat 0 = one at *
      obtain ⟨m0, m1, m2⟩ := live_mem hone
      refine' Fn.use ?k1 ?k2 ?k3 ?k4 ?k5 ?kK (c_closed w lay _ _ ?kl ?kf e one u (fun u => S.first e u + ((S.over e u).length : Nat)) _ _ ?kp _ ?km) ?kd ?ku ?_
      (case k1 => k_asm)
      (case k2 => k_asm)
      (case k3 => k_asm)
      (case k4 => k_asm)
      (case k5 => k_asm)
      (case kK => first | exact rfl | assumption)
      (case kd => ktr_room)
      (case ku => ktr_units)
      (case kl => assumption)
      (case kf => exact Fix.put fx trivial)
      (case kp => mod_arm)
      (case km => (show S.first e u + ((S.over e u).length : Nat) < 1000; omega))
      intro r9 W9 O9 h9 tk9 F9 N9 hl9 hs9 hP9
      (try dsimp only)
      (try k_sweep)
      obtain ⟨hW, rfl, t9, rfl⟩ := hP9
      subst hW
      repeat' ((fail_if_success (with_reducible show LCg.CompSrc _ _ _ _ _ _ _ _ _ _ _ _ _ _)); (fail_if_success (with_reducible show LCt.CompSrcT _ _ _ _ _ _ _ _ _ _ _ _ _ _ _)); (fail_if_success (with_reducible show wpAny _ _ (pyIter _) _ _ _)); (fail_if_success (with_reducible show wpAny _ _ (call (Value.ref 118) _) _ _ _)); (fail_if_success (with_reducible show wpAny _ _ (call (Value.ref 165) _) _ _ _)); first | (k_unfold; (try dsimp only)) | ((with_reducible show wpAny _ _ (execs (_ :: _) _) _ _ (Shared.mk _ _ _ (HAdd.hAdd _ _) _)); refine genT ?_; intro tk9) | ((with_reducible show wpAny _ _ (exec _ _) _ _ _); (fail_if_success (fail_if_success k_fold)); refine letQ ?_; intro q9) | ((with_reducible show wpAny _ _ (execs (_ :: _) _) _ _ _); (with_reducible rename Fr _ _ _ _ => kF9); (fail_if_success (with_reducible have : Fr _ _ _ ‹Str → Option Value› := kF9)); refine letm kF9 ?_; clear kF9; intro m9 F9) | ktr_member | ((fail_if_success (with_reducible show (if _ then _ else _))); first | walk1 | (dsimp only; walk1)))
      refine' Fn.use ?k1 ?k2 ?k3 ?k4 ?k5 ?kK (c_told w lay _ _ ?kl _ ?kr e u _ _ ?b1 ?b2) ?kd ?ku ?_
      (case k1 => k_asm)
      (case k2 => k_asm)
      (case k3 => k_asm)
      (case k4 => k_asm)
      (case k5 => k_asm)
      (case kK => first | exact rfl | assumption)
      (case kd => ktr_room)
      (case ku => ktr_units)
      (case kl => assumption)
      (case kr => exact (R.mono fun q h => .tail _ (.tail _ (.tail _ (.tail _ (.tail _ h))))).over2 e u one _ _ _ _ (hoi.append (.cons _ _ .nil)))
      (case b1 => (dsimp only; rw [set2_self, List.length_append]; simp only [List.length_cons, List.length_nil]; omega))
      (case b2 => (show S.wire.length ≤ 500; omega))
      intro r8 W8 O8 h8 tk8 F8 N8 hl8 hs8 hP8
      (try dsimp only)
      (try k_sweep)
      obtain ⟨rfl, R9⟩ := hP8
      repeat' ((fail_if_success (with_reducible show LCg.CompSrc _ _ _ _ _ _ _ _ _ _ _ _ _ _)); (fail_if_success (with_reducible show LCt.CompSrcT _ _ _ _ _ _ _ _ _ _ _ _ _ _ _)); (fail_if_success (with_reducible show wpAny _ _ (pyIter _) _ _ _)); (fail_if_success (with_reducible show wpAny _ _ (call (Value.ref 118) _) _ _ _)); (fail_if_success (with_reducible show wpAny _ _ (call (Value.ref 165) _) _ _ _)); first | (k_unfold; (try dsimp only)) | ((with_reducible show wpAny _ _ (execs (_ :: _) _) _ _ (Shared.mk _ _ _ (HAdd.hAdd _ _) _)); refine genT ?_; intro tk9) | ((with_reducible show wpAny _ _ (exec _ _) _ _ _); (fail_if_success (fail_if_success k_fold)); refine letQ ?_; intro q9) | ((with_reducible show wpAny _ _ (execs (_ :: _) _) _ _ _); (with_reducible rename Fr _ _ _ _ => kF9); (fail_if_success (with_reducible have : Fr _ _ _ ‹Str → Option Value› := kF9)); refine letm kF9 ?_; clear kF9; intro m9 F9) | ktr_member | ((fail_if_success (with_reducible show (if _ then _ else _))); first | walk1 | (dsimp only; walk1)))
      exact ret _ W8 O8 _ _ (by k_asm) (by k_asm) (by assumption) (fun q h => hs8 q (.tail _ (.tail _ (.tail _ (.tail _ (.tail _ h)))))) ⟨rfl, _, R9, .inr ⟨one, m0, m1, m2, rfl⟩⟩
end

end

/-! part C4 -/
section

section
variable {w : World} {A : Around} {E : Value → Shared → Prop} {s : Shared} {h₀ : Heap} {L a b : Addr} {m : Str → Option Value} {news : Led} {vs us : List Value} {ns : List Int} {n n' : Nat} {x v : Value} {k : Int} {u : Tok} {value slice : PySem.Expr} {lay : Slot → Addr} {W : Led} {O : Slot → Obj} {sl : Slot} {Q : Value → Shared → Prop}
theorem eq_nil (N : News h₀ L s.heap news) (hm : (a, listOf vs.toArray n) ∈ news) (hm' : (b, listOf ([] : List Value).toArray n') ∈ news) (hu : A.units + 64 < cLine) (h : Q (.bool (decide (vs.length = 0))) s) : wpAny (model PR w) A (compareOp .Eq (.ref a) (.ref b)) Q E s := by
  cases vs with
  | nil => exact eq_intsK (News.isList N hm) .nil (News.isList N hm') .nil hu h
  | cons y r => exact SeqAt.eq_list_lengthsAt (News.isList N hm) (News.isList N hm') (by simp) (by omega) h
theorem ne_nil (N : News h₀ L s.heap news) (hm : (a, listOf vs.toArray n) ∈ news) (hi : IntsAre vs ns) (hm' : (b, listOf ([] : List Value).toArray n') ∈ news) (hu : A.units + 64 < cLine) (h : Q (.bool (!decide (ns = []))) s) : wpAny (model PR w) A (compareOp .NotEq (.ref a) (.ref b)) Q E s :=
  ne_intsK (News.isList N hm) hi (News.isList N hm') .nil hu h
theorem sub_vals (N : News h₀ L s.heap news) (hm : (a, listOf vs.toArray n) ∈ news) (h0 : 0 ≤ k) (h1 : k < 1000000) (hx : vs[k.toNat]? = some v) (h : Q v s)
    (hs : subscripted slice false (.ref a) (.int k u) = operate [.ref a, .int k u] (getItem (.ref a) (.int k u)) := by with_unfolding_all rfl) :
    wpAny (model PR w) A (subscriptTail value slice (.ref a) (.int k u)) Q E s := by
  have hl := News.isList N hm
  exact tail_any hl.typeIs slot_list_getitem.lookup (wpAny_getItem_list hl h0 (by omega) (by simpa using hx) h) hs
theorem sub_tupW {j : Nat} (N : News h₀ L s.heap (W ++ Lg lay O)) (hm : (a, tupOf vs) ∈ W) (hlo : -(2 ^ 63) ≤ k) (hhi : k < 2 ^ 63) (hj : seqIndex? k vs.length = some j) (hx : vs[j]? = some x) (h : Q x s)
    (hs : subscripted slice false (.ref a) (.int k u) = operate [.ref a, .int k u] (getItem (.ref a) (.int k u)) := by with_unfolding_all rfl) (hg : ∀ r, letTemporaryGo value (.ref a) r = pure () := by intro _; with_unfolding_all rfl) :
    wpAny (model PR w) A (subscriptTail value slice (.ref a) (.int k u)) Q E s := by
  have ht : IsTup s.heap a vs.toArray := ⟨_, (N (a, tupOf vs) (mem_W hm)).1, rfl, 0, rfl⟩
  exact item_tupleL ht hlo hhi hj hx h hs hg
theorem kl_cut_at : ∀ {vs : List Value} {k : Nat} {y : Value}, vs[k]? = some y → kl_cut vs k = some (vs.take k, y, vs.drop (k + 1))
  | [], k, y, h => by simp at h
  | x :: r, 0, y, h => by
    simp at h
    subst h
    rfl
  | x :: r, k + 1, y, h => by
    have q := kl_cut_at (vs := r) (k := k) (y := y) (by simpa using h)
    show (match kl_cut r k with | some (p, z, q) => some (x :: p, z, q) | none => none) = _
    rw [q]
    rfl
theorem popAt_led (F : Fr h₀ L s.heap m) (N : News h₀ L s.heap (W ++ Lg lay O)) (hl : Lay lay W) (hO : O sl = listOf vs.toArray n) (h0 : 0 ≤ k) (h1 : k < vs.length) (hsz : vs.length ≤ 1000) (hx : vs[k.toNat]? = some v)
    (h : ∀ h', Fr h₀ L h' m → News h₀ L h' (W ++ Lg lay (put O sl (listOf (vs.eraseIdx k.toNat).toArray (n + 1)))) → Q v { s with heap := h' }) : wpAny (model PR w) A (call (.builtin "list.pop") [.ref (lay sl), .int k u]) Q E s := by
  have U := upd_O (o' := listOf (vs.eraseIdx k.toNat).toArray (n + 1)) hl hO
  have e : vs.eraseIdx k.toNat = vs.take k.toNat ++ vs.drop (k.toNat + 1) := List.eraseIdx_eq_take_drop_succ ..
  rw [e] at U h
  have hf : Builtin.List.listFitsIndex k = true := by
    unfold Builtin.List.listFitsIndex
    simp
    omega
  have hk : seqIndex? k vs.toArray.size = some k.toNat := by
    unfold seqIndex?
    rw [List.size_toArray]
    simp
    omega
  exact kl_popAt F N hf hk (kl_cut_at (by simpa using hx)) U (by rw [sizeLine_eq]; simp; omega) h
theorem meth_popO {pl : Sem Bool} {Q : Value × List Value → Shared → Prop} (N : News h₀ L s.heap (W ++ Lg lay O)) (hO : O sl = listOf vs.toArray n) (h : Q (.builtin "list.pop", [.ref (lay sl)]) s) :
    wpAny (model PR w) A (getMethod (.ref (lay sl)) (Str.ofString "pop") pl) Q E s := kl_method N (mem_O hO) PySem.F.slot_list_pop PySem.F.type_list_pop h
end
theorem Fn.imp {w : World} {f : Addr} {d : Nat} {vs : List Value} {lay : Slot → Addr} {W : Led} {O : Slot → Obj} {P P' : Value → Led → (Slot → Obj) → Prop} (h : Fn w f d vs lay W O P) (k : ∀ r W' O', P r W' O' → P' r W' O') : Fn w f d vs lay W O P' := by
  intro p loose mean mg mb dp un gd cn cs a ccd cl outer A₀ base h₀ L m s Q E B F X N T hk hd hu ret
  exact h p loose mean mg mb dp un gd cn cs a ccd cl outer A₀ base h₀ L m s Q E B F X N T hk hd hu fun r W' O' h' tk' F' N' hl' hs' hP => ret r W' O' h' tk' F' N' hl' hs' (k _ _ _ hP)
theorem c_takeR (w : World) (lay : Slot → Addr) (W : Led) (O : Slot → Obj) (hl : Lay lay W) (S : St) (R : Rel w lay W O S) (h0 : 0 ≤ S.spot) (h1 : S.spot < 1000) (many : Int) (tm : Tok) (hm : 0 < many) (hm2 : many < 1000) :
    Fn w 146 2 [.ref (lay .box), .int many tm] lay W O (fun r W' O' => W = W' ∧ (∃ v t', r = .int v t' ∧ 0 ≤ v ∧ v < many) ∧ Rel w lay W O' { S with spot := S.spot + 1 }) := by
  obtain ⟨bt, bn, hb⟩ := R.box
  obtain ⟨vs, ns, n', hsc, hi, hlen⟩ := R.scr
  refine (c_take w lay W O hl S.spot bt bn hb vs ns n' hsc hi hlen h0 h1 many tm hm hm2).imp fun r W' O' h => ?_
  obtain ⟨a, b, t, rfl⟩ := h
  exact ⟨a, b, R.box1 _ _ _⟩
end

/-! part P1 -/
section
open PySem PySem.W PySem.Calls PyProof.Rows
noncomputable def WdGood (S : St) : Wd → Prop
  | .lt e u v => v ≤ S.told e u
  | .fr k e u n => 0 ≤ n ∧ n < S.opened e u ∧ (k.fs = true → u = false)
/-- what holds at every step: X the words that may yet come -/
structure Ok (S : St) (n : Nat) (X : List Wd) : Prop where
  k0 : ∀ e u, 0 ≤ S.known e u
  k1 : ∀ e u, S.known e u ≤ S.opened e u
  k2 : ∀ e u, S.opened e u ≤ S.heard e u
  k3 : ∀ e u, S.heard e u ≤ S.told e u
  k4 : ∀ e u, S.told e u ≤ letsOf S e u
  f0 : ∀ e u, 0 ≤ S.first e u
  f1 : ∀ e u, S.first e u < 10
  ov : ∀ e u, (S.over e u).length ≤ n
  wl : S.wire.length ≤ n
  wg : ∀ wd ∈ X, WdGood S wd
  fin : ∀ e u, S.lost e u = false → S.heard e u = S.told e u ∨ Wd.lt e u (S.told e u) ∈ X
theorem Ok.told_lt {S : St} {n : Nat} {X : List Wd} (h : Ok S n X) (e u : Bool) : S.told e u < 10 + (n : Int) := by
  have a := h.k4 e u
  have b := h.f1 e u
  have c := h.ov e u
  unfold letsOf at a
  omega
theorem Ok.mono {S : St} {n m : Nat} {X : List Wd} (h : Ok S n X) (k : n ≤ m) : Ok S m X := { h with ov := fun e u => Nat.le_trans (h.ov e u) k, wl := Nat.le_trans h.wl k }
theorem Ok.spot {S : St} {n : Nat} {X : List Wd} (h : Ok S n X) (v : Int) : Ok { S with spot := v } n X := ⟨h.k0, h.k1, h.k2, h.k3, h.k4, h.f0, h.f1, h.ov, h.wl, fun wd q => by have := h.wg wd q; cases wd <;> exact this, h.fin⟩
theorem Ok.wire {S : St} {n : Nat} {X : List Wd} (h : Ok S n X) (ws : List Wd) (k : ws.length ≤ n) : Ok { S with wire := ws } n X := ⟨h.k0, h.k1, h.k2, h.k3, h.k4, h.f0, h.f1, h.ov, k, fun wd q => by have := h.wg wd q; cases wd <;> exact this, h.fin⟩
theorem Ok.add {S : St} {n : Nat} {X : List Wd} {wd : Wd} (h : Ok S n X) (k : WdGood S wd) : Ok S n (X ++ [wd]) :=
  { h with
    wg := fun x q => by
      rcases List.mem_append.mp q with q | q
      · exact h.wg x q
      · rw [List.mem_singleton.mp q]; exact k
    fin := fun e u q => (h.fin e u q).imp id fun z => List.mem_append_left _ z }
theorem opAt_ge {op he : Int} (h : op ≤ he) (i : Nat) : op ≤ opAt op he i ∧ opAt op he i ≤ he := by
  unfold opAt
  split <;> omega
theorem Ok.open {S : St} {n : Nat} {X : List Wd} (h : Ok S n X) (e u : Bool) (i : Nat) : Ok { S with opened := set2 S.opened e u (opAt (S.opened e u) (S.heard e u) i) } n X := by
  have q := opAt_ge (h.k2 e u) i
  have ge : ∀ x y, S.opened x y ≤ set2 S.opened e u (opAt (S.opened e u) (S.heard e u) i) x y := fun x y => by
    by_cases z : x = e ∧ y = u
    · obtain ⟨rfl, rfl⟩ := z; rw [set2_self]; exact q.1
    · rw [set2_other z]; exact Int.le_refl _
  refine ⟨h.k0, fun x y => Int.le_trans (h.k1 x y) (ge x y), fun x y => ?_, h.k3, h.k4, h.f0, h.f1, h.ov, h.wl, fun wd z => ?_, h.fin⟩
  · by_cases z : x = e ∧ y = u
    · obtain ⟨rfl, rfl⟩ := z; dsimp only; rw [set2_self]; exact q.2
    · dsimp only; rw [set2_other z]; exact h.k2 x y
  · have a := h.wg wd z
    cases wd with
    | lt e' u' v => exact a
    | fr k e' u' m => exact ⟨a.1, Int.lt_of_lt_of_le a.2.1 (ge _ _), a.2.2⟩
theorem Ok.over {S : St} {n : Nat} {X : List Wd} (h : Ok S n X) (e u : Bool) (one : Int) : Ok { S with over := set2 S.over e u (S.over e u ++ [one]) } (n + 1) X := by
  have len : ∀ x y, (S.over x y).length ≤ (set2 S.over e u (S.over e u ++ [one]) x y).length ∧ (set2 S.over e u (S.over e u ++ [one]) x y).length ≤ (S.over x y).length + 1 := fun x y => by
    by_cases z : x = e ∧ y = u
    · obtain ⟨rfl, rfl⟩ := z; rw [set2_self, List.length_append]; simp
    · rw [set2_other z]; omega
  refine ⟨h.k0, h.k1, h.k2, h.k3, fun x y => ?_, h.f0, h.f1, fun x y => Nat.le_trans (len x y).2 (Nat.succ_le_succ (h.ov x y)), Nat.le_succ_of_le h.wl, fun wd z => by have := h.wg wd z; cases wd <;> exact this, h.fin⟩
  have a := h.k4 x y
  have b := (len x y).1
  unfold letsOf at a ⊢
  dsimp only
  omega
open Classical in
noncomputable def toldW (S : St) (e u : Bool) : List Wd := if letsOf S e u = S.told e u ∧ S.lost e u = false then [] else [.lt e u (letsOf S e u)]
theorem toldS_wire {S : St} {e u : Bool} : (toldS S e u).wire = S.wire ++ toldW S e u := by
  unfold toldS toldW
  split
  · rw [List.append_nil]
  · rfl
theorem toldS_spot {S : St} {e u : Bool} : (toldS S e u).spot = S.spot := by
  unfold toldS
  split <;> rfl
theorem toldS_lets {S : St} {e u x y : Bool} : letsOf (toldS S e u) x y = letsOf S x y := by
  unfold toldS
  split <;> rfl
theorem toldS_told {S : St} {e u : Bool} : (toldS S e u).told e u = letsOf S e u := by
  unfold toldS
  split
  · rename_i h; exact h.1.symm
  · exact set2_self
theorem toldS_lost {S : St} {e u : Bool} : (toldS S e u).lost e u = false := by
  unfold toldS
  split
  · rename_i h; exact h.2
  · exact set2_self
theorem toldS_other {S : St} {e u x y : Bool} (z : ¬ (x = e ∧ y = u)) : (toldS S e u).told x y = S.told x y ∧ (toldS S e u).lost x y = S.lost x y := by
  unfold toldS
  split
  · exact ⟨rfl, rfl⟩
  · exact ⟨set2_other z, set2_other z⟩
theorem toldS_len {S : St} {e u : Bool} : (toldW S e u).length ≤ 1 := by
  unfold toldW
  split <;> simp
theorem Ok.told {S : St} {n : Nat} {X : List Wd} (h : Ok S n X) (e u : Bool) : Ok (toldS S e u) (n + 1) (X ++ toldW S e u) := by
  have same : (toldS S e u).known = S.known ∧ (toldS S e u).opened = S.opened ∧ (toldS S e u).heard = S.heard ∧ (toldS S e u).first = S.first ∧ (toldS S e u).over = S.over := by
    unfold toldS
    split <;> exact ⟨rfl, rfl, rfl, rfl, rfl⟩
  obtain ⟨s1, s2, s3, s4, s5⟩ := same
  have ge : ∀ x y, S.told x y ≤ (toldS S e u).told x y := fun x y => by
    by_cases z : x = e ∧ y = u
    · obtain ⟨rfl, rfl⟩ := z; rw [toldS_told]; exact h.k4 x y
    · rw [(toldS_other z).1]; exact Int.le_refl _
  have good : ∀ wd, WdGood S wd → WdGood (toldS S e u) wd := fun wd q => by
    cases wd with
    | lt e' u' v => exact Int.le_trans q (ge _ _)
    | fr k e' u' m => exact ⟨q.1, by rw [s2]; exact q.2.1, q.2.2⟩
  refine ⟨fun x y => by rw [s1]; exact h.k0 x y, fun x y => by rw [s1, s2]; exact h.k1 x y, fun x y => by rw [s2, s3]; exact h.k2 x y, fun x y => by rw [s3]; exact Int.le_trans (h.k3 x y) (ge x y), fun x y => ?_,
    fun x y => by rw [s4]; exact h.f0 x y, fun x y => by rw [s4]; exact h.f1 x y, fun x y => by rw [s5]; exact Nat.le_succ_of_le (h.ov x y), ?_, fun wd q => ?_, fun x y q => ?_⟩
  · rw [toldS_lets]
    by_cases z : x = e ∧ y = u
    · obtain ⟨rfl, rfl⟩ := z; rw [toldS_told]; exact Int.le_refl _
    · rw [(toldS_other z).1]; exact h.k4 x y
  · rw [toldS_wire, List.length_append]
    exact Nat.add_le_add h.wl toldS_len
  · rcases List.mem_append.mp q with q | q
    · exact good _ (h.wg wd q)
    · unfold toldW at q
      split at q
      · cases q
      · rw [List.mem_singleton.mp q]
        show letsOf S e u ≤ (toldS S e u).told e u
        rw [toldS_told]; exact Int.le_refl _
  · by_cases z : x = e ∧ y = u
    · obtain ⟨rfl, rfl⟩ := z
      by_cases c : letsOf S x y = S.told x y ∧ S.lost x y = false
      · rw [toldS_told, s3, c.1]
        exact (h.fin x y c.2).imp id fun z => List.mem_append_left _ z
      · refine .inr (List.mem_append_right _ ?_)
        rw [toldS_told]
        unfold toldW
        rw [if_neg c]
        exact .head _
    · obtain ⟨z1, z2⟩ := toldS_other (S := S) z
      rw [z2] at q
      rw [z1, s3]
      exact (h.fin x y q).imp id fun z => List.mem_append_left _ z
theorem WdGood.ok {S : St} {wd : Wd} (h : WdGood S wd) : WdOk S wd := by
  cases wd with
  | lt => trivial
  | fr => exact h
theorem Ok.comes {S : St} {n : Nat} {X X' : List Wd} {wd : Wd} (h : Ok S n X) (hw : wd ∈ X) (h1 : ∀ x ∈ X, x ∈ X' ∨ x = wd) (h2 : ∀ x ∈ X', x ∈ X) : Ok (wdS S wd) n X' := by
  have g := h.wg wd hw
  cases wd with
  | lt e u v =>
    replace g : v ≤ S.told e u := g
    have k3 := h.k3 e u
    have hh : ∀ x y, S.heard x y ≤ set2 S.heard e u (if v > S.heard e u then v else S.heard e u) x y ∧ set2 S.heard e u (if v > S.heard e u then v else S.heard e u) x y ≤ S.told x y := fun x y => by
      by_cases z : x = e ∧ y = u
      · obtain ⟨rfl, rfl⟩ := z; rw [set2_self]; split <;> omega
      · rw [set2_other z]; exact ⟨Int.le_refl _, h.k3 x y⟩
    refine ⟨h.k0, h.k1, fun x y => Int.le_trans (h.k2 x y) (hh x y).1, fun x y => (hh x y).2, h.k4, h.f0, h.f1, h.ov, h.wl, fun wd q => by have := h.wg wd (h2 wd q); cases wd <;> exact this, fun x y q => ?_⟩
    rcases h.fin x y q with a | a
    · left
      have b := hh x y
      show set2 S.heard e u _ x y = S.told x y
      omega
    · rcases h1 _ a with b | b
      · exact .inr b
      · left
        injection b with b1 b2 b3
        subst b1; subst b2
        have c := hh x y
        show set2 S.heard x y _ x y = S.told x y
        rw [set2_self] at c ⊢
        split <;> omega
  | fr k e u m =>
    obtain ⟨g1, g2, g3⟩ := g
    have a0 := h.k0 e u
    have a1 := h.k1 e u
    refine ⟨fun x y => ?_, fun x y => ?_, h.k2, h.k3, h.k4, h.f0, h.f1, h.ov, h.wl, fun wd q => by have := h.wg wd (h2 wd q); cases wd <;> exact this, fun x y q => ?_⟩
    · show 0 ≤ set2 S.known e u _ x y
      by_cases z : x = e ∧ y = u
      · obtain ⟨rfl, rfl⟩ := z; rw [set2_self]; split <;> omega
      · rw [set2_other z]; exact h.k0 x y
    · show set2 S.known e u _ x y ≤ S.opened x y
      by_cases z : x = e ∧ y = u
      · obtain ⟨rfl, rfl⟩ := z; rw [set2_self]; split <;> omega
      · rw [set2_other z]; exact h.k1 x y
    · rcases h.fin x y q with a | a
      · exact .inl a
      · rcases h1 _ a with b | b
        · exact .inr b
        · cases b
theorem Ok.gone {S : St} {n : Nat} {X X' : List Wd} {k : Kd} {e u : Bool} {m : Int} (h : Ok S n X) (h1 : ∀ x ∈ X, x ∈ X' ∨ x = .fr k e u m) (h2 : ∀ x ∈ X', x ∈ X) : Ok S n X' :=
  { h with
    wg := fun x q => h.wg x (h2 x q)
    fin := fun x y q => by
      rcases h.fin x y q with a | a
      · exact .inl a
      · rcases h1 _ a with b | b
        · exact .inr b
        · cases b }
theorem Ok.lost {S : St} {n : Nat} {X X' : List Wd} {e u : Bool} {v : Int} {b : Bool} (h : Ok S n X) (h1 : ∀ x ∈ X, x ∈ X' ∨ x = .lt e u v) (h2 : ∀ x ∈ X', x ∈ X) (hb : b = false → S.lost e u = false ∧ S.told e u ≠ v) : Ok { S with lost := set2 S.lost e u b } n X' := by
  refine ⟨h.k0, h.k1, h.k2, h.k3, h.k4, h.f0, h.f1, h.ov, h.wl, fun wd q => by have := h.wg wd (h2 wd q); cases wd <;> exact this, fun x y q => ?_⟩
  replace q : set2 S.lost e u b x y = false := q
  have key : S.lost x y = false ∧ (x = e ∧ y = u → S.told e u ≠ v) := by
    by_cases z : x = e ∧ y = u
    · obtain ⟨rfl, rfl⟩ := z
      rw [set2_self] at q
      exact ⟨(hb q).1, fun _ => (hb q).2⟩
    · rw [set2_other z] at q
      exact ⟨q, fun z' => absurd z' z⟩
  rcases h.fin x y key.1 with a | a
  · exact .inl a
  · rcases h1 _ a with c | c
    · exact .inr c
    · injection c with c1 c2 c3
      exact absurd (by rw [← c1, ← c2]; exact c3) (key.2 ⟨c1, c2⟩)
theorem mem_erase {α : Type} : ∀ {l : List α} {i : Nat} {y x : α}, l[i]? = some y → x ∈ l → x ∈ l.eraseIdx i ∨ x = y
  | [], _, _, _, h, _ => by simp at h
  | z :: r, 0, y, x, h, hx => by
    simp at h
    subst h
    rcases List.mem_cons.mp hx with rfl | hx
    · exact .inr rfl
    · exact .inl hx
  | z :: r, i + 1, y, x, h, hx => by
    rcases List.mem_cons.mp hx with rfl | hx
    · exact .inl (.head _)
    · exact (mem_erase (by simpa using h) hx).imp (fun q => .tail _ q) id
theorem of_erase {α : Type} : ∀ {l : List α} {i : Nat} {x : α}, x ∈ l.eraseIdx i → x ∈ l
  | [], _, _, h => by simp at h
  | _ :: _, 0, _, h => .tail _ h
  | z :: r, i + 1, x, h => by
    rcases List.mem_cons.mp h with rfl | h
    · exact .head _
    · exact .tail _ (of_erase h)
end

section
local macro_rules | `(tactic| ktr_member) => `(tactic| first
  | ((with_reducible show wpAny _ _ (compareOp CmpOp.NotIn (Value.int _ _) (Value.ref _)) _ _ _); k_dflt (refine' notin_led ?k1 ?k2 ?k3 ?_; (case k1 => k_asm); (case k2 => exact mem_O (by mod_arm)); (case k3 => with_reducible assumption); k_whole))
  | fail "no own step 4")
local macro_rules | `(tactic| ktr_member) => `(tactic| first
  | ((with_reducible show wpAny _ _ (call (Value.builtin "len") [Value.ref _]) _ _ _); k_dflt (refine' len_il ?k1 ?k2 ?k3 ?k4 ?_; (case k1 => k_asm); (case k2 => k_tabat); (case k3 => with_reducible assumption); (case k4 => omega); k_whole))
  | ((with_reducible show wpAny _ _ (subscriptTail _ _ (Value.ref _) (Value.int _ _)) _ _ _); k_dflt (refine' sub_ints ?k1 ?k2 ?k3 ?k4 ?k5 ?k6 ?_ ?k7; (case k1 => k_asm); (case k2 => k_tabat); (case k3 => with_reducible assumption); (case k4 | k5 => first | with_reducible assumption | omega); (case k6 => omega); (case k7 => with_unfolding_all rfl); k_whole; intro t'))
  | fail "no own step 5")

/-! part S9 -/
section

theorem Ok.knownup {S : St} {n : Nat} {Y : List Wd} (h : Ok S n Y) (e u : Bool) (v : Int) (h0 : 0 ≤ v) (h1 : v ≤ S.opened e u) : Ok { S with known := set2 S.known e u v } n Y := by
  refine ⟨fun x y => ?_, fun x y => ?_, h.k2, h.k3, h.k4, h.f0, h.f1, h.ov, h.wl, fun wd q => by have := h.wg wd q; cases wd <;> exact this, h.fin⟩
  · dsimp only
    by_cases z : x = e ∧ y = u
    · obtain ⟨rfl, rfl⟩ := z; rw [set2_self]; exact h0
    · rw [set2_other z]; exact h.k0 x y
  · dsimp only
    by_cases z : x = e ∧ y = u
    · obtain ⟨rfl, rfl⟩ := z; rw [set2_self]; exact h1
    · rw [set2_other z]; exact h.k1 x y
theorem c_rests (w : World) (lay : Slot → Addr) (W : Led) (O : Slot → Obj) (hl : Lay lay W) (S : St) (R : Rel w lay W O S) (nk : Nat) (Y9 : List Wd) (K : Ok S nk Y9) (nk1 : nk ≤ 100) (e u : Bool) (te tu : Tok)
    (hh : S.heard e u = letsOf S e u) (ht : S.told e u = letsOf S e u) :
    Fn0 w 205 80 [.ref (lay .ends), .ref (lay .net), .int (b2i e) te, .int (b2i u) tu] lay W O (fun r W' O' => r = .bool true ∧ ∃ S', Rel w lay W' O' S' ∧ Ok S' nk Y9 ∧ S'.heard = S.heard ∧ S'.told = S.told ∧ S'.first = S.first ∧ S'.over = S.over) := by
  have f0 : ¬ (!true) = true := by decide
  have tl := K.told_lt e u
  have k0 := K.k0 e u
  have k1 := K.k1 e u
  have k2 := K.k2 e u
  have k3 := K.k3 e u
  have hov := K.ov e u
  have f00 := K.f0 e u
  obtain ⟨ft, fk, hfi⟩ := R.first e
  obtain ⟨a3, a4, hr2⟩ := R.opened e
  obtain ⟨ovs, ovn, hov9, hoi⟩ := R.over e u
  obtain ⟨orn, hor⟩ := R.fn.orow e
  obtain ⟨on, hnet, hnd⟩ := R.fn.net
  obtain ⟨o1n, ho1⟩ := R.fn.outer .first
  obtain ⟨o3n, ho3⟩ := R.fn.outer .opened
  obtain ⟨o6n, ho6⟩ := R.fn.outer .over
  have hl0 : letsOf S e u = S.first e u + ((S.over e u).length : Nat) := rfl
  unfold Fn0
  intro p loose mean mg mb dp un gd cn cs a ccd cl A₀ base h₀ L m s Q E B F X N T XB TB hk hd hu ret
  refine wpAny_call ?_
  k_dflt (refine' code_def0 ?k1 ?k2 ?k3 ?k4 ?k5 ?kA ?kF ?kK ?k6 ?k7 ?k8 ?k9 ?kB ?_ ?c2 ?c3 ?c4 ?c5; (case kA => exact rfl); (case kF => exact rfl); (case kK => assumption); (case k2 => k_asm); (case k1 => k_asm); (case k3 => k_asm); (case k4 => k_asm); (case k5 => k_asm); (case k6 => k_is); (case k7 => k_is); (case k8 => ktr_room); (case k9 => exact BindsTo.of_eq rfl); (case kB => exact locs rfl); (case c2 => exact rfl); (case c3 => exact rfl); (case c4 => exact rfl); (case c5 => decide); k_whole)
  intro g' L' h' FG' F' N' B' X' T' D'
  (try dsimp only)
  (try k_fold)
  repeat' ((fail_if_success (with_reducible show LCg.CompSrc _ _ _ _ _ _ _ _ _ _ _ _ _ _)); (fail_if_success (with_reducible show LCt.CompSrcT _ _ _ _ _ _ _ _ _ _ _ _ _ _ _)); (fail_if_success (with_reducible show wpAny _ _ (pyIter _) _ _ _)); (fail_if_success (with_reducible show wpAny _ _ (call (Value.ref 153) _) _ _ _)); first | (k_unfold; (try dsimp only)) | ((with_reducible show wpAny _ _ (execs (_ :: _) _) _ _ (Shared.mk _ _ _ (HAdd.hAdd _ _) _)); refine genT ?_; intro tk9) | ((with_reducible show wpAny _ _ (exec _ _) _ _ _); (fail_if_success (fail_if_success k_fold)); refine letQ ?_; intro q9) | ((with_reducible show wpAny _ _ (execs (_ :: _) _) _ _ _); (with_reducible rename Fr _ _ _ _ => kF9); (fail_if_success (with_reducible have : Fr _ _ _ ‹Str → Option Value› := kF9)); refine letm kF9 ?_; clear kF9; intro m9 F9) | ktr_member | ((fail_if_success (with_reducible show (if _ then _ else _))); first | walk1 | (dsimp only; walk1)))
  refine' Fn.use ?k1 ?k2 ?k3 ?k4 ?k5 ?kK (c_lopen w lay _ _ ?kl S R e u (S.first e u + ((S.over e u).length : Nat) - S.opened e u + 1) _ _ _ k2 ?q0 ?q1 ?q2 ?q3) ?kd ?ku ?_
  (case k1 => k_asm)
  (case k2 => k_asm)
  (case k3 => k_asm)
  (case k4 => k_asm)
  (case k5 => k_asm)
  (case kK => first | exact rfl | assumption)
  (case kd => ktr_room)
  (case ku => ktr_units)
  (case kl => assumption)
  (case q0 => omega)
  (case q1 => omega)
  (case q2 => omega)
  (case q3 => omega)
  intro r9 W9 O9 h9 tk9 F9 N9 hl9 hs9 hP9
  (try dsimp only)
  (try k_sweep)
  obtain ⟨rfl, R5⟩ := hP9
  have K5 := K.open e u (S.first e u + ((S.over e u).length : Nat) - S.opened e u + 1).toNat
  have hop : opAt (S.opened e u) (S.heard e u) (S.first e u + ((S.over e u).length : Nat) - S.opened e u + 1).toNat = letsOf S e u := by
    unfold opAt
    rw [hh, hl0]
    split <;> omega
  rw [hop] at R5 K5
  have hop5 : ({ S with opened := set2 S.opened e u (letsOf S e u) } : St).opened e u = letsOf S e u := set2_self
  have same : ({ S with opened := set2 S.opened e u (letsOf S e u) } : St).heard = S.heard ∧ ({ S with opened := set2 S.opened e u (letsOf S e u) } : St).told = S.told ∧ ({ S with opened := set2 S.opened e u (letsOf S e u) } : St).first = S.first ∧ ({ S with opened := set2 S.opened e u (letsOf S e u) } : St).over = S.over ∧ ({ S with opened := set2 S.opened e u (letsOf S e u) } : St).known = S.known := ⟨rfl, rfl, rfl, rfl, rfl⟩
  generalize ({ S with opened := set2 S.opened e u (letsOf S e u) } : St) = S₅ at R5 K5 hop5 same
  obtain ⟨s1, s2, s3, s4, s5⟩ := same
  repeat' ((fail_if_success (with_reducible show LCg.CompSrc _ _ _ _ _ _ _ _ _ _ _ _ _ _)); (fail_if_success (with_reducible show LCt.CompSrcT _ _ _ _ _ _ _ _ _ _ _ _ _ _ _)); (fail_if_success (with_reducible show wpAny _ _ (pyIter _) _ _ _)); (fail_if_success (with_reducible show wpAny _ _ (call (Value.ref 153) _) _ _ _)); (fail_if_success (with_reducible show wpAny _ _ (call (Value.ref 158) _) _ _ _)); (fail_if_success (with_reducible show wpAny _ _ (call (Value.ref 184) _) _ _ _)); (fail_if_success (with_reducible show wpAny _ _ (call (Value.ref 191) _) _ _ _)); first | (k_unfold; (try dsimp only)) | ((with_reducible show wpAny _ _ (execs (_ :: _) _) _ _ (Shared.mk _ _ _ (HAdd.hAdd _ _) _)); refine genT ?_; intro tk9) | ((with_reducible show wpAny _ _ (exec _ _) _ _ _); (fail_if_success (fail_if_success k_fold)); refine letQ ?_; intro q9) | ((with_reducible show wpAny _ _ (execs (_ :: _) _) _ _ _); (with_reducible rename Fr _ _ _ _ => kF9); (fail_if_success (with_reducible have : Fr _ _ _ ‹Str → Option Value› := kF9)); refine letm kF9 ?_; clear kF9; intro m9 F9) | ktr_member | ((fail_if_success (with_reducible show (if _ then _ else _))); first | walk1 | (dsimp only; walk1)))
  have e4 : ¬ ((4 : Int) != 4) = true := by decide
  have e5 : ¬ ((5 : Int) != 5) = true := by decide
  have main : True := trivial
  by_cases hpos : 0 < letsOf S e u
  · have f1 : decide (0 < S.first e u + ((S.over e u).length : Nat)) = true := decide_eq_true hpos
    have k05 := K5.k0 e u
    have k15 := K5.k1 e u
    have k25 := K5.k2 e u
    have k35 := K5.k3 e u
    have tl5 := K5.told_lt e u
    repeat' ((fail_if_success (with_reducible show LCg.CompSrc _ _ _ _ _ _ _ _ _ _ _ _ _ _)); (fail_if_success (with_reducible show LCt.CompSrcT _ _ _ _ _ _ _ _ _ _ _ _ _ _ _)); (fail_if_success (with_reducible show wpAny _ _ (pyIter _) _ _ _)); (fail_if_success (with_reducible show wpAny _ _ (call (Value.ref 158) _) _ _ _)); (fail_if_success (with_reducible show wpAny _ _ (call (Value.ref 184) _) _ _ _)); (fail_if_success (with_reducible show wpAny _ _ (call (Value.ref 191) _) _ _ _)); first | (k_unfold; (try dsimp only)) | ((with_reducible show wpAny _ _ (execs (_ :: _) _) _ _ (Shared.mk _ _ _ (HAdd.hAdd _ _) _)); refine genT ?_; intro tk9) | ((with_reducible show wpAny _ _ (exec _ _) _ _ _); (fail_if_success (fail_if_success k_fold)); refine letQ ?_; intro q9) | ((with_reducible show wpAny _ _ (execs (_ :: _) _) _ _ _); (with_reducible rename Fr _ _ _ _ => kF9); (fail_if_success (with_reducible have : Fr _ _ _ ‹Str → Option Value› := kF9)); refine letm kF9 ?_; clear kF9; intro m9 F9) | ktr_member | ((fail_if_success (with_reducible show (if _ then _ else _))); first | walk1 | (dsimp only; walk1)))
    refine' Fn.use ?k1 ?k2 ?k3 ?k4 ?k5 ?kK (c_said w lay _ _ ?kl S₅ R5 e u (letsOf S e u - 1) .stream _ _ _ _ k05 k15 ?b2 ?b3 ?b4 ?b5 ?b6) ?kd ?ku ?_
    (case k1 => k_asm)
    (case k2 => k_asm)
    (case k3 => k_asm)
    (case k4 => k_asm)
    (case k5 => k_asm)
    (case kK => first | exact rfl | assumption)
    (case kd => ktr_room)
    (case ku => ktr_units)
    (case kl => assumption)
    (case b2 => omega)
    (case b3 => omega)
    (case b4 => omega)
    (case b5 => rw [hop5]; omega)
    (case b6 => exact fun z => nomatch z)
    intro r9 W6 O6 h9 tk9 F9 N9 hl9 hs9' hP9
    (try dsimp only)
    (try k_sweep)
    obtain ⟨rfl, R6⟩ := hP9
    have hknown : S₅.known e u ≤ letsOf S e u := by omega
    have hkv : (if letsOf S e u - 1 + 1 > S₅.known e u then letsOf S e u - 1 + 1 else S₅.known e u) = letsOf S e u := by split <;> omega
    rw [hkv] at R6
    have K6 : Ok { S₅ with known := set2 S₅.known e u (letsOf S e u) } nk Y9 := K5.knownup e u _ (by omega) (by rw [hop5]; exact Int.le_refl _)
    have kn6 : ({ S₅ with known := set2 S₅.known e u (letsOf S e u) } : St).known e u = letsOf S e u := set2_self
    have hop6 : ({ S₅ with known := set2 S₅.known e u (letsOf S e u) } : St).opened e u = letsOf S e u := hop5
    have t1 : ({ S₅ with known := set2 S₅.known e u (letsOf S e u) } : St).heard = S.heard := s1
    have t2 : ({ S₅ with known := set2 S₅.known e u (letsOf S e u) } : St).told = S.told := s2
    have t3 : ({ S₅ with known := set2 S₅.known e u (letsOf S e u) } : St).first = S.first := s3
    have t4 : ({ S₅ with known := set2 S₅.known e u (letsOf S e u) } : St).over = S.over := s4
    generalize ({ S₅ with known := set2 S₅.known e u (letsOf S e u) } : St) = S₆ at R6 K6 kn6 hop6 t1 t2 t3 t4
    have hl6 : letsOf S₆ e u = letsOf S e u := by unfold letsOf; rw [t3, t4]
    have hs69 : ∀ p ∈ W, p ∈ W6 := fun p h => hs9' p (hs9 p h)
    obtain ⟨c7, c8, htl6⟩ := R6.toldL e
    obtain ⟨c3, c4, hom6⟩ := R6.ownM e
    have hends6 := R6.fx.ends
    have hh5 := K6.k0 e u
    repeat' ((fail_if_success (with_reducible show LCg.CompSrc _ _ _ _ _ _ _ _ _ _ _ _ _ _)); (fail_if_success (with_reducible show LCt.CompSrcT _ _ _ _ _ _ _ _ _ _ _ _ _ _ _)); (fail_if_success (with_reducible show wpAny _ _ (pyIter _) _ _ _)); (fail_if_success (with_reducible show wpAny _ _ (call (Value.ref 184) _) _ _ _)); (fail_if_success (with_reducible show wpAny _ _ (call (Value.ref 191) _) _ _ _)); first | (k_unfold; (try dsimp only)) | ((with_reducible show wpAny _ _ (execs (_ :: _) _) _ _ (Shared.mk _ _ _ (HAdd.hAdd _ _) _)); refine genT ?_; intro tk9) | ((with_reducible show wpAny _ _ (exec _ _) _ _ _); (fail_if_success (fail_if_success k_fold)); refine letQ ?_; intro q9) | ((with_reducible show wpAny _ _ (execs (_ :: _) _) _ _ _); (with_reducible rename Fr _ _ _ _ => kF9); (fail_if_success (with_reducible have : Fr _ _ _ ‹Str → Option Value› := kF9)); refine letm kF9 ?_; clear kF9; intro m9 F9) | ktr_member | ((fail_if_success (with_reducible show (if _ then _ else _))); first | walk1 | (dsimp only; walk1)))
    refine' FnX.use ?k1 ?k2 ?k3 ?k4 ?k5 ?XB ?TB ?D ?kK (c_code4 w lay _ _ ?kl ?kf e u (letsOf S e u) _ _ (S₆.told e) _ _ ?kg ?kh) ?kd ?ku ?_
    (case k1 => k_asm)
    (case k2 => k_asm)
    (case k3 => k_asm)
    (case k4 => k_asm)
    (case k5 => k_asm)
    (case XB => assumption)
    (case TB => assumption)
    (case D => assumption)
    (case kK => first | exact rfl | assumption)
    (case kd => ktr_room)
    (case ku => ktr_units)
    (case kl => assumption)
    (case kf => exact R6.fx)
    (case kg => exact htl6)
    (case kh => rw [t2, ht]; exact Int.le_refl _)
    intro g7 r9 W7 O7 h7 tk9 T7 F7 N7 B7 X7 P7 D7 hl9 hs8 hP9
    (try dsimp only)
    clear B' X' T' D'
    (try k_sweep)
    obtain ⟨rfl, t9, rfl⟩ := hP9
    repeat' ((fail_if_success (with_reducible show LCg.CompSrc _ _ _ _ _ _ _ _ _ _ _ _ _ _)); (fail_if_success (with_reducible show LCt.CompSrcT _ _ _ _ _ _ _ _ _ _ _ _ _ _ _)); (fail_if_success (with_reducible show wpAny _ _ (pyIter _) _ _ _)); (fail_if_success (with_reducible show wpAny _ _ (call (Value.ref 184) _) _ _ _)); (fail_if_success (with_reducible show wpAny _ _ (call (Value.ref 191) _) _ _ _)); first | (k_unfold; (try dsimp only)) | ((with_reducible show wpAny _ _ (execs (_ :: _) _) _ _ (Shared.mk _ _ _ (HAdd.hAdd _ _) _)); refine genT ?_; intro tk9) | ((with_reducible show wpAny _ _ (exec _ _) _ _ _); (fail_if_success (fail_if_success k_fold)); refine letQ ?_; intro q9) | ((with_reducible show wpAny _ _ (execs (_ :: _) _) _ _ _); (with_reducible rename Fr _ _ _ _ => kF9); (fail_if_success (with_reducible have : Fr _ _ _ ‹Str → Option Value› := kF9)); refine letm kF9 ?_; clear kF9; intro m9 F9) | ktr_member | ((fail_if_success (with_reducible show (if _ then _ else _))); first | walk1 | (dsimp only; walk1)))
    refine' FnX.use ?k1 ?k2 ?k3 ?k4 ?k5 ?XB ?TB ?D ?kK (c_code5 w lay _ _ ?kl ?kf e u (letsOf S e u) _ _ (S₆.opened e) _ _ ?kg ?kh) ?kd ?ku ?_
    (case k1 => k_asm)
    (case k2 => k_asm)
    (case k3 => k_asm)
    (case k4 => k_asm)
    (case k5 => k_asm)
    (case XB => assumption)
    (case TB => assumption)
    (case D => assumption)
    (case kK => first | exact rfl | assumption)
    (case kd => ktr_room)
    (case ku => ktr_units)
    (case kl => assumption)
    (case kf => exact R6.fx)
    (case kg => exact hom6)
    (case kh => rw [hop6]; exact Int.le_refl _)
    intro g8 r9 W8 O8 h8 tk9 T8 F8 N8 B8 X8 P8 D8 hl9 hs7 hP9
    (try dsimp only)
    clear B7 X7 P7 D7
    replace T8 := T7.trans T8
    clear T7
    (try k_sweep)
    obtain ⟨rfl, t8, rfl⟩ := hP9
    repeat' ((fail_if_success (with_reducible show LCg.CompSrc _ _ _ _ _ _ _ _ _ _ _ _ _ _)); (fail_if_success (with_reducible show LCt.CompSrcT _ _ _ _ _ _ _ _ _ _ _ _ _ _ _)); (fail_if_success (with_reducible show wpAny _ _ (pyIter _) _ _ _)); (fail_if_success (with_reducible show wpAny _ _ (call (Value.ref 184) _) _ _ _)); (fail_if_success (with_reducible show wpAny _ _ (call (Value.ref 191) _) _ _ _)); first | (k_unfold; (try dsimp only)) | ((with_reducible show wpAny _ _ (execs (_ :: _) _) _ _ (Shared.mk _ _ _ (HAdd.hAdd _ _) _)); refine genT ?_; intro tk9) | ((with_reducible show wpAny _ _ (exec _ _) _ _ _); (fail_if_success (fail_if_success k_fold)); refine letQ ?_; intro q9) | ((with_reducible show wpAny _ _ (execs (_ :: _) _) _ _ _); (with_reducible rename Fr _ _ _ _ => kF9); (fail_if_success (with_reducible have : Fr _ _ _ ‹Str → Option Value› := kF9)); refine letm kF9 ?_; clear kF9; intro m9 F9) | ktr_member | ((fail_if_success (with_reducible show (if _ then _ else _))); first | walk1 | (dsimp only; walk1)))
    have R8 := (R6.mono hs8).mono hs7
    refine' Fn.use ?k1 ?k2 ?k3 ?k4 ?k5 ?kK (c_chain w lay _ _ ?kl S₆ R8 e u _ _ (K6.k1 e u) (K6.k2 e u) (K6.k3 e u) (K6.k4 e u) ?b5) ?kd ?ku ?_
    (case k1 => k_asm)
    (case k2 => k_asm)
    (case k3 => k_asm)
    (case k4 => k_asm)
    (case k5 => k_asm)
    (case kK => first | exact rfl | assumption)
    (case kd => ktr_room)
    (case ku => ktr_units)
    (case kl => assumption)
    (case b5 => rw [t4]; omega)
    intro r9 W10 O10 h9 tk9 F9 N9 hl9 hs6 hP9
    (try dsimp only)
    (try k_sweep)
    obtain ⟨rfl, l9, cvs, cn9, rfl, hcm, hci⟩ := hP9
    rw [kn6, hop6, t1, t2, hh, ht, hl6] at hci
    repeat' ((fail_if_success (with_reducible show LCg.CompSrc _ _ _ _ _ _ _ _ _ _ _ _ _ _)); (fail_if_success (with_reducible show LCt.CompSrcT _ _ _ _ _ _ _ _ _ _ _ _ _ _ _)); (fail_if_success (with_reducible show wpAny _ _ (pyIter _) _ _ _)); (fail_if_success (with_reducible show wpAny _ _ (call (Value.ref 184) _) _ _ _)); (fail_if_success (with_reducible show wpAny _ _ (call (Value.ref 191) _) _ _ _)); (fail_if_success (with_reducible show wpAny _ _ (compareOp CmpOp.Eq (Value.ref _) (Value.ref _)) _ _ _)); first | (k_unfold; (try dsimp only)) | ((with_reducible show wpAny _ _ (execs (_ :: _) _) _ _ (Shared.mk _ _ _ (HAdd.hAdd _ _) _)); refine genT ?_; intro tk9) | ((with_reducible show wpAny _ _ (exec _ _) _ _ _); (fail_if_success (fail_if_success k_fold)); refine letQ ?_; intro q9) | ((with_reducible show wpAny _ _ (execs (_ :: _) _) _ _ _); (with_reducible rename Fr _ _ _ _ => kF9); (fail_if_success (with_reducible have : Fr _ _ _ ‹Str → Option Value› := kF9)); refine letm kF9 ?_; clear kF9; intro m9 F9) | ktr_member | ((fail_if_success (with_reducible show (if _ then _ else _))); first | walk1 | (dsimp only; walk1)))
    refine' eq_led ?k1 ?k2 ?k3 ?k4 ?k5 ?k6 ?_
    (case k1 => k_asm)
    (case k2 => exact .tail _ (mem_W (List.mem_cons_of_mem _ hcm)))
    (case k3 => exact hci)
    (case k4 => exact .head _)
    (case k5 => assumption)
    (case k6 => ktr_units)
    repeat' ((fail_if_success (with_reducible show LCg.CompSrc _ _ _ _ _ _ _ _ _ _ _ _ _ _)); (fail_if_success (with_reducible show LCt.CompSrcT _ _ _ _ _ _ _ _ _ _ _ _ _ _ _)); (fail_if_success (with_reducible show wpAny _ _ (pyIter _) _ _ _)); (fail_if_success (with_reducible show wpAny _ _ (call (Value.ref 184) _) _ _ _)); (fail_if_success (with_reducible show wpAny _ _ (call (Value.ref 191) _) _ _ _)); first | (k_unfold; (try dsimp only)) | ((with_reducible show wpAny _ _ (execs (_ :: _) _) _ _ (Shared.mk _ _ _ (HAdd.hAdd _ _) _)); refine genT ?_; intro tk9) | ((with_reducible show wpAny _ _ (exec _ _) _ _ _); (fail_if_success (fail_if_success k_fold)); refine letQ ?_; intro q9) | ((with_reducible show wpAny _ _ (execs (_ :: _) _) _ _ _); (with_reducible rename Fr _ _ _ _ => kF9); (fail_if_success (with_reducible have : Fr _ _ _ ‹Str → Option Value› := kF9)); refine letm kF9 ?_; clear kF9; intro m9 F9) | ktr_member | ((fail_if_success (with_reducible show (if _ then _ else _))); first | walk1 | (dsimp only; walk1)))
    have N10 : News _ _ _ (W10 ++ Lg lay O6) := fun p hp => (by assumption : News _ _ _ ((_, _) :: ((_, _) :: W10 ++ Lg lay O6))) p (.tail _ (.tail _ hp))
    exact ret _ W10 O6 _ _ (by k_asm) N10 hl9 (fun q h => hs6 q (hs7 q (hs8 q (hs69 q h)))) ⟨congrArg Value.bool (decide_eq_true rfl), S₆, (R8.mono hs6), K6, t1, t2, t3, t4⟩
  · have f1 : ¬ decide (0 < S.first e u + ((S.over e u).length : Nat)) = true := by rw [decide_eq_true_eq]; exact hpos
    have k05 := K5.k0 e u
    have k15 := K5.k1 e u
    have R6 : Rel w lay W9 O9 S₅ := R5
    have K6 := K5
    have kn6 : S₅.known e u = letsOf S e u := by omega
    have hop6 := hop5
    have t1 := s1
    have t2 := s2
    have t3 := s3
    have t4 := s4
    have hl6 : letsOf S₅ e u = letsOf S e u := by unfold letsOf; rw [t3, t4]
    have hs69 : ∀ p ∈ W, p ∈ W9 := hs9
    obtain ⟨c7, c8, htl6⟩ := R6.toldL e
    obtain ⟨c3, c4, hom6⟩ := R6.ownM e
    have hends6 := R6.fx.ends
    have hh5 := K6.k0 e u
    repeat' ((fail_if_success (with_reducible show LCg.CompSrc _ _ _ _ _ _ _ _ _ _ _ _ _ _)); (fail_if_success (with_reducible show LCt.CompSrcT _ _ _ _ _ _ _ _ _ _ _ _ _ _ _)); (fail_if_success (with_reducible show wpAny _ _ (pyIter _) _ _ _)); (fail_if_success (with_reducible show wpAny _ _ (call (Value.ref 184) _) _ _ _)); (fail_if_success (with_reducible show wpAny _ _ (call (Value.ref 191) _) _ _ _)); first | (k_unfold; (try dsimp only)) | ((with_reducible show wpAny _ _ (execs (_ :: _) _) _ _ (Shared.mk _ _ _ (HAdd.hAdd _ _) _)); refine genT ?_; intro tk9) | ((with_reducible show wpAny _ _ (exec _ _) _ _ _); (fail_if_success (fail_if_success k_fold)); refine letQ ?_; intro q9) | ((with_reducible show wpAny _ _ (execs (_ :: _) _) _ _ _); (with_reducible rename Fr _ _ _ _ => kF9); (fail_if_success (with_reducible have : Fr _ _ _ ‹Str → Option Value› := kF9)); refine letm kF9 ?_; clear kF9; intro m9 F9) | ktr_member | ((fail_if_success (with_reducible show (if _ then _ else _))); first | walk1 | (dsimp only; walk1)))
    refine' FnX.use ?k1 ?k2 ?k3 ?k4 ?k5 ?XB ?TB ?D ?kK (c_code4 w lay _ _ ?kl ?kf e u (letsOf S e u) _ _ (S₅.told e) _ _ ?kg ?kh) ?kd ?ku ?_
    (case k1 => k_asm)
    (case k2 => k_asm)
    (case k3 => k_asm)
    (case k4 => k_asm)
    (case k5 => k_asm)
    (case XB => assumption)
    (case TB => assumption)
    (case D => assumption)
    (case kK => first | exact rfl | assumption)
    (case kd => ktr_room)
    (case ku => ktr_units)
    (case kl => assumption)
    (case kf => exact R6.fx)
    (case kg => exact htl6)
    (case kh => rw [t2, ht]; exact Int.le_refl _)
    intro g7 r9 W7 O7 h7 tk9 T7 F7 N7 B7 X7 P7 D7 hl9 hs8 hP9
    (try dsimp only)
    clear B' X' T' D'
    (try k_sweep)
    obtain ⟨rfl, t9, rfl⟩ := hP9
    repeat' ((fail_if_success (with_reducible show LCg.CompSrc _ _ _ _ _ _ _ _ _ _ _ _ _ _)); (fail_if_success (with_reducible show LCt.CompSrcT _ _ _ _ _ _ _ _ _ _ _ _ _ _ _)); (fail_if_success (with_reducible show wpAny _ _ (pyIter _) _ _ _)); (fail_if_success (with_reducible show wpAny _ _ (call (Value.ref 184) _) _ _ _)); (fail_if_success (with_reducible show wpAny _ _ (call (Value.ref 191) _) _ _ _)); first | (k_unfold; (try dsimp only)) | ((with_reducible show wpAny _ _ (execs (_ :: _) _) _ _ (Shared.mk _ _ _ (HAdd.hAdd _ _) _)); refine genT ?_; intro tk9) | ((with_reducible show wpAny _ _ (exec _ _) _ _ _); (fail_if_success (fail_if_success k_fold)); refine letQ ?_; intro q9) | ((with_reducible show wpAny _ _ (execs (_ :: _) _) _ _ _); (with_reducible rename Fr _ _ _ _ => kF9); (fail_if_success (with_reducible have : Fr _ _ _ ‹Str → Option Value› := kF9)); refine letm kF9 ?_; clear kF9; intro m9 F9) | ktr_member | ((fail_if_success (with_reducible show (if _ then _ else _))); first | walk1 | (dsimp only; walk1)))
    refine' FnX.use ?k1 ?k2 ?k3 ?k4 ?k5 ?XB ?TB ?D ?kK (c_code5 w lay _ _ ?kl ?kf e u (letsOf S e u) _ _ (S₅.opened e) _ _ ?kg ?kh) ?kd ?ku ?_
    (case k1 => k_asm)
    (case k2 => k_asm)
    (case k3 => k_asm)
    (case k4 => k_asm)
    (case k5 => k_asm)
    (case XB => assumption)
    (case TB => assumption)
    (case D => assumption)
    (case kK => first | exact rfl | assumption)
    (case kd => ktr_room)
    (case ku => ktr_units)
    (case kl => assumption)
    (case kf => exact R6.fx)
    (case kg => exact hom6)
    (case kh => rw [hop6]; exact Int.le_refl _)
    intro g8 r9 W8 O8 h8 tk9 T8 F8 N8 B8 X8 P8 D8 hl9 hs7 hP9
    (try dsimp only)
    clear B7 X7 P7 D7
    replace T8 := T7.trans T8
    clear T7
    (try k_sweep)
    obtain ⟨rfl, t8, rfl⟩ := hP9
    repeat' ((fail_if_success (with_reducible show LCg.CompSrc _ _ _ _ _ _ _ _ _ _ _ _ _ _)); (fail_if_success (with_reducible show LCt.CompSrcT _ _ _ _ _ _ _ _ _ _ _ _ _ _ _)); (fail_if_success (with_reducible show wpAny _ _ (pyIter _) _ _ _)); (fail_if_success (with_reducible show wpAny _ _ (call (Value.ref 184) _) _ _ _)); (fail_if_success (with_reducible show wpAny _ _ (call (Value.ref 191) _) _ _ _)); first | (k_unfold; (try dsimp only)) | ((with_reducible show wpAny _ _ (execs (_ :: _) _) _ _ (Shared.mk _ _ _ (HAdd.hAdd _ _) _)); refine genT ?_; intro tk9) | ((with_reducible show wpAny _ _ (exec _ _) _ _ _); (fail_if_success (fail_if_success k_fold)); refine letQ ?_; intro q9) | ((with_reducible show wpAny _ _ (execs (_ :: _) _) _ _ _); (with_reducible rename Fr _ _ _ _ => kF9); (fail_if_success (with_reducible have : Fr _ _ _ ‹Str → Option Value› := kF9)); refine letm kF9 ?_; clear kF9; intro m9 F9) | ktr_member | ((fail_if_success (with_reducible show (if _ then _ else _))); first | walk1 | (dsimp only; walk1)))
    have R8 := (R6.mono hs8).mono hs7
    refine' Fn.use ?k1 ?k2 ?k3 ?k4 ?k5 ?kK (c_chain w lay _ _ ?kl S₅ R8 e u _ _ (K6.k1 e u) (K6.k2 e u) (K6.k3 e u) (K6.k4 e u) ?b5) ?kd ?ku ?_
    (case k1 => k_asm)
    (case k2 => k_asm)
    (case k3 => k_asm)
    (case k4 => k_asm)
    (case k5 => k_asm)
    (case kK => first | exact rfl | assumption)
    (case kd => ktr_room)
    (case ku => ktr_units)
    (case kl => assumption)
    (case b5 => rw [t4]; omega)
    intro r9 W10 O10 h9 tk9 F9 N9 hl9 hs6 hP9
    (try dsimp only)
    (try k_sweep)
    obtain ⟨rfl, l9, cvs, cn9, rfl, hcm, hci⟩ := hP9
    rw [kn6, hop6, t1, t2, hh, ht, hl6] at hci
    repeat' ((fail_if_success (with_reducible show LCg.CompSrc _ _ _ _ _ _ _ _ _ _ _ _ _ _)); (fail_if_success (with_reducible show LCt.CompSrcT _ _ _ _ _ _ _ _ _ _ _ _ _ _ _)); (fail_if_success (with_reducible show wpAny _ _ (pyIter _) _ _ _)); (fail_if_success (with_reducible show wpAny _ _ (call (Value.ref 184) _) _ _ _)); (fail_if_success (with_reducible show wpAny _ _ (call (Value.ref 191) _) _ _ _)); (fail_if_success (with_reducible show wpAny _ _ (compareOp CmpOp.Eq (Value.ref _) (Value.ref _)) _ _ _)); first | (k_unfold; (try dsimp only)) | ((with_reducible show wpAny _ _ (execs (_ :: _) _) _ _ (Shared.mk _ _ _ (HAdd.hAdd _ _) _)); refine genT ?_; intro tk9) | ((with_reducible show wpAny _ _ (exec _ _) _ _ _); (fail_if_success (fail_if_success k_fold)); refine letQ ?_; intro q9) | ((with_reducible show wpAny _ _ (execs (_ :: _) _) _ _ _); (with_reducible rename Fr _ _ _ _ => kF9); (fail_if_success (with_reducible have : Fr _ _ _ ‹Str → Option Value› := kF9)); refine letm kF9 ?_; clear kF9; intro m9 F9) | ktr_member | ((fail_if_success (with_reducible show (if _ then _ else _))); first | walk1 | (dsimp only; walk1)))
    refine' eq_led ?k1 ?k2 ?k3 ?k4 ?k5 ?k6 ?_
    (case k1 => k_asm)
    (case k2 => exact .tail _ (mem_W (List.mem_cons_of_mem _ hcm)))
    (case k3 => exact hci)
    (case k4 => exact .head _)
    (case k5 => assumption)
    (case k6 => ktr_units)
    repeat' ((fail_if_success (with_reducible show LCg.CompSrc _ _ _ _ _ _ _ _ _ _ _ _ _ _)); (fail_if_success (with_reducible show LCt.CompSrcT _ _ _ _ _ _ _ _ _ _ _ _ _ _ _)); (fail_if_success (with_reducible show wpAny _ _ (pyIter _) _ _ _)); (fail_if_success (with_reducible show wpAny _ _ (call (Value.ref 184) _) _ _ _)); (fail_if_success (with_reducible show wpAny _ _ (call (Value.ref 191) _) _ _ _)); first | (k_unfold; (try dsimp only)) | ((with_reducible show wpAny _ _ (execs (_ :: _) _) _ _ (Shared.mk _ _ _ (HAdd.hAdd _ _) _)); refine genT ?_; intro tk9) | ((with_reducible show wpAny _ _ (exec _ _) _ _ _); (fail_if_success (fail_if_success k_fold)); refine letQ ?_; intro q9) | ((with_reducible show wpAny _ _ (execs (_ :: _) _) _ _ _); (with_reducible rename Fr _ _ _ _ => kF9); (fail_if_success (with_reducible have : Fr _ _ _ ‹Str → Option Value› := kF9)); refine letm kF9 ?_; clear kF9; intro m9 F9) | ktr_member | ((fail_if_success (with_reducible show (if _ then _ else _))); first | walk1 | (dsimp only; walk1)))
    have N10 : News _ _ _ (W10 ++ Lg lay O9) := fun p hp => (by assumption : News _ _ _ ((_, _) :: ((_, _) :: W10 ++ Lg lay O9))) p (.tail _ (.tail _ hp))
    exact ret _ W10 O9 _ _ (by k_asm) N10 hl9 (fun q h => hs6 q (hs7 q (hs8 q (hs69 q h)))) ⟨congrArg Value.bool (decide_eq_true rfl), S₅, (R8.mono hs6), K6, t1, t2, t3, t4⟩
end

local macro_rules | `(tactic| ktr_member) => `(tactic| first
  | ((with_reducible show wpAny _ _ (compareOp CmpOp.Eq (Value.ref _) (Value.ref _)) _ _ _); k_dflt (refine' eq_nil ?k1 ?k2 ?k4 ?k6 ?_; (case k1 => k_asm); (case k2 => exact mem_O (by mod_arm)); (case k4 => (refine mem_W ?_; exact .head _)); (case k6 => ktr_units); k_whole))
  | ((with_reducible show wpAny _ _ (getMethod (Value.ref _) (Str.ofString "pop") _) _ _ _); k_dflt (refine' meth_popO ?k1 ?k2 ?_; (case k1 => k_asm); (case k2 => mod_arm); k_whole))
  | ((with_reducible show wpAny _ _ (call (Value.builtin "list.pop") [Value.ref _, Value.int _ _]) _ _ _); k_dflt (refine' popAt_led ?k1 ?k2 ?k3 ?k4 ?k5 ?k6 ?k7 ?k8 ?_; (case k1 | k2 => k_asm); (case k3 => with_reducible assumption); (case k4 => mod_arm); (case k5 | k6 => first | with_reducible assumption | omega); (case k7 => omega); (case k8 => with_reducible assumption); k_whole; intro h' F' N'; (try k_sweep)))
  | ((with_reducible show wpAny _ _ (subscriptTail _ _ (Value.ref _) (Value.int _ _)) _ _ _); k_dflt (refine' sub_vals ?k1 ?k2 ?k3 ?k4 ?k5 ?_ ?k7; (case k1 => k_asm); (case k2 => exact mem_O (by mod_arm)); (case k3 => first | with_reducible assumption | omega); (case k4 => omega); (case k5 => with_reducible assumption); (case k7 => with_unfolding_all rfl); k_whole))
  | ((with_reducible show wpAny _ _ (subscriptTail _ _ (Value.ref _) (Value.int 0 _)) _ _ _); k_dflt (refine' sub_tupW (j := 0) ?k1 ?k2 ?k3 ?k4 ?k5 ?k6 ?_ ?k7 ?k8; (case k1 => k_asm); (case k2 => first | with_reducible assumption | exact List.mem_cons_of_mem _ (by with_reducible assumption) | exact List.mem_cons_of_mem _ (List.mem_cons_of_mem _ (by with_reducible assumption))); (case k3 | k4 => decide); (case k5 | k6 => rfl); (case k7 => with_unfolding_all rfl); (case k8 => (intro _; with_unfolding_all rfl)); k_whole))
  | ((with_reducible show wpAny _ _ (subscriptTail _ _ (Value.ref _) (Value.int 1 _)) _ _ _); k_dflt (refine' sub_tupW (j := 1) ?k1 ?k2 ?k3 ?k4 ?k5 ?k6 ?_ ?k7 ?k8; (case k1 => k_asm); (case k2 => first | with_reducible assumption | exact List.mem_cons_of_mem _ (by with_reducible assumption) | exact List.mem_cons_of_mem _ (List.mem_cons_of_mem _ (by with_reducible assumption))); (case k3 | k4 => decide); (case k5 | k6 => rfl); (case k7 => with_unfolding_all rfl); (case k8 => (intro _; with_unfolding_all rfl)); k_whole))
  | ((with_reducible show wpAny _ _ (subscriptTail _ _ (Value.ref _) (Value.int 2 _)) _ _ _); k_dflt (refine' sub_tupW (j := 2) ?k1 ?k2 ?k3 ?k4 ?k5 ?k6 ?_ ?k7 ?k8; (case k1 => k_asm); (case k2 => first | with_reducible assumption | exact List.mem_cons_of_mem _ (by with_reducible assumption) | exact List.mem_cons_of_mem _ (List.mem_cons_of_mem _ (by with_reducible assumption))); (case k3 | k4 => decide); (case k5 | k6 => rfl); (case k7 => with_unfolding_all rfl); (case k8 => (intro _; with_unfolding_all rfl)); k_whole))
  | ((with_reducible show wpAny _ _ (subscriptTail _ _ (Value.ref _) (Value.int 3 _)) _ _ _); k_dflt (refine' sub_tupW (j := 3) ?k1 ?k2 ?k3 ?k4 ?k5 ?k6 ?_ ?k7 ?k8; (case k1 => k_asm); (case k2 => first | with_reducible assumption | exact List.mem_cons_of_mem _ (by with_reducible assumption) | exact List.mem_cons_of_mem _ (List.mem_cons_of_mem _ (by with_reducible assumption))); (case k3 | k4 => decide); (case k5 | k6 => rfl); (case k7 => with_unfolding_all rfl); (case k8 => (intro _; with_unfolding_all rfl)); k_whole))
  | fail "no own step 6")

/-! part S7 -/
section

section
variable {w : World} {A : Around} {E : Value → Shared → Prop} {s : Shared} {h₀ : Heap} {L a : Addr} {m : Str → Option Value} {n : Nat} {k : Int} {u t0 t1 t2 t3 : Tok} {value slice : PySem.Expr} {lay : Slot → Addr} {W : Led} {O : Slot → Obj} {Q : Value → Shared → Prop}
theorem sub_tupX {vs : List Value} {x : Value} {j : Nat} (N : News h₀ L s.heap (W ++ Lg lay O)) (hm : (a, tupOf vs) ∈ W) (hlo : -(2 ^ 63) ≤ k) (hhi : k < 2 ^ 63) (hj : seqIndex? k vs.length = some j) (hx : vs[j]? = some x) (h : Q x s)
    (hs : subscripted slice false (.ref a) (.int k u) = operate [.ref a, .int k u] (getItem (.ref a) (.int k u)) := by with_unfolding_all rfl) :
    wpAny (model PR w) A (subscriptTail value slice (.ref a) (.int k u)) Q E s := by
  have ht : IsTup s.heap a vs.toArray := ⟨_, (N (a, tupOf vs) (mem_W hm)).1, rfl, 0, rfl⟩
  exact item_tupleT ht hlo hhi hj hx h hs
theorem sub_kinds (N : News h₀ L s.heap (W ++ Lg lay O)) (hm : (a, tupOf [.str (Str.ofString "stream") t0, .str (Str.ofString "reset_stream") t1, .str (Str.ofString "stream_data_blocked") t2, .str (Str.ofString "max_stream_data") t3]) ∈ W) (h0 : 0 ≤ k) (h1 : k < 4)
    (h : ∀ kd t, (Kd.fs kd = true → k = 3) → Q (.str (Kd.str kd) t) s)
    (hs : subscripted slice false (.ref a) (.int k u) = operate [.ref a, .int k u] (getItem (.ref a) (.int k u)) := by with_unfolding_all rfl) :
    wpAny (model PR w) A (subscriptTail value slice (.ref a) (.int k u)) Q E s := by
  have hc : k = 0 ∨ k = 1 ∨ k = 2 ∨ k = 3 := by omega
  rcases hc with rfl | rfl | rfl | rfl
  · exact sub_tupX (j := 0) N hm (by decide) (by decide) rfl rfl (h .stream _ (by decide)) hs
  · exact sub_tupX (j := 1) N hm (by decide) (by decide) rfl rfl (h .reset _ (by decide)) hs
  · exact sub_tupX (j := 2) N hm (by decide) (by decide) rfl rfl (h .blocked _ (by decide)) hs
  · exact sub_tupX (j := 3) N hm (by decide) (by decide) rfl rfl (h .maxd _ (fun _ => rfl)) hs
end
theorem b2i_of {v : Int} (h0 : 0 ≤ v) (h1 : v < 2) : ∃ e, v = b2i e := by
  by_cases h : v = 0
  · exact ⟨false, h⟩
  · exact ⟨true, by show v = 1; omega⟩
theorem c_deed (w : World) (lay : Slot → Addr) (W : Led) (O : Slot → Obj) (hl : Lay lay W) (S : St) (R : Rel w lay W O S) (nk : Nat) (K : Ok S nk S.wire) (nk1 : nk ≤ 100)
    (p0 : 0 ≤ S.spot) (p1 : S.spot < 500) :
    Fn w 198 40 [.ref (lay .ends), .ref (lay .net), .ref (lay .box)] lay W O (fun r W' O' => r = .bool true ∧ ∃ S', Rel w lay W' O' S' ∧ Ok S' (nk + 2) S'.wire ∧ S'.spot = S.spot + 4) := by
  have f0 : ¬ (!true) = true := by decide
  unfold Fn
  intro p loose mean mg mb dp un gd cn cs a ccd cl outer A₀ base h₀ L m s Q E B F X N T hk hd hu ret
  refine wpAny_call ?_
  k_dflt ktr_enter
  repeat' ((fail_if_success (with_reducible show LCg.CompSrc _ _ _ _ _ _ _ _ _ _ _ _ _ _)); (fail_if_success (with_reducible show LCt.CompSrcT _ _ _ _ _ _ _ _ _ _ _ _ _ _ _)); (fail_if_success (with_reducible show wpAny _ _ (pyIter _) _ _ _)); (fail_if_success (with_reducible show wpAny _ _ (call (Value.ref 146) _) _ _ _)); first | (k_unfold; (try dsimp only)) | ((with_reducible show wpAny _ _ (execs (_ :: _) _) _ _ (Shared.mk _ _ _ (HAdd.hAdd _ _) _)); refine genT ?_; intro tk9) | ((with_reducible show wpAny _ _ (exec _ _) _ _ _); (fail_if_success (fail_if_success k_fold)); refine letQ ?_; intro q9) | ((with_reducible show wpAny _ _ (execs (_ :: _) _) _ _ _); (with_reducible rename Fr _ _ _ _ => kF9); (fail_if_success (with_reducible have : Fr _ _ _ ‹Str → Option Value› := kF9)); refine letm kF9 ?_; clear kF9; intro m9 F9) | ktr_member | ((fail_if_success (with_reducible show (if _ then _ else _))); first | walk1 | (dsimp only; walk1)))
  refine' Fn.use ?k1 ?k2 ?k3 ?k4 ?k5 ?kK (c_takeR w lay _ _ ?kl S R ?q0 ?q1 _ _ ?q2 ?q3) ?kd ?ku ?_
  (case k1 => k_asm)
  (case k2 => k_asm)
  (case k3 => k_asm)
  (case k4 => k_asm)
  (case k5 => k_asm)
  (case kK => first | exact rfl | assumption)
  (case kd => ktr_room)
  (case ku => ktr_units)
  (case kl => assumption)
  (case q0 => omega)
  (case q1 => omega)
  (case q2 => omega)
  (case q3 => omega)
  intro r9 W9 O9 h9 tk9 F9 N9 hl9 hs9 hP9
  (try dsimp only)
  (try k_sweep)
  obtain ⟨hW, ⟨form, t9, rfl, g0, g1⟩, R1⟩ := hP9
  subst hW
  repeat' ((fail_if_success (with_reducible show LCg.CompSrc _ _ _ _ _ _ _ _ _ _ _ _ _ _)); (fail_if_success (with_reducible show LCt.CompSrcT _ _ _ _ _ _ _ _ _ _ _ _ _ _ _)); (fail_if_success (with_reducible show wpAny _ _ (pyIter _) _ _ _)); (fail_if_success (with_reducible show wpAny _ _ (call (Value.ref 146) _) _ _ _)); first | (k_unfold; (try dsimp only)) | ((with_reducible show wpAny _ _ (execs (_ :: _) _) _ _ (Shared.mk _ _ _ (HAdd.hAdd _ _) _)); refine genT ?_; intro tk9) | ((with_reducible show wpAny _ _ (exec _ _) _ _ _); (fail_if_success (fail_if_success k_fold)); refine letQ ?_; intro q9) | ((with_reducible show wpAny _ _ (execs (_ :: _) _) _ _ _); (with_reducible rename Fr _ _ _ _ => kF9); (fail_if_success (with_reducible have : Fr _ _ _ ‹Str → Option Value› := kF9)); refine letm kF9 ?_; clear kF9; intro m9 F9) | ktr_member | ((fail_if_success (with_reducible show (if _ then _ else _))); first | walk1 | (dsimp only; walk1)))
  refine' Fn.use ?k1 ?k2 ?k3 ?k4 ?k5 ?kK (c_takeR w lay _ _ ?kl _ R1 ?q0 ?q1 _ _ ?q2 ?q3) ?kd ?ku ?_
  (case k1 => k_asm)
  (case k2 => k_asm)
  (case k3 => k_asm)
  (case k4 => k_asm)
  (case k5 => k_asm)
  (case kK => first | exact rfl | assumption)
  (case kd => ktr_room)
  (case ku => ktr_units)
  (case kl => assumption)
  (case q0 => (show 0 ≤ S.spot + 1; omega))
  (case q1 => (show S.spot + 1 < 1000; omega))
  (case q2 => omega)
  (case q3 => omega)
  intro r9 W9 O8 h9 tk8 F9 N9 hl9 hs9 hP9
  (try dsimp only)
  (try k_sweep)
  obtain ⟨hW, ⟨ev, t8, rfl, g2, g3⟩, R2⟩ := hP9
  subst hW
  obtain ⟨e, rfl⟩ := b2i_of g2 g3
  repeat' ((fail_if_success (with_reducible show LCg.CompSrc _ _ _ _ _ _ _ _ _ _ _ _ _ _)); (fail_if_success (with_reducible show LCt.CompSrcT _ _ _ _ _ _ _ _ _ _ _ _ _ _ _)); (fail_if_success (with_reducible show wpAny _ _ (pyIter _) _ _ _)); (fail_if_success (with_reducible show wpAny _ _ (call (Value.ref 146) _) _ _ _)); first | (k_unfold; (try dsimp only)) | ((with_reducible show wpAny _ _ (execs (_ :: _) _) _ _ (Shared.mk _ _ _ (HAdd.hAdd _ _) _)); refine genT ?_; intro tk9) | ((with_reducible show wpAny _ _ (exec _ _) _ _ _); (fail_if_success (fail_if_success k_fold)); refine letQ ?_; intro q9) | ((with_reducible show wpAny _ _ (execs (_ :: _) _) _ _ _); (with_reducible rename Fr _ _ _ _ => kF9); (fail_if_success (with_reducible have : Fr _ _ _ ‹Str → Option Value› := kF9)); refine letm kF9 ?_; clear kF9; intro m9 F9) | ktr_member | ((fail_if_success (with_reducible show (if _ then _ else _))); first | walk1 | (dsimp only; walk1)))
  refine' Fn.use ?k1 ?k2 ?k3 ?k4 ?k5 ?kK (c_takeR w lay _ _ ?kl _ R2 ?q0 ?q1 _ _ ?q2 ?q3) ?kd ?ku ?_
  (case k1 => k_asm)
  (case k2 => k_asm)
  (case k3 => k_asm)
  (case k4 => k_asm)
  (case k5 => k_asm)
  (case kK => first | exact rfl | assumption)
  (case kd => ktr_room)
  (case ku => ktr_units)
  (case kl => assumption)
  (case q0 => (show 0 ≤ S.spot + 1 + 1; omega))
  (case q1 => (show S.spot + 1 + 1 < 1000; omega))
  (case q2 => omega)
  (case q3 => omega)
  intro r9 W9 O7 h9 tk7 F9 N9 hl9 hs9 hP9
  (try dsimp only)
  (try k_sweep)
  obtain ⟨hW, ⟨uv, t7, rfl, g4, g5⟩, R3⟩ := hP9
  subst hW
  obtain ⟨u, rfl⟩ := b2i_of g4 g5
  repeat' ((fail_if_success (with_reducible show LCg.CompSrc _ _ _ _ _ _ _ _ _ _ _ _ _ _)); (fail_if_success (with_reducible show LCt.CompSrcT _ _ _ _ _ _ _ _ _ _ _ _ _ _ _)); (fail_if_success (with_reducible show wpAny _ _ (pyIter _) _ _ _)); (fail_if_success (with_reducible show wpAny _ _ (call (Value.ref 146) _) _ _ _)); first | (k_unfold; (try dsimp only)) | ((with_reducible show wpAny _ _ (execs (_ :: _) _) _ _ (Shared.mk _ _ _ (HAdd.hAdd _ _) _)); refine genT ?_; intro tk9) | ((with_reducible show wpAny _ _ (exec _ _) _ _ _); (fail_if_success (fail_if_success k_fold)); refine letQ ?_; intro q9) | ((with_reducible show wpAny _ _ (execs (_ :: _) _) _ _ _); (with_reducible rename Fr _ _ _ _ => kF9); (fail_if_success (with_reducible have : Fr _ _ _ ‹Str → Option Value› := kF9)); refine letm kF9 ?_; clear kF9; intro m9 F9) | ktr_member | ((fail_if_success (with_reducible show (if _ then _ else _))); first | walk1 | (dsimp only; walk1)))
  refine' Fn.use ?k1 ?k2 ?k3 ?k4 ?k5 ?kK (c_takeR w lay _ _ ?kl _ R3 ?q0 ?q1 _ _ ?q2 ?q3) ?kd ?ku ?_
  (case k1 => k_asm)
  (case k2 => k_asm)
  (case k3 => k_asm)
  (case k4 => k_asm)
  (case k5 => k_asm)
  (case kK => first | exact rfl | assumption)
  (case kd => ktr_room)
  (case ku => ktr_units)
  (case kl => assumption)
  (case q0 => (show 0 ≤ S.spot + 1 + 1 + 1; omega))
  (case q1 => (show S.spot + 1 + 1 + 1 < 1000; omega))
  (case q2 => omega)
  (case q3 => omega)
  intro r9 W9 O6 h9 tk6 F9 N9 hl9 hs9 hP9
  (try dsimp only)
  (try k_sweep)
  obtain ⟨hW, ⟨pick, t6, rfl, g6, g7⟩, R4⟩ := hP9
  subst hW
  have K4 : Ok { S with spot := S.spot + 1 + 1 + 1 + 1 } nk S.wire := K.spot _
  replace R4 : Rel w lay W O6 { S with spot := S.spot + 1 + 1 + 1 + 1 } := R4
  have hsp : ({ S with spot := S.spot + 1 + 1 + 1 + 1 } : St).spot = S.spot + 4 := by show S.spot + 1 + 1 + 1 + 1 = _; omega
  replace K4 : Ok { S with spot := S.spot + 1 + 1 + 1 + 1 } nk ({ S with spot := S.spot + 1 + 1 + 1 + 1 } : St).wire := K4
  generalize ({ S with spot := S.spot + 1 + 1 + 1 + 1 } : St) = S₂ at R4 K4 hsp
  clear R1 R2 R3
  have tl := K4.told_lt e u
  have k1 := K4.k1 e u
  have k2 := K4.k2 e u
  have k3 := K4.k3 e u
  have k0 := K4.k0 e u
  have hov := K4.ov e u
  have hwl := K4.wl
  by_cases hA : form < 2
  · have f1 : decide (form < 2) = true := decide_eq_true hA
    repeat' ((fail_if_success (with_reducible show LCg.CompSrc _ _ _ _ _ _ _ _ _ _ _ _ _ _)); (fail_if_success (with_reducible show LCt.CompSrcT _ _ _ _ _ _ _ _ _ _ _ _ _ _ _)); (fail_if_success (with_reducible show wpAny _ _ (pyIter _) _ _ _)); (fail_if_success (with_reducible show wpAny _ _ (call (Value.ref 153) _) _ _ _)); first | (k_unfold; (try dsimp only)) | ((with_reducible show wpAny _ _ (execs (_ :: _) _) _ _ (Shared.mk _ _ _ (HAdd.hAdd _ _) _)); refine genT ?_; intro tk9) | ((with_reducible show wpAny _ _ (exec _ _) _ _ _); (fail_if_success (fail_if_success k_fold)); refine letQ ?_; intro q9) | ((with_reducible show wpAny _ _ (execs (_ :: _) _) _ _ _); (with_reducible rename Fr _ _ _ _ => kF9); (fail_if_success (with_reducible have : Fr _ _ _ ‹Str → Option Value› := kF9)); refine letm kF9 ?_; clear kF9; intro m9 F9) | ktr_member | ((fail_if_success (with_reducible show (if _ then _ else _))); first | walk1 | (dsimp only; walk1)))
    refine' Fn.use ?k1 ?k2 ?k3 ?k4 ?k5 ?kK (c_lopen w lay _ _ ?kl S₂ R4 e u (1 + form) _ _ _ k2 ?q0 ?q1 ?q2 ?q3) ?kd ?ku ?_
    (case k1 => k_asm)
    (case k2 => k_asm)
    (case k3 => k_asm)
    (case k4 => k_asm)
    (case k5 => k_asm)
    (case kK => first | exact rfl | assumption)
    (case kd => ktr_room)
    (case ku => ktr_units)
    (case kl => assumption)
    (case q0 => omega)
    (case q1 => omega)
    (case q2 => omega)
    (case q3 => omega)
    intro r9 W9 O9 h9 tk9 F9 N9 hl9 hs9 hP9
    (try dsimp only)
    (try k_sweep)
    obtain ⟨rfl, R5⟩ := hP9
    have K5 := K4.open e u (1 + form).toNat
    generalize hS5 : ({ S₂ with opened := set2 S₂.opened e u (opAt (S₂.opened e u) (S₂.heard e u) (1 + form).toNat) } : St) = S₅ at R5 K5
    have hw5 : S₅.wire = S₂.wire := by rw [← hS5]
    have hsp5 : S₅.spot = S.spot + 4 := by rw [← hS5]; exact hsp
    clear hS5
    rw [← hw5] at K5
    obtain ⟨at1, an1, hro⟩ := R5.opened e
    obtain ⟨on, hnet, hnd⟩ := R5.fn.net
    obtain ⟨o1n, ho1⟩ := R5.fn.outer .opened
    obtain ⟨wvs, wnn, hwi, hww⟩ := R5.wire
    have hwvl := hww.length
    have hlen5 : S₅.wire.length ≤ nk := K5.wl
    have tl5 := K5.told_lt e u
    have k15 := K5.k1 e u
    have k25 := K5.k2 e u
    have k35 := K5.k3 e u
    have k05 := K5.k0 e u
    repeat' ((fail_if_success (with_reducible show LCg.CompSrc _ _ _ _ _ _ _ _ _ _ _ _ _ _)); (fail_if_success (with_reducible show LCt.CompSrcT _ _ _ _ _ _ _ _ _ _ _ _ _ _ _)); (fail_if_success (with_reducible show wpAny _ _ (pyIter _) _ _ _)); (fail_if_success (with_reducible show wpAny _ _ (call (Value.ref 153) _) _ _ _)); first | (k_unfold; (try dsimp only)) | ((with_reducible show wpAny _ _ (execs (_ :: _) _) _ _ (Shared.mk _ _ _ (HAdd.hAdd _ _) _)); refine genT ?_; intro tk9) | ((with_reducible show wpAny _ _ (exec _ _) _ _ _); (fail_if_success (fail_if_success k_fold)); refine letQ ?_; intro q9) | ((with_reducible show wpAny _ _ (execs (_ :: _) _) _ _ _); (with_reducible rename Fr _ _ _ _ => kF9); (fail_if_success (with_reducible have : Fr _ _ _ ‹Str → Option Value› := kF9)); refine letm kF9 ?_; clear kF9; intro m9 F9) | ktr_member | ((fail_if_success (with_reducible show (if _ then _ else _))); first | walk1 | (dsimp only; walk1)))
    by_cases hB : form = 1
    · have f2 : (form == 1) = true := by rw [hB]; rfl
      by_cases hC : 0 < S₅.opened e u
      · have f3 : decide (0 < S₅.opened e u) = true := decide_eq_true hC
        have q01 := b2i_01 u
        have qlo := fmod_lo pick (n := 4 - b2i u) (by omega)
        have qhi := fmod_hi pick (n := 4 - b2i u) (by omega)
        have mlo := fmod_lo pick (n := S₅.opened e u) hC
        have mhi := fmod_hi pick (n := S₅.opened e u) hC
        repeat' ((fail_if_success (with_reducible show LCg.CompSrc _ _ _ _ _ _ _ _ _ _ _ _ _ _)); (fail_if_success (with_reducible show LCt.CompSrcT _ _ _ _ _ _ _ _ _ _ _ _ _ _ _)); (fail_if_success (with_reducible show wpAny _ _ (pyIter _) _ _ _)); (fail_if_success (with_reducible show wpAny _ _ (call (Value.ref 153) _) _ _ _)); (fail_if_success (with_reducible show wpAny _ _ (subscriptTail (PySem.Expr.Tuple _ _ _) _ _ _) _ _ _)); first | (k_unfold; (try dsimp only)) | ((with_reducible show wpAny _ _ (execs (_ :: _) _) _ _ (Shared.mk _ _ _ (HAdd.hAdd _ _) _)); refine genT ?_; intro tk9) | ((with_reducible show wpAny _ _ (exec _ _) _ _ _); (fail_if_success (fail_if_success k_fold)); refine letQ ?_; intro q9) | ((with_reducible show wpAny _ _ (execs (_ :: _) _) _ _ _); (with_reducible rename Fr _ _ _ _ => kF9); (fail_if_success (with_reducible have : Fr _ _ _ ‹Str → Option Value› := kF9)); refine letm kF9 ?_; clear kF9; intro m9 F9) | ktr_member | ((fail_if_success (with_reducible show (if _ then _ else _))); first | walk1 | (dsimp only; walk1)))
        refine' sub_kinds ?k1 ?k2 ?k3 ?k4 ?_ ?k7
        (case k1 => k_asm)
        (case k2 => exact .head _)
        (case k3 => with_reducible assumption)
        (case k4 => omega)
        (case k7 => with_unfolding_all rfl)
        intro kdx tkx hkdx
        (try dsimp only)
        (try k_sweep)
        repeat' ((fail_if_success (with_reducible show LCg.CompSrc _ _ _ _ _ _ _ _ _ _ _ _ _ _)); (fail_if_success (with_reducible show LCt.CompSrcT _ _ _ _ _ _ _ _ _ _ _ _ _ _ _)); (fail_if_success (with_reducible show wpAny _ _ (pyIter _) _ _ _)); (fail_if_success (with_reducible show wpAny _ _ (call (Value.ref 153) _) _ _ _)); first | (k_unfold; (try dsimp only)) | ((with_reducible show wpAny _ _ (execs (_ :: _) _) _ _ (Shared.mk _ _ _ (HAdd.hAdd _ _) _)); refine genT ?_; intro tk9) | ((with_reducible show wpAny _ _ (exec _ _) _ _ _); (fail_if_success (fail_if_success k_fold)); refine letQ ?_; intro q9) | ((with_reducible show wpAny _ _ (execs (_ :: _) _) _ _ _); (with_reducible rename Fr _ _ _ _ => kF9); (fail_if_success (with_reducible have : Fr _ _ _ ‹Str → Option Value› := kF9)); refine letm kF9 ?_; clear kF9; intro m9 F9) | ktr_member | ((fail_if_success (with_reducible show (if _ then _ else _))); first | walk1 | (dsimp only; walk1)))
        have good : WdGood S₅ (.fr kdx e u (S₅.opened e u - 1 - pick.fmod (S₅.opened e u))) := by
          refine ⟨by omega, by omega, fun hf => ?_⟩
          have := hkdx hf
          cases u
          · rfl
          · have : b2i true = 1 := rfl
            omega
        exact ret _ ((_, tupOf _) :: (_, _) :: W9) _ _ _ (by k_asm) (by k_asm) (by assumption) (fun q h => .tail _ (.tail _ (hs9 q h))) ⟨rfl, { S₅ with wire := S₅.wire ++ [.fr kdx e u (S₅.opened e u - 1 - pick.fmod (S₅.opened e u))] },
          (R5.mono fun _ h => .tail _ (.tail _ h)).wire1 _ _ _ ((hww.mono fun _ h => .tail _ (.tail _ h)).append (.cons (.head _) ⟨_, _, _, _, rfl⟩ .nil)), ((K5.add good).mono (by omega)).wire _ (by simp; omega), hsp5⟩
      · have f3 : ¬ decide (0 < S₅.opened e u) = true := by rw [decide_eq_true_eq]; exact hC
        repeat' ((fail_if_success (with_reducible show LCg.CompSrc _ _ _ _ _ _ _ _ _ _ _ _ _ _)); (fail_if_success (with_reducible show LCt.CompSrcT _ _ _ _ _ _ _ _ _ _ _ _ _ _ _)); (fail_if_success (with_reducible show wpAny _ _ (pyIter _) _ _ _)); (fail_if_success (with_reducible show wpAny _ _ (call (Value.ref 153) _) _ _ _)); first | (k_unfold; (try dsimp only)) | ((with_reducible show wpAny _ _ (execs (_ :: _) _) _ _ (Shared.mk _ _ _ (HAdd.hAdd _ _) _)); refine genT ?_; intro tk9) | ((with_reducible show wpAny _ _ (exec _ _) _ _ _); (fail_if_success (fail_if_success k_fold)); refine letQ ?_; intro q9) | ((with_reducible show wpAny _ _ (execs (_ :: _) _) _ _ _); (with_reducible rename Fr _ _ _ _ => kF9); (fail_if_success (with_reducible have : Fr _ _ _ ‹Str → Option Value› := kF9)); refine letm kF9 ?_; clear kF9; intro m9 F9) | ktr_member | ((fail_if_success (with_reducible show (if _ then _ else _))); first | walk1 | (dsimp only; walk1)))
        exact ret _ W9 O9 _ _ (by k_asm) (by k_asm) (by assumption) hs9 ⟨rfl, S₅, R5, K5.mono (by omega), hsp5⟩
    · have f2 : ¬ (form == 1) = true := by simpa using hB
      repeat' ((fail_if_success (with_reducible show LCg.CompSrc _ _ _ _ _ _ _ _ _ _ _ _ _ _)); (fail_if_success (with_reducible show LCt.CompSrcT _ _ _ _ _ _ _ _ _ _ _ _ _ _ _)); (fail_if_success (with_reducible show wpAny _ _ (pyIter _) _ _ _)); (fail_if_success (with_reducible show wpAny _ _ (call (Value.ref 153) _) _ _ _)); first | (k_unfold; (try dsimp only)) | ((with_reducible show wpAny _ _ (execs (_ :: _) _) _ _ (Shared.mk _ _ _ (HAdd.hAdd _ _) _)); refine genT ?_; intro tk9) | ((with_reducible show wpAny _ _ (exec _ _) _ _ _); (fail_if_success (fail_if_success k_fold)); refine letQ ?_; intro q9) | ((with_reducible show wpAny _ _ (execs (_ :: _) _) _ _ _); (with_reducible rename Fr _ _ _ _ => kF9); (fail_if_success (with_reducible have : Fr _ _ _ ‹Str → Option Value› := kF9)); refine letm kF9 ?_; clear kF9; intro m9 F9) | ktr_member | ((fail_if_success (with_reducible show (if _ then _ else _))); first | walk1 | (dsimp only; walk1)))
      exact ret _ W9 O9 _ _ (by k_asm) (by k_asm) (by assumption) hs9 ⟨rfl, S₅, R5, K5.mono (by omega), hsp5⟩
  · have f1 : ¬ decide (form < 2) = true := by rw [decide_eq_true_eq]; exact hA
    have f00 := K4.f0 e u
    have f01 := K4.f1 e u
    obtain ⟨on, hnet, hnd⟩ := R4.fn.net
    obtain ⟨wvs, wnn, hwi, hww⟩ := R4.wire
    have hwvl := hww.length
    by_cases hB : form = 2
    · have f2 : (form == 2) = true := by rw [hB]; rfl
      repeat' ((fail_if_success (with_reducible show LCg.CompSrc _ _ _ _ _ _ _ _ _ _ _ _ _ _)); (fail_if_success (with_reducible show LCt.CompSrcT _ _ _ _ _ _ _ _ _ _ _ _ _ _ _)); (fail_if_success (with_reducible show wpAny _ _ (pyIter _) _ _ _)); (fail_if_success (with_reducible show wpAny _ _ (call (Value.ref 170) _) _ _ _)); first | (k_unfold; (try dsimp only)) | ((with_reducible show wpAny _ _ (execs (_ :: _) _) _ _ (Shared.mk _ _ _ (HAdd.hAdd _ _) _)); refine genT ?_; intro tk9) | ((with_reducible show wpAny _ _ (exec _ _) _ _ _); (fail_if_success (fail_if_success k_fold)); refine letQ ?_; intro q9) | ((with_reducible show wpAny _ _ (execs (_ :: _) _) _ _ _); (with_reducible rename Fr _ _ _ _ => kF9); (fail_if_success (with_reducible have : Fr _ _ _ ‹Str → Option Value› := kF9)); refine letm kF9 ?_; clear kF9; intro m9 F9) | ktr_member | ((fail_if_success (with_reducible show (if _ then _ else _))); first | walk1 | (dsimp only; walk1)))
      refine' Fn.use ?k1 ?k2 ?k3 ?k4 ?k5 ?kK (c_over w lay _ _ ?kl S₂ R4 e u pick _ _ _ k0 ?q1 ?q2 ?q3 f00 ?q5) ?kd ?ku ?_
      (case k1 => k_asm)
      (case k2 => k_asm)
      (case k3 => k_asm)
      (case k4 => k_asm)
      (case k5 => k_asm)
      (case kK => first | exact rfl | assumption)
      (case kd => ktr_room)
      (case ku => ktr_units)
      (case kl => assumption)
      (case q1 => omega)
      (case q2 => omega)
      (case q3 => omega)
      (case q5 => omega)
      intro r9 W9 O9 h9 tk9 F9 N9 hl9 hs9 hP9
      (try dsimp only)
      (try k_sweep)
      obtain ⟨rfl, S', R5, hc⟩ := hP9
      repeat' ((fail_if_success (with_reducible show LCg.CompSrc _ _ _ _ _ _ _ _ _ _ _ _ _ _)); (fail_if_success (with_reducible show LCt.CompSrcT _ _ _ _ _ _ _ _ _ _ _ _ _ _ _)); (fail_if_success (with_reducible show wpAny _ _ (pyIter _) _ _ _)); (fail_if_success (with_reducible show wpAny _ _ (call (Value.ref 170) _) _ _ _)); first | (k_unfold; (try dsimp only)) | ((with_reducible show wpAny _ _ (execs (_ :: _) _) _ _ (Shared.mk _ _ _ (HAdd.hAdd _ _) _)); refine genT ?_; intro tk9) | ((with_reducible show wpAny _ _ (exec _ _) _ _ _); (fail_if_success (fail_if_success k_fold)); refine letQ ?_; intro q9) | ((with_reducible show wpAny _ _ (execs (_ :: _) _) _ _ _); (with_reducible rename Fr _ _ _ _ => kF9); (fail_if_success (with_reducible have : Fr _ _ _ ‹Str → Option Value› := kF9)); refine letm kF9 ?_; clear kF9; intro m9 F9) | ktr_member | ((fail_if_success (with_reducible show (if _ then _ else _))); first | walk1 | (dsimp only; walk1)))
      refine ret _ W9 O9 _ _ (by k_asm) (by k_asm) (by assumption) hs9 ⟨rfl, _, R5, ?_, ?_⟩
      · rw [toldS_wire]
        rcases hc with rfl | ⟨one, _, _, _, rfl⟩
        · exact (K4.told e u).mono (by omega)
        · exact (K4.over e u one).told e u
      · rw [toldS_spot]
        rcases hc with rfl | ⟨one, _, _, _, rfl⟩
        · exact hsp
        · exact hsp
    · have f2 : ¬ (form == 2) = true := by simpa using hB
      by_cases hE : wvs.length = 0
      · have f3 : decide (wvs.length = 0) = true := decide_eq_true hE
        repeat' ((fail_if_success (with_reducible show LCg.CompSrc _ _ _ _ _ _ _ _ _ _ _ _ _ _)); (fail_if_success (with_reducible show LCt.CompSrcT _ _ _ _ _ _ _ _ _ _ _ _ _ _ _)); (fail_if_success (with_reducible show wpAny _ _ (pyIter _) _ _ _)); (fail_if_success (with_reducible show wpAny _ _ (call (Value.ref 170) _) _ _ _)); first | (k_unfold; (try dsimp only)) | ((with_reducible show wpAny _ _ (execs (_ :: _) _) _ _ (Shared.mk _ _ _ (HAdd.hAdd _ _) _)); refine genT ?_; intro tk9) | ((with_reducible show wpAny _ _ (exec _ _) _ _ _); (fail_if_success (fail_if_success k_fold)); refine letQ ?_; intro q9) | ((with_reducible show wpAny _ _ (execs (_ :: _) _) _ _ _); (with_reducible rename Fr _ _ _ _ => kF9); (fail_if_success (with_reducible have : Fr _ _ _ ‹Str → Option Value› := kF9)); refine letm kF9 ?_; clear kF9; intro m9 F9) | ktr_member | ((fail_if_success (with_reducible show (if _ then _ else _))); first | walk1 | (dsimp only; walk1)))
        exact ret _ ((_, _) :: W) O6 _ _ (by k_asm) (by k_asm) (by assumption) (fun _ h => .tail _ h) ⟨rfl, S₂, R4.mono fun _ h => .tail _ h, K4.mono (by omega), hsp⟩
      · have f3 : ¬ decide (wvs.length = 0) = true := by rw [decide_eq_true_eq]; exact hE
        have alo := fmod_lo pick (n := (wvs.length : Int)) (by omega)
        have ahi := fmod_hi pick (n := (wvs.length : Int)) (by omega)
        obtain ⟨wa, items, wd, hx1, hx2, hx3, hx4⟩ := hww.at (pick.fmod (wvs.length : Int)).toNat (by omega)
        have hwdm : wd ∈ S₂.wire := List.mem_of_getElem? hx2
        have hgood := K4.wg wd hwdm
        by_cases hF : form = 3
        · have f4 : (form == 3) = true := by rw [hF]; rfl
          have f5 : ¬ (form == 4) = true := by rw [hF]; decide
          have R6 := fun (n1 : Nat) => R4.wire1 _ _ n1 (hww.erase (pick.fmod (wvs.length : Int)).toNat)
          have herl : (S₂.wire.eraseIdx (pick.fmod (wvs.length : Int)).toNat).length ≤ nk + 2 := by
            have := List.length_eraseIdx_le S₂.wire (pick.fmod (wvs.length : Int)).toNat
            omega
          cases wd with
          | fr kd e9 u9 n9 =>
            have f7 : ¬ (kd.str == Str.ofString "let") = true := by cases kd <;> decide
            obtain ⟨t0, t1, t2, t3, rfl⟩ := hx4
            repeat' ((fail_if_success (with_reducible show LCg.CompSrc _ _ _ _ _ _ _ _ _ _ _ _ _ _)); (fail_if_success (with_reducible show LCt.CompSrcT _ _ _ _ _ _ _ _ _ _ _ _ _ _ _)); (fail_if_success (with_reducible show wpAny _ _ (pyIter _) _ _ _)); (fail_if_success (with_reducible show wpAny _ _ (call (Value.ref 177) _) _ _ _)); first | (k_unfold; (try dsimp only)) | ((with_reducible show wpAny _ _ (execs (_ :: _) _) _ _ (Shared.mk _ _ _ (HAdd.hAdd _ _) _)); refine genT ?_; intro tk9) | ((with_reducible show wpAny _ _ (exec _ _) _ _ _); (fail_if_success (fail_if_success k_fold)); refine letQ ?_; intro q9) | ((with_reducible show wpAny _ _ (execs (_ :: _) _) _ _ _); (with_reducible rename Fr _ _ _ _ => kF9); (fail_if_success (with_reducible have : Fr _ _ _ ‹Str → Option Value› := kF9)); refine letm kF9 ?_; clear kF9; intro m9 F9) | ktr_member | ((fail_if_success (with_reducible show (if _ then _ else _))); first | walk1 | (dsimp only; walk1)))
            exact ret _ ((_, _) :: W) _ _ _ (by k_asm) (by k_asm) (by assumption) (fun _ h => .tail _ h) ⟨rfl, { S₂ with wire := S₂.wire.eraseIdx (pick.fmod (wvs.length : Int)).toNat }, (R6 _).mono fun _ h => .tail _ h, ((K4.gone (fun x hx => mem_erase hx2 hx) (fun x hx => of_erase hx)).mono (by omega)).wire _ herl, hsp⟩
          | lt e9 u9 v9 =>
            have f7 : (Str.ofString "let" == Str.ofString "let") = true := by decide
            obtain ⟨t0, t1, t2, t3, rfl⟩ := hx4
            have fx := R4.fx
            have hends := R4.fx.ends
            obtain ⟨dh, dt, dn, hD⟩ := fx.dct (!e9)
            have hI := fx.inst (!e9)
            obtain ⟨tt, tk0, hto⟩ := R4.told e9
            obtain ⟨ok, hlo⟩ := R4.lost e9
            obtain ⟨lt, ln, htl⟩ := R4.toldL e9
            obtain ⟨wn, how⟩ := R4.owes e9
            obtain ⟨o2n, ho2⟩ := R4.fn.outer .told
            obtain ⟨o3n, ho3⟩ := R4.fn.outer .lost
            repeat' ((fail_if_success (with_reducible show LCg.CompSrc _ _ _ _ _ _ _ _ _ _ _ _ _ _)); (fail_if_success (with_reducible show LCt.CompSrcT _ _ _ _ _ _ _ _ _ _ _ _ _ _ _)); (fail_if_success (with_reducible show wpAny _ _ (pyIter _) _ _ _)); (fail_if_success (with_reducible show wpAny _ _ (call (Value.ref 177) _) _ _ _)); (fail_if_success (with_reducible show wpAny _ _ (call (Value.ref 132) _) _ _ _)); first | (k_unfold; (try dsimp only)) | ((with_reducible show wpAny _ _ (execs (_ :: _) _) _ _ (Shared.mk _ _ _ (HAdd.hAdd _ _) _)); refine genT ?_; intro tk9) | ((with_reducible show wpAny _ _ (exec _ _) _ _ _); (fail_if_success (fail_if_success k_fold)); refine letQ ?_; intro q9) | ((with_reducible show wpAny _ _ (execs (_ :: _) _) _ _ _); (with_reducible rename Fr _ _ _ _ => kF9); (fail_if_success (with_reducible have : Fr _ _ _ ‹Str → Option Value› := kF9)); refine letm kF9 ?_; clear kF9; intro m9 F9) | ktr_member | ((fail_if_success (with_reducible show (if _ then _ else _))); first | walk1 | (dsimp only; walk1)))
            rw [b2i_one]
            refine' Fn.use ?k1 ?k2 ?k3 ?k4 ?k5 ?kK (c_lost w lay _ _ ?kl ?kf (!e9) u9 (S₂.told e9) (S₂.lost e9) _ _ _ v9 _ ?kg ?kp) ?kd ?ku ?_
            (case k1 => k_asm)
            (case k2 => k_asm)
            (case k3 => k_asm)
            (case k4 => k_asm)
            (case k5 => k_asm)
            (case kK => first | exact rfl | assumption)
            (case kd => ktr_room)
            (case ku => ktr_units)
            (case kl => assumption)
            (case kf => exact Fix.put fx trivial)
            (case kg => mod_arm)
            (case kp => mod_arm)
            intro r9 W9 O9 h9 tk9 F9 N9 hl9 hs9 hP9
            (try dsimp only)
            (try k_sweep)
            obtain ⟨hW, rfl, hc⟩ := hP9
            subst hW
            have hX1 : ∀ x ∈ S₂.wire, x ∈ S₂.wire.eraseIdx (pick.fmod (wvs.length : Int)).toNat ∨ x = .lt e9 u9 v9 := fun x hx => mem_erase hx2 hx
            have hX2 : ∀ x ∈ S₂.wire.eraseIdx (pick.fmod (wvs.length : Int)).toNat, x ∈ S₂.wire := fun x hx => of_erase hx
            have kT : Ok { S₂ with lost := set2 S₂.lost e9 u9 true } nk (S₂.wire.eraseIdx (pick.fmod (wvs.length : Int)).toNat) := K4.lost hX1 hX2 (fun h => nomatch h)
            rcases hc with ⟨hv, rfl⟩ | ⟨hv, rfl⟩
            · by_cases hL : S₂.lost e9 u9 = true
              · repeat' ((fail_if_success (with_reducible show LCg.CompSrc _ _ _ _ _ _ _ _ _ _ _ _ _ _)); (fail_if_success (with_reducible show LCt.CompSrcT _ _ _ _ _ _ _ _ _ _ _ _ _ _ _)); (fail_if_success (with_reducible show wpAny _ _ (pyIter _) _ _ _)); (fail_if_success (with_reducible show wpAny _ _ (call (Value.ref 177) _) _ _ _)); (fail_if_success (with_reducible show wpAny _ _ (call (Value.ref 132) _) _ _ _)); first | (k_unfold; (try dsimp only)) | ((with_reducible show wpAny _ _ (execs (_ :: _) _) _ _ (Shared.mk _ _ _ (HAdd.hAdd _ _) _)); refine genT ?_; intro tk9) | ((with_reducible show wpAny _ _ (exec _ _) _ _ _); (fail_if_success (fail_if_success k_fold)); refine letQ ?_; intro q9) | ((with_reducible show wpAny _ _ (execs (_ :: _) _) _ _ _); (with_reducible rename Fr _ _ _ _ => kF9); (fail_if_success (with_reducible have : Fr _ _ _ ‹Str → Option Value› := kF9)); refine letm kF9 ?_; clear kF9; intro m9 F9) | ktr_member | ((fail_if_success (with_reducible show (if _ then _ else _))); first | walk1 | (dsimp only; walk1)))
                exact ret _ ((_, _) :: W) _ _ _ (by k_asm) (by k_asm) (by assumption) (fun _ h => .tail _ h) ⟨rfl, { S₂ with wire := S₂.wire.eraseIdx (pick.fmod (wvs.length : Int)).toNat, lost := set2 S₂.lost e9 u9 true }, (by rw [hL]; exact ((R6 _).lost2 e9 u9 _ _ true).mono fun _ h => .tail _ h), (kT.mono (by omega)).wire _ herl, hsp⟩
              · have h2 : (S₂.told e9 u9 == v9) = true := by simp [hv]
                repeat' ((fail_if_success (with_reducible show LCg.CompSrc _ _ _ _ _ _ _ _ _ _ _ _ _ _)); (fail_if_success (with_reducible show LCt.CompSrcT _ _ _ _ _ _ _ _ _ _ _ _ _ _ _)); (fail_if_success (with_reducible show wpAny _ _ (pyIter _) _ _ _)); (fail_if_success (with_reducible show wpAny _ _ (call (Value.ref 177) _) _ _ _)); (fail_if_success (with_reducible show wpAny _ _ (call (Value.ref 132) _) _ _ _)); first | (k_unfold; (try dsimp only)) | ((with_reducible show wpAny _ _ (execs (_ :: _) _) _ _ (Shared.mk _ _ _ (HAdd.hAdd _ _) _)); refine genT ?_; intro tk9) | ((with_reducible show wpAny _ _ (exec _ _) _ _ _); (fail_if_success (fail_if_success k_fold)); refine letQ ?_; intro q9) | ((with_reducible show wpAny _ _ (execs (_ :: _) _) _ _ _); (with_reducible rename Fr _ _ _ _ => kF9); (fail_if_success (with_reducible have : Fr _ _ _ ‹Str → Option Value› := kF9)); refine letm kF9 ?_; clear kF9; intro m9 F9) | ktr_member | ((fail_if_success (with_reducible show (if _ then _ else _))); first | walk1 | (dsimp only; walk1)))
                exact ret _ ((_, _) :: W) _ _ _ (by k_asm) (by k_asm) (by assumption) (fun _ h => .tail _ h) ⟨rfl, { S₂ with wire := S₂.wire.eraseIdx (pick.fmod (wvs.length : Int)).toNat, lost := set2 S₂.lost e9 u9 true }, (by rw [h2]; exact ((R6 _).lost2 e9 u9 _ _ true).mono fun _ h => .tail _ h), (kT.mono (by omega)).wire _ herl, hsp⟩
            · have kF : Ok S₂ nk (S₂.wire.eraseIdx (pick.fmod (wvs.length : Int)).toNat) := by
                have q := K4.lost (e := e9) (u := u9) (v := v9) (b := S₂.lost e9 u9) hX1 hX2 (fun h => ⟨h, hv⟩)
                rw [set2_id] at q
                exact q
              by_cases hL : S₂.lost e9 u9 = true
              · repeat' ((fail_if_success (with_reducible show LCg.CompSrc _ _ _ _ _ _ _ _ _ _ _ _ _ _)); (fail_if_success (with_reducible show LCt.CompSrcT _ _ _ _ _ _ _ _ _ _ _ _ _ _ _)); (fail_if_success (with_reducible show wpAny _ _ (pyIter _) _ _ _)); (fail_if_success (with_reducible show wpAny _ _ (call (Value.ref 177) _) _ _ _)); (fail_if_success (with_reducible show wpAny _ _ (call (Value.ref 132) _) _ _ _)); first | (k_unfold; (try dsimp only)) | ((with_reducible show wpAny _ _ (execs (_ :: _) _) _ _ (Shared.mk _ _ _ (HAdd.hAdd _ _) _)); refine genT ?_; intro tk9) | ((with_reducible show wpAny _ _ (exec _ _) _ _ _); (fail_if_success (fail_if_success k_fold)); refine letQ ?_; intro q9) | ((with_reducible show wpAny _ _ (execs (_ :: _) _) _ _ _); (with_reducible rename Fr _ _ _ _ => kF9); (fail_if_success (with_reducible have : Fr _ _ _ ‹Str → Option Value› := kF9)); refine letm kF9 ?_; clear kF9; intro m9 F9) | ktr_member | ((fail_if_success (with_reducible show (if _ then _ else _))); first | walk1 | (dsimp only; walk1)))
                exact ret _ ((_, _) :: W) _ _ _ (by k_asm) (by k_asm) (by assumption) (fun _ h => .tail _ h) ⟨rfl, { S₂ with wire := S₂.wire.eraseIdx (pick.fmod (wvs.length : Int)).toNat }, ((R6 _).lost1 e9 u9 _).mono fun _ h => .tail _ h, (kF.mono (by omega)).wire _ herl, hsp⟩
              · have h2 : (S₂.told e9 u9 == v9) = S₂.lost e9 u9 := by rw [show S₂.lost e9 u9 = false by simpa using hL]; simpa using hv
                repeat' ((fail_if_success (with_reducible show LCg.CompSrc _ _ _ _ _ _ _ _ _ _ _ _ _ _)); (fail_if_success (with_reducible show LCt.CompSrcT _ _ _ _ _ _ _ _ _ _ _ _ _ _ _)); (fail_if_success (with_reducible show wpAny _ _ (pyIter _) _ _ _)); (fail_if_success (with_reducible show wpAny _ _ (call (Value.ref 177) _) _ _ _)); (fail_if_success (with_reducible show wpAny _ _ (call (Value.ref 132) _) _ _ _)); first | (k_unfold; (try dsimp only)) | ((with_reducible show wpAny _ _ (execs (_ :: _) _) _ _ (Shared.mk _ _ _ (HAdd.hAdd _ _) _)); refine genT ?_; intro tk9) | ((with_reducible show wpAny _ _ (exec _ _) _ _ _); (fail_if_success (fail_if_success k_fold)); refine letQ ?_; intro q9) | ((with_reducible show wpAny _ _ (execs (_ :: _) _) _ _ _); (with_reducible rename Fr _ _ _ _ => kF9); (fail_if_success (with_reducible have : Fr _ _ _ ‹Str → Option Value› := kF9)); refine letm kF9 ?_; clear kF9; intro m9 F9) | ktr_member | ((fail_if_success (with_reducible show (if _ then _ else _))); first | walk1 | (dsimp only; walk1)))
                exact ret _ ((_, _) :: W) _ _ _ (by k_asm) (by k_asm) (by assumption) (fun _ h => .tail _ h) ⟨rfl, { S₂ with wire := S₂.wire.eraseIdx (pick.fmod (wvs.length : Int)).toNat }, (by rw [h2]; exact ((R6 _).lost1 e9 u9 _).mono fun _ h => .tail _ h), (kF.mono (by omega)).wire _ herl, hsp⟩
        · have f4 : ¬ (form == 3) = true := by simpa using hF
          have f5 : (form == 4) = true := by rw [show form = 4 by omega]; rfl
          by_cases hG : 3 < pick
          · have f6 : decide (3 < pick) = true := decide_eq_true hG
            repeat' ((fail_if_success (with_reducible show LCg.CompSrc _ _ _ _ _ _ _ _ _ _ _ _ _ _)); (fail_if_success (with_reducible show LCt.CompSrcT _ _ _ _ _ _ _ _ _ _ _ _ _ _ _)); (fail_if_success (with_reducible show wpAny _ _ (pyIter _) _ _ _)); (fail_if_success (with_reducible show wpAny _ _ (call (Value.ref 177) _) _ _ _)); first | (k_unfold; (try dsimp only)) | ((with_reducible show wpAny _ _ (execs (_ :: _) _) _ _ (Shared.mk _ _ _ (HAdd.hAdd _ _) _)); refine genT ?_; intro tk9) | ((with_reducible show wpAny _ _ (exec _ _) _ _ _); (fail_if_success (fail_if_success k_fold)); refine letQ ?_; intro q9) | ((with_reducible show wpAny _ _ (execs (_ :: _) _) _ _ _); (with_reducible rename Fr _ _ _ _ => kF9); (fail_if_success (with_reducible have : Fr _ _ _ ‹Str → Option Value› := kF9)); refine letm kF9 ?_; clear kF9; intro m9 F9) | ktr_member | ((fail_if_success (with_reducible show (if _ then _ else _))); first | walk1 | (dsimp only; walk1)))
            refine' Fn.use ?k1 ?k2 ?k3 ?k4 ?k5 ?kK (c_comes w lay _ _ ?kl { S₂ with wire := S₂.wire.eraseIdx (pick.fmod (wvs.length : Int)).toNat } ?kr wa items wd ?km hx4 ?kk ?b0 ?b1 ?b2 ?b3) ?kd ?ku ?_
            (case k1 => k_asm)
            (case k2 => k_asm)
            (case k3 => k_asm)
            (case k4 => k_asm)
            (case k5 => k_asm)
            (case kK => first | exact rfl | assumption)
            (case kd => ktr_room)
            (case ku => ktr_units)
            (case kl => assumption)
            (case kr => exact (R4.wire1 _ _ _ (hww.erase (pick.fmod (wvs.length : Int)).toNat)).mono fun _ h => .tail _ h)
            (case km => exact .tail _ hx3)
            (case b0 => exact K4.k0)
            (case b1 => exact K4.k1)
            (case b2 => exact fun x y => Int.le_trans (K4.k2 x y) (K4.k3 x y))
            (case b3 => exact fun x y => (by have := K4.told_lt x y; show S₂.told x y < 500; omega))
            (case kk => (have := hgood.ok; cases wd <;> exact this))
            intro r9 W9 O9 h9 tk9 F9 N9 hl9 hs9 hP9
            (try dsimp only)
            (try k_sweep)
            obtain ⟨rfl, R7⟩ := hP9
            repeat' ((fail_if_success (with_reducible show LCg.CompSrc _ _ _ _ _ _ _ _ _ _ _ _ _ _)); (fail_if_success (with_reducible show LCt.CompSrcT _ _ _ _ _ _ _ _ _ _ _ _ _ _ _)); (fail_if_success (with_reducible show wpAny _ _ (pyIter _) _ _ _)); (fail_if_success (with_reducible show wpAny _ _ (call (Value.ref 177) _) _ _ _)); first | (k_unfold; (try dsimp only)) | ((with_reducible show wpAny _ _ (execs (_ :: _) _) _ _ (Shared.mk _ _ _ (HAdd.hAdd _ _) _)); refine genT ?_; intro tk9) | ((with_reducible show wpAny _ _ (exec _ _) _ _ _); (fail_if_success (fail_if_success k_fold)); refine letQ ?_; intro q9) | ((with_reducible show wpAny _ _ (execs (_ :: _) _) _ _ _); (with_reducible rename Fr _ _ _ _ => kF9); (fail_if_success (with_reducible have : Fr _ _ _ ‹Str → Option Value› := kF9)); refine letm kF9 ?_; clear kF9; intro m9 F9) | ktr_member | ((fail_if_success (with_reducible show (if _ then _ else _))); first | walk1 | (dsimp only; walk1)))
            have K7 := K4.comes hwdm (X' := S₂.wire.eraseIdx (pick.fmod (wvs.length : Int)).toNat) (fun x hx => mem_erase hx2 hx) (fun x hx => of_erase hx)
            have herl : (S₂.wire.eraseIdx (pick.fmod (wvs.length : Int)).toNat).length ≤ nk + 2 := by
              have := List.length_eraseIdx_le S₂.wire (pick.fmod (wvs.length : Int)).toNat
              omega
            exact ret _ W9 O9 _ _ (by k_asm) (by k_asm) (by assumption) (fun q h => hs9 q (.tail _ h)) ⟨rfl, _, R7, by cases wd <;> exact (K7.mono (by omega)).wire _ herl, by cases wd <;> exact hsp⟩
          · have f6 : ¬ decide (3 < pick) = true := by rw [decide_eq_true_eq]; exact hG
            repeat' ((fail_if_success (with_reducible show LCg.CompSrc _ _ _ _ _ _ _ _ _ _ _ _ _ _)); (fail_if_success (with_reducible show LCt.CompSrcT _ _ _ _ _ _ _ _ _ _ _ _ _ _ _)); (fail_if_success (with_reducible show wpAny _ _ (pyIter _) _ _ _)); (fail_if_success (with_reducible show wpAny _ _ (call (Value.ref 177) _) _ _ _)); first | (k_unfold; (try dsimp only)) | ((with_reducible show wpAny _ _ (execs (_ :: _) _) _ _ (Shared.mk _ _ _ (HAdd.hAdd _ _) _)); refine genT ?_; intro tk9) | ((with_reducible show wpAny _ _ (exec _ _) _ _ _); (fail_if_success (fail_if_success k_fold)); refine letQ ?_; intro q9) | ((with_reducible show wpAny _ _ (execs (_ :: _) _) _ _ _); (with_reducible rename Fr _ _ _ _ => kF9); (fail_if_success (with_reducible have : Fr _ _ _ ‹Str → Option Value› := kF9)); refine letm kF9 ?_; clear kF9; intro m9 F9) | ktr_member | ((fail_if_success (with_reducible show (if _ then _ else _))); first | walk1 | (dsimp only; walk1)))
            refine' Fn.use ?k1 ?k2 ?k3 ?k4 ?k5 ?kK (c_comes w lay _ _ ?kl S₂ ?kr wa items wd ?km hx4 ?kk ?b0 ?b1 ?b2 ?b3) ?kd ?ku ?_
            (case k1 => k_asm)
            (case k2 => k_asm)
            (case k3 => k_asm)
            (case k4 => k_asm)
            (case k5 => k_asm)
            (case kK => first | exact rfl | assumption)
            (case kd => ktr_room)
            (case ku => ktr_units)
            (case kl => assumption)
            (case kr => exact R4.mono fun _ h => .tail _ h)
            (case km => exact .tail _ hx3)
            (case b0 => exact K4.k0)
            (case b1 => exact K4.k1)
            (case b2 => exact fun x y => Int.le_trans (K4.k2 x y) (K4.k3 x y))
            (case b3 => exact fun x y => (by have := K4.told_lt x y; show S₂.told x y < 500; omega))
            (case kk => exact hgood.ok)
            intro r9 W9 O9 h9 tk9 F9 N9 hl9 hs9 hP9
            (try dsimp only)
            (try k_sweep)
            obtain ⟨rfl, R7⟩ := hP9
            repeat' ((fail_if_success (with_reducible show LCg.CompSrc _ _ _ _ _ _ _ _ _ _ _ _ _ _)); (fail_if_success (with_reducible show LCt.CompSrcT _ _ _ _ _ _ _ _ _ _ _ _ _ _ _)); (fail_if_success (with_reducible show wpAny _ _ (pyIter _) _ _ _)); (fail_if_success (with_reducible show wpAny _ _ (call (Value.ref 177) _) _ _ _)); first | (k_unfold; (try dsimp only)) | ((with_reducible show wpAny _ _ (execs (_ :: _) _) _ _ (Shared.mk _ _ _ (HAdd.hAdd _ _) _)); refine genT ?_; intro tk9) | ((with_reducible show wpAny _ _ (exec _ _) _ _ _); (fail_if_success (fail_if_success k_fold)); refine letQ ?_; intro q9) | ((with_reducible show wpAny _ _ (execs (_ :: _) _) _ _ _); (with_reducible rename Fr _ _ _ _ => kF9); (fail_if_success (with_reducible have : Fr _ _ _ ‹Str → Option Value› := kF9)); refine letm kF9 ?_; clear kF9; intro m9 F9) | ktr_member | ((fail_if_success (with_reducible show (if _ then _ else _))); first | walk1 | (dsimp only; walk1)))
            have K7 := K4.comes hwdm (X' := S₂.wire) (fun x hx => .inl hx) (fun x hx => hx)
            exact ret _ W9 O9 _ _ (by k_asm) (by k_asm) (by assumption) (fun q h => hs9 q (.tail _ h)) ⟨rfl, _, R7, by cases wd <;> exact K7.mono (by omega), by cases wd <;> exact hsp⟩
end

end

/-! part Q1 -/
section
open PySem PySem.W PySem.Calls PyProof.Rows PySem.Spec PyProof.Rows.LCg
section
variable {prog : Program} {w : World} {A : Around} {E : Value → Shared → Prop} {s : Shared} {h₀ : Heap} {L : Addr} {m : Str → Option Value} {env : Env} {ct elt iter tgt : PySem.Expr} {scope : Scope} {cl : List (Str × Addr)} {pos : Pos} {ax : Addr} {its : Array Value}
  {Inv : Nat → Led → Prop} {Bd : Nat → Value → Led → (Str → Option Value) → Prop}
/-- the loop's variables bound -/
noncomputable def AsgOk (prog : Program) (w : World) (A : Around) (h₀ : Heap) (L : Addr) (env : Env) (tgt : PySem.Expr) (scope : Scope) (cl : List (Str × Addr)) (its : Array Value) (Inv : Nat → Led → Prop) (Bd : Nat → Value → Led → (Str → Option Value) → Prop) : Prop :=
  ∀ (C I : Addr) (i : Nat) (v : Value) (m' : Str → Option Value) (news : Led) (s' : Shared) (Q' : Unit → Shared → Prop) (E' : Value → Shared → Prop), its[i]? = some v → Inv i news → News h₀ L s'.heap news → (∃ l j, s'.heap.IsListIter I l j) → s'.heap.Ns C m' →
    (∀ h₃ tk₃ m₃, h₃.Ns C m₃ → Bd i v news m₃ → (∀ b o, b ≠ C → s'.heap.get? b = some o → h₃.get? b = some o) → Q' () { s' with heap := h₃, toks := tk₃ }) →
    wpAny (model prog w) A (letOwnedTupleGo tgt (.ref I) v) (fun _ s₀ => wpAny (model prog w) A (assign tgt (compEnvC scope cl C env) v) Q' E' s₀) E' s'
/-- a test that says no -/
noncomputable def TestNo (h₀ : Heap) (L : Addr) (m : Str → Option Value) (s : Shared) (I : Addr) (oI : Obj) (C : Addr) (oC : Obj) (D : Addr) (Inv : Led → Prop) (ok : Bool) (s' : Shared) : Prop :=
  ok = false ∧ ∃ h' tk' news', s' = { s with heap := h', toks := tk' } ∧ Fr h₀ L h' m ∧ News h₀ L h' ((I, oI) :: (C, oC) :: (D, lst []) :: news') ∧ Off3 I C D news' ∧ Inv news'
noncomputable def TurnNo (prog : Program) (w : World) (A : Around) (h₀ : Heap) (L : Addr) (m : Str → Option Value) (env : Env) (ct : PySem.Expr) (scope : Scope) (cl : List (Str × Addr)) (s : Shared) (its : Array Value) (Inv : Nat → Led → Prop) (Bd : Nat → Value → Led → (Str → Option Value) → Prop) : Prop :=
  ∀ (i : Nat) (v : Value) (news : Led) (I : Addr) (oI : Obj) (C : Addr) (oC : Obj) (D : Addr) (m₂ : Str → Option Value) (h : Heap) (tk : Nat) (E' : Value → Shared → Prop), its[i]? = some v → Inv i news → oI.cls ≠ .type "tuple" → NsObj oC m₂ → Bd i v news m₂ → Fr h₀ L h m →
    News h₀ L h ((I, oI) :: (C, oC) :: (D, lst []) :: news) → Off3 I C D news → ((@Ne Nat I C) ∧ (@Ne Nat I D) ∧ (@Ne Nat C D)) →
    wpAny (model prog w) A (isTrue ct (compEnvC scope cl C env) (eval ct (compEnvC scope cl C env))) (TestNo h₀ L m s I oI C oC D (Inv (i + 1))) E' { s with heap := h, toks := tk }
theorem block_none {s₂ : Shared} {I : Addr} {news : Led} {RR : Value → Addr → Result → Shared → Prop} (hh : A.handled = none) (hne : ax ≠ I)
    (hcell : ∀ y ∈ scope.names, y.2 ≠ .cell) (hkind : scope.kind = .function) (hst : s₂.heap.IsListIter I ax 0 ∧ s₂.heap.IsList ax its) (hax : ax < s₂.heap.objs.size)
    (F : Fr h₀ L s₂.heap m) (N : News h₀ L s₂.heap news) (hIL : L ≠ I) (hI₀ : h₀.get? I = none) (off : ∀ p ∈ news, p.1 ≠ I) (hS : ∀ i news, Inv i news → SrcAt h₀ ax its news) (hI : Inv 0 news)
    (asg : AsgOk prog w A h₀ L env tgt scope cl its Inv Bd) (turn : TurnNo prog w A h₀ L m env ct scope cl s₂ its Inv Bd)
    (hRR : ∀ D C h tk m' news', Fr h₀ L h m → News h₀ L h ((D, lst []) :: news') → Off1 D news' → h.Ns C m' → h₀.get? C = none → h₀.get? D = none → C ≠ L → D ≠ L → C ≠ D → (∀ p ∈ news', p.1 ≠ C) → Inv its.size news' → RR (.ref D) C (.ok .next) { s₂ with heap := h, toks := tk }) :
    wpAny (model prog w) A (newList []) (fun acc s₃ => wpAny (model prog w) A (newFunctionEnv scope env.globals cl [] env.qual none .none (some env)) (fun cenv s₄ =>
      codeAny (model prog w) A (.compStart (.ListComp elt [⟨tgt, iter, [ct], 0⟩] scope pos) 0 (.ref I) acc { cenv with scope := relabel scope env }) (RR acc cenv.locals) s₄) E s₃) E s₂ := by
  have W := Walks.list (prog := prog) (w := w) hh I ax hne its
  refine wpAny_newObj_type (wpAny_newFunctionEnv hcell (by intro y hy; simp at hy) (fun h₁ hns₁ hsb₁ => ?_) hkind)
  dsimp only at hns₁ hsb₁ ⊢
  generalize hH2 : s₂.heap.push { cls := .type "list", dict := none, data := .seq ([] : List Value).toArray } = H2 at hns₁ hsb₁ ⊢
  have hC : H2.objs.size = s₂.heap.objs.size + 1 := by rw [← hH2, Heap.size_push]
  have hDC : s₂.heap.objs.size ≠ H2.objs.size := by rw [hC]; exact Nat.ne_of_lt (Nat.lt_succ_self _)
  have below : ∀ b, b < s₂.heap.objs.size → b ≠ H2.objs.size ∧ b ≠ s₂.heap.objs.size := fun b hb => ⟨by rw [hC]; exact Nat.ne_of_lt (Nat.lt_succ_of_lt hb), Nat.ne_of_lt hb⟩
  have hIlt : I < s₂.heap.objs.size := by obtain ⟨_, e, _⟩ := hst.1; exact Heap.lt_size e
  have old : ∀ b o, s₂.heap.get? b = some o → h₁.get? b = some o := fun b o e => hsb₁.extBut b o (below b (Heap.lt_size e)).1 (Heap.get?_push_of_some _ (hH2 ▸ Heap.get?_push_of_some _ e))
  have hacc : h₁.get? s₂.heap.objs.size = some (lst []) := hsb₁.extBut _ _ hDC (Heap.get?_push_of_some _ (hH2 ▸ Heap.get?_push_size _ rfl))
  have hst₁ : h₁.IsListIter I ax 0 ∧ h₁.IsList ax its := W.frame _ _ _ hst fun b _ o e => old b o e
  have fresh₀ : ∀ a, s₂.heap.objs.size ≤ a → h₀.get? a = none := fun a ha => by
    cases e : h₀.get? a with
    | none => rfl
    | some o' => exact absurd (Heap.lt_size (F.keep a o' e)) (Nat.not_lt.mpr ha)
  have hD₀ : h₀.get? s₂.heap.objs.size = none := fresh₀ _ (Nat.le_refl _)
  have hC₀ : h₀.get? H2.objs.size = none := fresh₀ _ (by rw [hC]; exact Nat.le_succ _)
  have hLlt : L < s₂.heap.objs.size := F.ns.lt
  have hDL : s₂.heap.objs.size ≠ L := Ne.symm (below L hLlt).2
  have hCL : H2.objs.size ≠ L := Ne.symm (below L hLlt).1
  have hCI : I ≠ H2.objs.size := (below I hIlt).1
  have hDI : I ≠ s₂.heap.objs.size := (below I hIlt).2
  have hCa : ax ≠ H2.objs.size := (below ax hax).1
  have off₀ : Off3 I H2.objs.size s₂.heap.objs.size news := Off3.of fun p hp => ⟨off p hp, (below _ (Heap.lt_size (N p hp).1)).1, (below _ (Heap.lt_size (N p hp).1)).2⟩
  have loop : ∀ s₃ : Shared, s₃ = { s₂ with heap := h₁, toks := s₂.toks + ([] : List (Str × Value)).length } →
      codeAny (model prog w) A (.compLoop (.ListComp elt [⟨tgt, iter, [ct], 0⟩] scope pos) 0 (.ref I) (.ref s₂.heap.objs.size) (compEnvC scope cl H2.objs.size env))
        (RR (.ref s₂.heap.objs.size) H2.objs.size) s₃ := by
    rintro s₃ rfl
    refine kct_loop
      (fun k s' => ∃ h' tk i m' news', s' = { s₂ with heap := h', toks := tk } ∧ i ≤ its.size ∧ k = its.size + 1 - i ∧ (h'.IsListIter I ax i ∧ h'.IsList ax its) ∧ Fr h₀ L h' m ∧ h'.Ns H2.objs.size m' ∧ News h₀ L h' ((s₂.heap.objs.size, lst []) :: news') ∧
        Off3 I H2.objs.size s₂.heap.objs.size news' ∧ Inv i news') ?_ (its.size + 1)
      ⟨h₁, _, 0, _, news, rfl, Nat.zero_le _, rfl, hst₁, F.keeps old, hns₁, fun p hp => ?_, off₀, hI⟩
    · rintro k s' ⟨h', tk, i, m', news', rfl, hi, rfl, hst', F', hn', N', off', hI'⟩
      have off3 := off'.mem
      by_cases hlt : i < its.size
      · refine W.item i _ _ _ hlt hst' fun v h₂ tk₂ hPv hst₂ hk₂ => ?_
        have N₂ : News h₀ L h₂ ((s₂.heap.objs.size, lst []) :: news') := LCg.news_but N' hk₂ fun p hp => by
          rcases List.mem_cons.mp hp with rfl | hp
          · exact Ne.symm hDI
          · exact (off3 p hp).1
        refine asg H2.objs.size I i v m' news' _ _ _ hPv hI' (fun p hp => N₂ p (List.mem_cons_of_mem _ hp)) ⟨_, _, hst₂.1⟩ (hn'.at' fun o e => hk₂ _ o (by simpa using Ne.symm hCI) e) fun h₃ tk₃ m₃ hn₃ hb₃ old3 => ?_
        have hst₃ : h₃.IsListIter I ax (i + 1) ∧ h₃.IsList ax its := W.frame _ _ _ hst₂ fun b hb o e => old3 b o (fun q => by
          rw [q] at hb
          rcases List.mem_cons.mp hb with hb | hb
          · exact hCI hb.symm
          · exact hCa (List.mem_singleton.mp hb).symm) e
        obtain ⟨oI, heI, hcI, hdI⟩ := id hst₃.1
        obtain ⟨oC, heC, hoC⟩ := ns_obj hn₃
        have F₂ := LCg.fr_but F' hk₂ hIL hI₀
        have F₃ : Fr h₀ L h₃ m := ⟨F₂.ns.at' fun o e => old3 _ o (Ne.symm hCL) e, fun c o e => old3 c o (fun q => by rw [q, hC₀] at e; cases e) (F₂.keep c o e), F'.above⟩
        have N₃ : News h₀ L h₃ ((I, oI) :: (H2.objs.size, oC) :: (s₂.heap.objs.size, lst []) :: news') := fun p hp => by
          rcases List.mem_cons.mp hp with rfl | hp
          · exact ⟨heI, Ne.symm hIL, hI₀⟩
          · rcases List.mem_cons.mp hp with rfl | hp
            · exact ⟨heC, hCL, hC₀⟩
            · have z := N₂ p hp
              refine ⟨old3 _ _ ?_ z.1, z.2⟩
              rcases List.mem_cons.mp hp with rfl | hp
              · exact hDC
              · exact (off3 p hp).2.1
        refine wpAny_mono (turn i v news' I oI H2.objs.size oC s₂.heap.objs.size _ h₃ _ _ hPv hI' (fun q => by rw [hcI] at q; exact absurd (Value.type.inj q) (by decide)) hoC hb₃ F₃ N₃ off' ⟨hCI, hDI, Ne.symm hDC⟩) (fun ok s₄ h₄ => ?_) fun _ _ e => e
        obtain ⟨rfl, h₅, tk₅, news₅, rfl, F₅, N₅, off₅, hI₅⟩ := h₄
        rw [if_neg Bool.false_ne_true]
        have zI := (N₅ (I, oI) List.mem_cons_self).1
        have zC := (N₅ (H2.objs.size, oC) (List.mem_cons_of_mem _ List.mem_cons_self)).1
        have N₅' : News h₀ L h₅ news₅ := fun p hp => N₅ p (List.mem_cons_of_mem _ (List.mem_cons_of_mem _ (List.mem_cons_of_mem _ hp)))
        have hst₅ : h₅.IsListIter I ax (i + 1) ∧ h₅.IsList ax its := list_st _ _ _ _ _ hst₃ heI zI F₅.keep N₅' (hS _ _ hI₅)
        exact ⟨its.size + 1 - (i + 1), by omega, h₅, tk₅, i + 1, _, news₅, rfl, hlt, rfl, hst₅, F₅, hoC.ns zC, fun p hp => N₅ p (List.mem_cons_of_mem _ (List.mem_cons_of_mem _ hp)), off₅, hI₅⟩
      · obtain rfl : i = its.size := Nat.le_antisymm hi (Nat.not_lt.mp hlt)
        refine W.done _ _ _ hst' fun h₂ tk₂ hk₂ => ?_
        exact hRR _ _ h₂ tk₂ _ news' (LCg.fr_but F' hk₂ hIL hI₀) (LCg.news_but N' hk₂ fun p hp => by
          rcases List.mem_cons.mp hp with rfl | hp
          · exact Ne.symm hDI
          · exact (off3 p hp).1) off'.one (hn'.at' fun o e => hk₂ _ o (by simpa using Ne.symm hCI) e) hC₀ hD₀ hCL hDL (Ne.symm hDC) (fun p hp => (off3 p hp).2.1) hI'
    · rcases List.mem_cons.mp hp with rfl | hp
      · exact ⟨hacc, hDL, hD₀⟩
      · exact ⟨old _ _ (N p hp).1, (N p hp).2⟩
  exact codeAny_compStart_list (loop _ rfl) (W.self 0 _ _ _ hst₁ (loop _ rfl))
/-- where the comprehension's source is at hand -/
noncomputable def SrcNo (prog : Program) (w : World) (A : Around) (h₀ : Heap) (L : Addr) (m : Str → Option Value) (env : Env) (ct tgt : PySem.Expr) (scope : Scope) (cl : List (Str × Addr)) (Fin : Shared → Led → Prop) (xv : Value) (s₁ : Shared) : Prop :=
  ∃ ax its news Inv Bd, xv = .ref ax ∧ A.handled = none ∧ Fr h₀ L s₁.heap m ∧ News h₀ L s₁.heap news ∧ (∀ i news, Inv i news → SrcAt h₀ ax its news) ∧ Inv 0 news ∧ AsgOk prog w A h₀ L env tgt scope cl its Inv Bd ∧
    ∀ g, TurnNo prog w A h₀ L m env ct scope cl { s₁ with heap := g } its Inv Bd ∧ ∀ news', Inv its.size news' → Fin { s₁ with heap := g } news'
theorem ListComp_none {Q : Value → Shared → Prop} (F₀ : Fr h₀ L s.heap m)
    (hclos : closureFor scope env = pure cl) (hcell : ∀ y ∈ scope.names, y.2 ≠ .cell) (hkind : scope.kind = .function)
    (hnames : ∀ y ∈ scope.names, y.2 = .local → scope.names.lookup y.1 = some .local)
    (h : wpAny (model prog w) A (eval iter env) (SrcNo prog w A h₀ L m env ct tgt scope cl (fun s₂ news => FinE h₀ L m s₂ Q [] news)) E s)
    (hs : ∀ x, foldedSetIterable iter env x = pure x := by intro _; rfl) :
    wpAny (model prog w) A (eval (.ListComp elt [⟨tgt, iter, [ct], 0⟩] scope pos) env) Q E s := by
  rw [eval_ListComp]
  refine wpAny_comprehension_free (use := none) rfl hs hclos hkind hnames (wpAny_mono h (fun xv s₁ h₁ => ?_) fun _ _ e => e)
  obtain ⟨ax, its, news, Inv, Bd, rfl, hh, F, N, hS, hI, asg, R⟩ := h₁
  have hl := (hS _ _ hI).list F.keep N
  have hlt : ax < s₁.heap.objs.size := by obtain ⟨_, e, _⟩ := hl; exact Heap.lt_size e
  refine wpAny_pyIter_list hl ?_
  have up : ∀ b o, s₁.heap.get? b = some o → (s₁.heap.push { cls := .type "list_iterator", data := .fields #[.ref ax, .int 0 0] }).get? b = some o := fun b o e => Heap.get?_push_of_some _ e
  refine block_none hh (Nat.ne_of_lt hlt) hcell hkind ⟨⟨_, Heap.get?_push_size _ rfl, rfl, rfl⟩, hl.push _⟩ (by show ax < (s₁.heap.push _).objs.size; rw [Heap.size_push]; exact Nat.lt_succ_of_lt hlt)
    (F.keeps up) (N.grown up) (Nat.ne_of_lt F.ns.lt) (next_is_new F) (fun p hp => Nat.ne_of_lt (Heap.lt_size (N p hp).1)) hS hI asg (R (s₁.heap.push { cls := .type "list_iterator", data := .fields #[.ref ax, .int 0 0] })).1 ?_
  intro D C h tk m' news' F' N' o1 hn hC₀ hD₀ hCL hDL hCD offC fin
  refine ⟨m', hn, fun h'' hs'' => (R (s₁.heap.push { cls := .type "list_iterator", data := .fields #[.ref ax, .int 0 0] })).2 news' fin D h'' tk (F'.change hs'' hCL hC₀) (fun p hp => ?_) o1⟩
  refine ⟨hs''.extBut _ _ ?_ (N' p hp).1, (N' p hp).2⟩
  rcases List.mem_cons.mp hp with rfl | hp
  · exact Ne.symm hCD
  · exact offC p hp
end
end

/-! part Q2 -/
section
open PySem PySem.W PySem.Calls PyProof.Rows PySem.Spec PyProof.Rows.LCg
noncomputable def pe (i : Nat) : Bool := decide (2 ≤ i)
noncomputable def ps (i : Nat) : Bool := i % 2 == 1
noncomputable def Every (C : Led) (ev : Addr) : Prop := ∃ (ts : Nat → Addr) (n : Nat), (ev, listOf #[.ref (ts 0), .ref (ts 1), .ref (ts 2), .ref (ts 3)] n) ∈ C ∧ ∀ i, i < 4 → ∃ ta tb, (ts i, tupOf [.int (b2i (pe i)) ta, .int (b2i (ps i)) tb]) ∈ C
theorem Every.mono {C C' : Led} {ev : Addr} (h : Every C ev) (k : ∀ p ∈ C, p ∈ C') : Every C' ev :=
  let ⟨ts, n, a, b⟩ := h; ⟨ts, n, k _ a, fun i hi => let ⟨ta, tb, q⟩ := b i hi; ⟨ta, tb, k _ q⟩⟩
theorem Words.drop3 {W : Led} {I Cn D : Addr} (h1 : ∀ a items, (a, tupOf items) ∈ W → a ≠ I ∧ a ≠ Cn ∧ a ≠ D) {vs : List Value} {ws : List Wd} (h : Words W vs ws) : Words (W.filter fun p => p.1 != I && p.1 != Cn && p.1 != D) vs ws := by
  induction h with
  | nil => exact .nil
  | @cons a items wd vs ws m q r ih =>
    refine .cons (List.mem_filter.mpr ⟨m, ?_⟩) q ih
    have := h1 a items m
    simp [this.1, this.2.1, this.2.2]
section
variable {w : World} {A : Around} {E : Value → Shared → Prop} {s : Shared} {h₀ : Heap} {L : Addr} {m : Str → Option Value} {env : Env} {lay : Slot → Addr} {W C : Led} {O : Slot → Obj} {S : St} {ct elt tgt : PySem.Expr} {scope : Scope} {cl : List (Str × Addr)} {ax : Addr} {its : Array Value} {n : Nat}
noncomputable def TestR (w : World) (h₀ : Heap) (L : Addr) (m : Str → Option Value) (s : Shared) (lay : Slot → Addr) (W₁ : Led) (J : St → Prop) (ok : Bool) (s' : Shared) : Prop :=
  ok = false ∧ ∃ h' tk' W' O' S', s' = { s with heap := h', toks := tk' } ∧ Fr h₀ L h' m ∧ News h₀ L h' (W' ++ Lg lay O') ∧ Lay lay W' ∧ (∀ p ∈ W₁, p ∈ W') ∧ Rel w lay W' O' S' ∧ J S'
theorem TestR.intro {ok : Bool} {W₁ W' : Led} {O' : Slot → Obj} {S' : St} {J : St → Prop} {h' : Heap} {tk' : Nat} (e : ok = false) (F : Fr h₀ L h' m) (N : News h₀ L h' (W' ++ Lg lay O')) (hl : Lay lay W') (hs : ∀ p ∈ W₁, p ∈ W') (R : Rel w lay W' O' S') (j : J S') : TestR w h₀ L m s lay W₁ J ok { s with heap := h', toks := tk' } :=
  ⟨e, h', tk', W', O', S', rfl, F, N, hl, hs, R, j⟩
noncomputable def InvR (w : World) (lay : Slot → Addr) (C : Led) (J : Nat → St → Prop) (i : Nat) (news : Led) : Prop := ∃ W O S, news = W ++ Lg lay O ∧ Lay lay W ∧ (∀ p ∈ C, p ∈ W) ∧ Rel w lay W O S ∧ J i S
theorem comp_led {J : Nat → St → Prop} {Bd : Nat → Value → (Str → Option Value) → Prop} {Fin : Shared → Led → Prop} (hh : A.handled = none) (F : Fr h₀ L s.heap m) (N : News h₀ L s.heap (W ++ Lg lay O)) (hl : Lay lay W) (R : Rel w lay W O S) (hC : ∀ p ∈ C, p ∈ W) (src : (ax, listOf its n) ∈ C) (hJ : J 0 S)
    (asg : AsgOk PR w A h₀ L env tgt scope cl its (InvR w lay C J) (fun i v _ m₂ => Bd i v m₂))
    (test : ∀ (g : Heap) (i : Nat) (v : Value) (W₁ : Led) (O₁ : Slot → Obj) (S₁ : St) (I : Addr) (oI : Obj) (Cn : Addr) (oC : Obj) (D : Addr) (m₂ : Str → Option Value) (h : Heap) (tk : Nat) (E' : Value → Shared → Prop), its[i]? = some v → J i S₁ → Rel w lay ((I, oI) :: (Cn, oC) :: (D, lst []) :: W₁) O₁ S₁ → (∀ p ∈ C, p ∈ W₁) → NsObj oC m₂ → Bd i v m₂ → Fr h₀ L h m →
      News h₀ L h (((I, oI) :: (Cn, oC) :: (D, lst []) :: W₁) ++ Lg lay O₁) → Lay lay ((I, oI) :: (Cn, oC) :: (D, lst []) :: W₁) →
      wpAny (model PR w) A (isTrue ct (compEnvC scope cl Cn env) (eval ct (compEnvC scope cl Cn env))) (TestR w h₀ L m { s with heap := g } lay ((I, oI) :: (Cn, oC) :: (D, lst []) :: W₁) (J (i + 1))) E' { s with heap := h, toks := tk })
    (fin : ∀ g W' O' S', J its.size S' → Rel w lay W' O' S' → (∀ p ∈ C, p ∈ W') → Lay lay W' → Fin { s with heap := g } (W' ++ Lg lay O')) :
    SrcNo PR w A h₀ L m env ct tgt scope cl Fin (.ref ax) s := by
  refine ⟨ax, its, W ++ Lg lay O, InvR w lay C J, fun i v _ m₂ => Bd i v m₂, rfl, hh, F, N, ?_, ⟨W, O, S, rfl, hl, hC, R, hJ⟩, asg, fun g => ⟨?_, ?_⟩⟩
  · rintro i news ⟨W₁, O₁, S₁, rfl, _, c, _⟩
    exact .inr ⟨_, mem_W (c _ src), rfl, n, rfl⟩
  · rintro i v news I oI Cn oC D m₂ h tk E' hv ⟨W₁, O₁, S₁, rfl, hl₁, hC₁, R₁, J₁⟩ cI nC bd F₁ N₁ off ne
    have hl3 : Lay lay ((I, oI) :: (Cn, oC) :: (D, lst []) :: W₁) := lay_off3 hl₁ off
    have o3 := off.mem
    refine wpAny_mono (test g i v W₁ O₁ S₁ I oI Cn oC D m₂ h tk E' hv J₁ (R₁.mono fun p q => .tail _ (.tail _ (.tail _ q))) hC₁ nC bd F₁ N₁ hl3) (fun ok s' h₂ => ?_) fun _ _ e => e
    obtain ⟨rfl, h', tk', W', O', S', rfl, F', N', hl', hs', R', J'⟩ := h₂
    have htup : ∀ a items, (a, tupOf items) ∈ W' → a ≠ I ∧ a ≠ Cn ∧ a ≠ D := by
      intro a items ha
      have h1 := (N' _ (mem_W ha)).1
      refine ⟨fun q => ?_, fun q => ?_, fun q => ?_⟩
      · have h2 := (N' _ (mem_W (hs' _ (.head _)))).1
        rw [q] at h1
        have h3 := congrArg Obj.cls (Option.some.inj (h1.symm.trans h2))
        exact cI h3.symm
      · have h2 := (N' _ (mem_W (hs' _ (.tail _ (.head _))))).1
        rw [q] at h1
        have h3 := congrArg Obj.data (Option.some.inj (h1.symm.trans h2))
        obtain ⟨es, ep, hd, _⟩ := nC
        have h4 : (tupOf items).data = .dict es ep := h3.trans hd
        cases h4
      · have h2 := (N' _ (mem_W (hs' _ (.tail _ (.tail _ (.head _)))))).1
        rw [q] at h1
        have h3 := congrArg Obj.cls (Option.some.inj (h1.symm.trans h2))
        exact absurd (Value.type.inj h3) (by decide)
    let W'' := W'.filter fun p => p.1 != I && p.1 != Cn && p.1 != D
    have hsub : ∀ p ∈ W'', p ∈ W' := fun p hp => (List.mem_filter.mp hp).1
    refine ⟨rfl, h', tk', W'' ++ Lg lay O', rfl, F', fun p hp => ?_, Off3.of fun p hp => ?_, W'', O', S', rfl, ⟨hl'.inj, fun p hp => hl'.off p (hsub p hp)⟩, fun p hp => ?_, ?_, J'⟩
    · rcases List.mem_cons.mp hp with rfl | hp
      · exact N' _ (mem_W (hs' _ (.head _)))
      · rcases List.mem_cons.mp hp with rfl | hp
        · exact N' _ (mem_W (hs' _ (.tail _ (.head _))))
        · rcases List.mem_cons.mp hp with rfl | hp
          · exact N' _ (mem_W (hs' _ (.tail _ (.tail _ (.head _)))))
          · rcases List.mem_append.mp hp with hp | hp
            · exact N' _ (mem_W (hsub _ hp))
            · exact N' _ (List.mem_append_right _ hp)
    · rcases List.mem_append.mp hp with hp | hp
      · have := (List.mem_filter.mp hp).2
        simp at this
        exact ⟨this.1.1, this.1.2, this.2⟩
      · obtain ⟨sl, _, rfl⟩ := List.mem_map.mp hp
        have q := o3 (lay sl, O₁ sl) (mem_O rfl)
        exact q
    · have q := o3 p (mem_W (hC₁ p hp))
      exact List.mem_filter.mpr ⟨hs' p (.tail _ (.tail _ (.tail _ (hC₁ p hp)))), by simp [q.1, q.2.1, q.2.2]⟩
    · exact { R' with wire := let ⟨vs, k, a, b⟩ := R'.wire; ⟨vs, k, a, b.drop3 htup⟩ }
  · rintro news' ⟨W₁, O₁, S₁, rfl, hl₁, hC₁, R₁, J₁⟩
    exact fin g W₁ O₁ S₁ J₁ R₁ hC₁ hl₁
/-- pairs bound -/
theorem asg_pairs {a b : Str} {pa pb tp : Pos} {kk : Nat} {J : Nat → St → Prop} {B : Nat → Value → Value → Prop} (hh : A.handled = none) (hkind : scope.kind = .function) (hxa : scope.names.lookup a = some .local) (hxb : scope.names.lookup b = some .local) (hab : a ≠ b)
    (items : ∀ i v, its[i]? = some v → ∃ t v₁ v₂, v = .ref t ∧ (t, tupOf [v₁, v₂]) ∈ C ∧ B i v₁ v₂) :
    AsgOk PR w A h₀ L env (.Tuple [.Name a pa, .Name b pb] kk tp) scope cl its (InvR w lay C J) (fun i _ _ m₂ => ∃ v₁ v₂, B i v₁ v₂ ∧ m₂ a = some v₁ ∧ m₂ b = some v₂) := by
  rintro Cn I i v m' news s' Q' E' hv ⟨W₁, O₁, S₁, rfl, hl₁, hC₁, R₁, J₁⟩ N₁ ⟨l, j, hLi⟩ hn' k
  obtain ⟨t, v₁, v₂, rfl, hm, hB⟩ := items i v hv
  have ht : IsTup s'.heap t #[v₁, v₂] := ⟨_, (N₁ _ (mem_W (hC₁ _ hm))).1, rfl, 0, rfl⟩
  refine wpAny_letOwnedTupleGo_listiter hLi ?_
  refine assign_Tuple_tuple hh ht rfl rfl fun h₅ he => ?_
  have he' : ∀ b o, s'.heap.get? b = some o → h₅.get? b = some o := fun b o e => he b o (Nat.ne_of_lt (Heap.lt_size e)) e
  refine assignInOrder_cons (wpAny_assign_Name (wpAny_storeName_local (lookup_relabel_local hxa) (hn'.at' fun o e => he' _ o e) (fun h₆ hn₆ hs₆ => ?_) (by simp [compEnvC, relabel, hkind])))
  refine assignInOrder_cons (wpAny_assign_Name (wpAny_storeName_local (lookup_relabel_local hxb) hn₆ (fun h₃ hn₃ hs₃ => ?_) (by simp [compEnvC, relabel, hkind])))
  refine assignInOrder_nil ?_
  exact k h₃ _ _ hn₃ ⟨v₁, v₂, hB, by simp [hab], by simp⟩ fun b o hb e => hs₃.extBut b o hb (hs₆.extBut b o hb (he' b o e))
/-- one name bound -/
theorem asg_name {a : Str} {pa : Pos} {Inv : Nat → Led → Prop} (hkind : scope.kind = .function) (hxa : scope.names.lookup a = some .local) :
    AsgOk PR w A h₀ L env (.Name a pa) scope cl its Inv (fun _ v _ m₂ => m₂ a = some v) := by
  rintro Cn I i v m' news s' Q' E' hv hI N₁ hLi hn' k
  show wpAny _ _ (pure ()) _ _ _
  refine wpAny_pure ?_
  refine wpAny_assign_Name (wpAny_storeName_local (lookup_relabel_local hxa) hn' (fun h₃ hn₃ hs₃ => ?_) (by simp [compEnvC, relabel, hkind]))
  exact k h₃ _ _ hn₃ (by simp) fun b o hb e => hs₃.extBut b o hb e
theorem every_items {ev : Addr} (E : Every C ev) : ∃ n its, (ev, listOf its n) ∈ C ∧ its.size = 4 ∧ ∀ i v, its[i]? = some v → ∃ t v₁ v₂, v = .ref t ∧ (t, tupOf [v₁, v₂]) ∈ C ∧ (i < 4 ∧ (∃ ta, v₁ = .int (b2i (pe i)) ta) ∧ ∃ tb, v₂ = .int (b2i (ps i)) tb) := by
  obtain ⟨ts, n, h1, h2⟩ := E
  refine ⟨n, _, h1, rfl, fun i v hv => ?_⟩
  have hi : i < 4 := (Array.getElem?_eq_some_iff.mp hv).1
  obtain ⟨ta, tb, hm⟩ := h2 i hi
  refine ⟨ts i, _, _, ?_, hm, hi, ⟨ta, rfl⟩, ⟨tb, rfl⟩⟩
  match i, hi, hv with
  | 0, _, hv => exact (Option.some.inj hv).symm
  | 1, _, hv => exact (Option.some.inj hv).symm
  | 2, _, hv => exact (Option.some.inj hv).symm
  | 3, _, hv => exact (Option.some.inj hv).symm
end
end

section
local macro_rules | `(tactic| ktr_member) => `(tactic| first
  | ((with_reducible show wpAny _ _ (eval (Expr.Name _ _) (envX _ _ _ _ _ _)) _ _ _); k_dflt (refine' nameX_L ?k1 ?k2 ?_ ?k3 ?k4 ?k5; (case k3 => rfl); (case k4 => rfl); (case k5 => decide); (case k1 => k_asm); (case k2 => first | with_reducible assumption | exact (if_pos rfl) | exact (if_neg (by decide)).trans (by with_reducible assumption) | exact (if_neg (by decide)).trans ((if_neg (by decide)).trans (by with_reducible assumption))); k_whole))
  | ((with_reducible show wpAny _ _ (eval (Expr.Name _ _) (envX _ _ _ _ _ _)) _ _ _); k_dflt (refine' nameX_C ?k1 ?k2 ?k3 ?k4 ?_ ?ka ?kb ?kc; (case ka => rfl); (case kb => rfl); (case kc => decide); (case k1 => k_asm); (case k2 => rfl); (case k3 => (refine mem_W ?_; first | with_reducible assumption | exact List.mem_cons_of_mem _ (by with_reducible assumption) | exact List.mem_cons_of_mem _ (List.mem_cons_of_mem _ (by with_reducible assumption)))); (case k4 => with_reducible assumption); k_whole))
  | fail "no own step 8")

/-! part Q3 -/
section

structure LawC (lay : Slot → Addr) (W : Led) (L ev : Addr) : Prop where
  cN : ∃ o, (L + 1 + 1, o) ∈ W ∧ o.data = .cell (some (.ref (lay .net)))
  cE : ∃ o, (L + 1, o) ∈ W ∧ o.data = .cell (some (.ref (lay .ends)))
  ev : Every W ev
theorem LawC.mono {lay : Slot → Addr} {W W' : Led} {L ev : Addr} (h : LawC lay W L ev) (k : ∀ p ∈ W, p ∈ W') : LawC lay W' L ev :=
  ⟨let ⟨o, a, b⟩ := h.cN; ⟨o, k _ a, b⟩, let ⟨o, a, b⟩ := h.cE; ⟨o, k _ a, b⟩, h.ev.mono k⟩
noncomputable abbrev lawCl (L : Addr) : List (Str × Addr) := [(Str.ofString "net", L + 1 + 1), (Str.ofString "ends", L + 1)]
/-- the law's rest, from statement k on -/
noncomputable def LawAt (w : World) (k : Nat) (lay : Slot → Addr) (W : Led) (O : Slot → Obj) : Prop :=
  ∀ {oc : Value} {od : Option Addr} {name qual : Str} {params : Arguments} {body : List Stmt} {scope : Scope} {dV kV doc pm : Value} {an : Option Addr} {cdv ct : Value} {osl : Array (Option Value)} (_ : (Mine.hd0.heap_1 w.params).lookup 210 = some ⟨oc, od, .func (fnOf name qual params body scope dV kV doc pm an cdv ct), osl⟩)
    (p : Program) (loose : List Str) (mean : ExcName → Option Value) (mg mb : Str → Option Value) (dp un : Nat) (gd : Option (List Code)) (f : Addr) (cd9 : Value) (A₀ : Around) (base h₀ : Heap) (L ev : Addr) (m : Str → Option Value) (s : Shared) (Q : Flow → Shared → Prop),
    Below A₀ base [] h₀ → Fr h₀ L s.heap m → (Mine.hd0.heap_1 w.params).In h₀ → News h₀ L s.heap (W ++ Lg lay O) → Top p loose mean mg mb h₀ → (Mine.hd0.heap_1 w.params).In base → Top p loose mean mg mb base → dp + 150 < recursionLimit → un + 1200 < cLine → LawC lay W L ev →
    m (Str.ofString "box") = some (.ref (lay .box)) → m (Str.ofString "every") = some (.ref ev) →
    (∀ h' tk' m' news', Fr h₀ L h' m' → News h₀ L h' news' → Q (.ret (.bool true)) { s with heap := h', toks := tk' }) →
    wpAny (model PR w) (ktrTop dp un gd qual scope L f cd9 (lawCl L) []) (execs (body.drop k) (envX qual scope L f cd9 (lawCl L))) Q (fun _ _ => False) s
theorem law_lit {K : Frag} {a : Addr} {oc oc' : Value} {od od' : Option Addr} {name qual name' qual' : Str} {params params' : Arguments} {body body' : List Stmt} {scope scope' : Scope} {dV kV doc pm dV' kV' doc' pm' : Value} {an an' : Option Addr} {cdv ct cdv' ct' : Value} {osl osl' : Array (Option Value)} {P : Str → List Stmt → Scope → Prop}
    (hb : K.lookup a = some ⟨oc, od, .func (fnOf name qual params body scope dV kV doc pm an cdv ct), osl⟩) (hb' : K.lookup a = some ⟨oc', od', .func (fnOf name' qual' params' body' scope' dV' kV' doc' pm' an' cdv' ct'), osl'⟩) (h : P qual' body' scope') : P qual body scope := by
  rw [hb] at hb'
  have e := (Data.func.inj (congrArg Obj.data (Option.some.inj hb')))
  have e1 : body = body' := by have := congrArg FuncData.body e; injection this
  have e2 : scope = scope' := congrArg FuncData.scope e
  have e3 : qual = qual' := congrArg FuncData.qualname e
  rw [e1, e2, e3]
  exact h
theorem law_loop (w : World) (lay : Slot → Addr) (W : Led) (O : Slot → Obj) (hl : Lay lay W) (S : St) (R : Rel w lay W O S) (K : Ok S 0 S.wire) (hsp : S.spot = 4)
    (rest : ∀ W' O' S', Lay lay W' → Rel w lay W' O' S' → Ok S' 30 S'.wire → LawAt w 8 lay W' O') : LawAt w 7 lay W O := by
  unfold LawAt
  intro oc od name qual params body scope dV kV doc pm an cdv ct osl hb p loose mean mg mb dp un gd f cd9 A₀ base h₀ L ev m s Q B F X N T XB TB hd hu LC hbox hev ret
  refine law_lit (P := fun q b sc => wpAny (model PR w) (ktrTop dp un gd q sc L f cd9 (lawCl L) []) (execs (b.drop 7) (envX q sc L f cd9 (lawCl L))) Q (fun _ _ => False) s) hb (by k_is) ?_
  (try dsimp only)
  show wpAny _ _ (execs (_ :: _) _) _ _ _
  have LC' := LC
  obtain ⟨⟨oN, mN, dN⟩, ⟨oE, mE, dE⟩, hEv⟩ := LC'
  walk1
  refine For_invVF (h₀ := h₀) (by k_asm) (by rfl) (by rfl) ?_
  repeat' ((fail_if_success (with_reducible show LCg.CompSrc _ _ _ _ _ _ _ _ _ _ _ _ _ _)); (fail_if_success (with_reducible show LCt.CompSrcT _ _ _ _ _ _ _ _ _ _ _ _ _ _ _)); (fail_if_success (with_reducible show wpAny _ _ (pyIter _) _ _ _)); (fail_if_success (with_reducible show wpAny _ _ (call (Value.ref 146) _) _ _ _)); first | (k_unfold; (try dsimp only)) | ((with_reducible show wpAny _ _ (execs (_ :: _) _) _ _ (Shared.mk _ _ _ (HAdd.hAdd _ _) _)); refine genT ?_; intro tk9) | ((with_reducible show wpAny _ _ (exec _ _) _ _ _); (fail_if_success (fail_if_success k_fold)); refine letQ ?_; intro q9) | ((with_reducible show wpAny _ _ (execs (_ :: _) _) _ _ _); (with_reducible rename Fr _ _ _ _ => kF9); (fail_if_success (with_reducible have : Fr _ _ _ ‹Str → Option Value› := kF9)); refine letm kF9 ?_; clear kF9; intro m9 F9) | ktr_member | ((fail_if_success (with_reducible show (if _ then _ else _))); first | walk1 | (dsimp only; walk1)))
  refine' Fn.use ?k1 ?k2 ?k3 ?k4 ?k5 ?kK (c_takeR w lay _ _ ?kl S R ?q0 ?q1 4 _ ?q2 ?q3) ?kd ?ku ?_
  (case k1 => k_asm)
  (case k2 => k_asm)
  (case k3 => k_asm)
  (case k4 => k_asm)
  (case k5 => k_asm)
  (case kK => first | exact rfl | assumption)
  (case kd => ktr_room)
  (case ku => ktr_units)
  (case kl => assumption)
  (case q0 => omega)
  (case q1 => omega)
  (case q2 => omega)
  (case q3 => omega)
  intro r9 W9 O9 h9 tk9 F9 N9 hl9 hs9 hP9
  (try dsimp only)
  (try k_sweep)
  obtain ⟨hW, ⟨v, t8, rfl, v0, v4⟩, R9⟩ := hP9
  subst hW
  repeat' ((fail_if_success (with_reducible show LCg.CompSrc _ _ _ _ _ _ _ _ _ _ _ _ _ _)); (fail_if_success (with_reducible show LCt.CompSrcT _ _ _ _ _ _ _ _ _ _ _ _ _ _ _)); (fail_if_success (with_reducible show wpAny _ _ (pyIter _) _ _ _)); (fail_if_success (with_reducible show wpAny _ _ (call (Value.ref 146) _) _ _ _)); first | (k_unfold; (try dsimp only)) | ((with_reducible show wpAny _ _ (execs (_ :: _) _) _ _ (Shared.mk _ _ _ (HAdd.hAdd _ _) _)); refine genT ?_; intro tk9) | ((with_reducible show wpAny _ _ (exec _ _) _ _ _); (fail_if_success (fail_if_success k_fold)); refine letQ ?_; intro q9) | ((with_reducible show wpAny _ _ (execs (_ :: _) _) _ _ _); (with_reducible rename Fr _ _ _ _ => kF9); (fail_if_success (with_reducible have : Fr _ _ _ ‹Str → Option Value› := kF9)); refine letm kF9 ?_; clear kF9; intro m9 F9) | ktr_member | ((fail_if_success (with_reducible show (if _ then _ else _))); first | walk1 | (dsimp only; walk1)))
  refine loop_range (w := w) (lay := lay) (fun i m₁ S₁ => m₁ (Str.ofString "box") = some (.ref (lay .box)) ∧ m₁ (Str.ofString "every") = some (.ref ev) ∧ Ok S₁ (2 * i) S₁.wire ∧ S₁.spot = 5 + 4 * (i : Int)) W rfl (by assumption) (by omega) (by omega) (by omega) (by omega) (by k_asm) (by k_asm) hl9 R9 (fun _ h => h) ?_ ?_ ?_
  · exact ⟨hbox, hev, (K.spot _).mono (Nat.zero_le _), by dsimp only; omega⟩
  · intro g9 I i m₁ W₁ O₁ S₁ t h tk it hi hJ R₁ hC hl₁ hI F₁ N₁
    obtain ⟨hb1, he1, K1, hs1⟩ := hJ
    have mN1 := hC _ mN
    have mE1 := hC _ mE
    have f0 : ¬ (!true) = true := by decide
    have hi9 : i ≤ 11 := by omega
    repeat' ((fail_if_success (with_reducible show LCg.CompSrc _ _ _ _ _ _ _ _ _ _ _ _ _ _)); (fail_if_success (with_reducible show LCt.CompSrcT _ _ _ _ _ _ _ _ _ _ _ _ _ _ _)); (fail_if_success (with_reducible show wpAny _ _ (pyIter _) _ _ _)); (fail_if_success (with_reducible show wpAny _ _ (call (Value.ref 198) _) _ _ _)); first | (k_unfold; (try dsimp only)) | ((with_reducible show wpAny _ _ (execs (_ :: _) _) _ _ (Shared.mk _ _ _ (HAdd.hAdd _ _) _)); refine genT ?_; intro tk9) | ((with_reducible show wpAny _ _ (exec _ _) _ _ _); (fail_if_success (fail_if_success k_fold)); refine letQ ?_; intro q9) | ((with_reducible show wpAny _ _ (execs (_ :: _) _) _ _ _); (with_reducible rename Fr _ _ _ _ => kF9); (fail_if_success (with_reducible have : Fr _ _ _ ‹Str → Option Value› := kF9)); refine letm kF9 ?_; clear kF9; intro m9 F9) | ktr_member | ((fail_if_success (with_reducible show (if _ then _ else _))); first | walk1 | (dsimp only; walk1)))
    refine' Fn.use ?k1 ?k2 ?k3 ?k4 ?k5 ?kK (c_deed w lay _ _ ?kl S₁ R₁ (2 * i) K1 ?q0 ?q1 ?q2) ?kd ?ku ?_
    (case k1 => k_asm)
    (case k2 => k_asm)
    (case k3 => k_asm)
    (case k4 => k_asm)
    (case k5 => k_asm)
    (case kK => first | exact rfl | assumption)
    (case kd => ktr_room)
    (case ku => ktr_units)
    (case kl => assumption)
    (case q0 => omega)
    (case q1 => omega)
    (case q2 => omega)
    intro r9 W9 O9 h9 tk9 F9 N9 hl9 hs9 hP9
    (try dsimp only)
    (try k_sweep)
    obtain ⟨rfl, S', R', K', hsp'⟩ := hP9
    repeat' ((fail_if_success (with_reducible show LCg.CompSrc _ _ _ _ _ _ _ _ _ _ _ _ _ _)); (fail_if_success (with_reducible show LCt.CompSrcT _ _ _ _ _ _ _ _ _ _ _ _ _ _ _)); (fail_if_success (with_reducible show wpAny _ _ (pyIter _) _ _ _)); (fail_if_success (with_reducible show wpAny _ _ (call (Value.ref 198) _) _ _ _)); (fail_if_success (with_reducible show wpAny _ _ (eval (Expr.ListComp _ _ _ _) _) _ _ _)); first | (k_unfold; (try dsimp only)) | ((with_reducible show wpAny _ _ (execs (_ :: _) _) _ _ (Shared.mk _ _ _ (HAdd.hAdd _ _) _)); refine genT ?_; intro tk9) | ((with_reducible show wpAny _ _ (exec _ _) _ _ _); (fail_if_success (fail_if_success k_fold)); refine letQ ?_; intro q9) | ((with_reducible show wpAny _ _ (execs (_ :: _) _) _ _ _); (with_reducible rename Fr _ _ _ _ => kF9); (fail_if_success (with_reducible have : Fr _ _ _ ‹Str → Option Value› := kF9)); refine letm kF9 ?_; clear kF9; intro m9 F9) | ktr_member | ((fail_if_success (with_reducible show (if _ then _ else _))); first | walk1 | (dsimp only; walk1)))
    have mN9 := hs9 _ mN1
    have mE9 := hs9 _ mE1
    have hC9 : ∀ p ∈ W, p ∈ W9 := fun p q => hs9 p (hC p q)
    obtain ⟨itn, its, evm, evz, evi⟩ := every_items (hEv.mono hC9)
    refine ListComp_none (F₀ := by k_asm) (by with_unfolding_all rfl) (by decide) (by rfl) (by decide) ?_
    repeat' ((fail_if_success (with_reducible show LCg.CompSrc _ _ _ _ _ _ _ _ _ _ _ _ _ _)); (fail_if_success (with_reducible show LCt.CompSrcT _ _ _ _ _ _ _ _ _ _ _ _ _ _ _)); (fail_if_success (with_reducible show wpAny _ _ (pyIter _) _ _ _)); (fail_if_success (with_reducible show wpAny _ _ (call (Value.ref 198) _) _ _ _)); (fail_if_success (with_reducible show wpAny _ _ (eval (Expr.ListComp _ _ _ _) _) _ _ _)); first | (k_unfold; (try dsimp only)) | ((with_reducible show wpAny _ _ (execs (_ :: _) _) _ _ (Shared.mk _ _ _ (HAdd.hAdd _ _) _)); refine genT ?_; intro tk9) | ((with_reducible show wpAny _ _ (exec _ _) _ _ _); (fail_if_success (fail_if_success k_fold)); refine letQ ?_; intro q9) | ((with_reducible show wpAny _ _ (execs (_ :: _) _) _ _ _); (with_reducible rename Fr _ _ _ _ => kF9); (fail_if_success (with_reducible have : Fr _ _ _ ‹Str → Option Value› := kF9)); refine letm kF9 ?_; clear kF9; intro m9 F9) | ktr_member | ((fail_if_success (with_reducible show (if _ then _ else _))); first | walk1 | (dsimp only; walk1)))
    refine comp_led (lay := lay) (W := W9) (O := O9) (S := S') (C := W9) (J := fun _ S₂ => S₂ = S') rfl (by k_asm) (by k_asm) hl9 R' (fun _ h => h) evm rfl (asg_pairs (B := fun i v₁ v₂ => i < 4 ∧ (∃ ta, v₁ = .int (b2i (pe i)) ta) ∧ ∃ tb, v₂ = .int (b2i (ps i)) tb) rfl (by rfl) (by rfl) (by rfl) (by decide) evi) ?_ ?_
    · intro g8 j vj W₂ O₂ S₂ Ia oI Ca oC Da m₂ h2 tk2 E2 hvj hJ2 R2 hC2 nC bd F2 N2 hl2
      subst hJ2
      obtain ⟨v₁, v₂, ⟨hj4, ⟨ta, rfl⟩, ⟨tb, rfl⟩⟩, ba, bb⟩ := bd
      have mN2 : (L + 1 + 1, oN) ∈ (Ia, oI) :: (Ca, oC) :: (Da, LCg.lst []) :: W₂ := .tail _ (.tail _ (.tail _ (hC2 _ mN9)))
      have mE2 : (L + 1, oE) ∈ (Ia, oI) :: (Ca, oC) :: (Da, LCg.lst []) :: W₂ := .tail _ (.tail _ (.tail _ (hC2 _ mE9)))
      repeat' ((fail_if_success (with_reducible show LCg.CompSrc _ _ _ _ _ _ _ _ _ _ _ _ _ _)); (fail_if_success (with_reducible show LCt.CompSrcT _ _ _ _ _ _ _ _ _ _ _ _ _ _ _)); (fail_if_success (with_reducible show wpAny _ _ (pyIter _) _ _ _)); (fail_if_success (with_reducible show wpAny _ _ (call (Value.ref 191) _) _ _ _)); (fail_if_success (with_reducible show wpAny _ _ (compareOp CmpOp.Eq (Value.ref _) (Value.ref _)) _ _ _)); first | (k_unfold; (try dsimp only)) | ((with_reducible show wpAny _ _ (execs (_ :: _) _) _ _ (Shared.mk _ _ _ (HAdd.hAdd _ _) _)); refine genT ?_; intro tk9) | ((with_reducible show wpAny _ _ (exec _ _) _ _ _); (fail_if_success (fail_if_success k_fold)); refine letQ ?_; intro q9) | ((with_reducible show wpAny _ _ (execs (_ :: _) _) _ _ _); (with_reducible rename Fr _ _ _ _ => kF9); (fail_if_success (with_reducible have : Fr _ _ _ ‹Str → Option Value› := kF9)); refine letm kF9 ?_; clear kF9; intro m9 F9) | ktr_member | ((fail_if_success (with_reducible show (if _ then _ else _))); first | walk1 | (dsimp only; walk1)))
      refine' Fn.use ?k1 ?k2 ?k3 ?k4 ?k5 ?kK (c_chain w lay _ _ ?kl S₂ R2 (pe j) (ps j) _ _ (K'.k1 _ _) (K'.k2 _ _) (K'.k3 _ _) (K'.k4 _ _) ?b5) ?kd ?ku ?_
      (case k1 => k_asm)
      (case k2 => k_asm)
      (case k3 => k_asm)
      (case k4 => k_asm)
      (case k5 => k_asm)
      (case kK => first | exact rfl | assumption)
      (case kd => ktr_room)
      (case ku => ktr_units)
      (case kl => assumption)
      (case b5 => have := K'.ov (pe j) (ps j); omega)
      intro r9 W8 O8 h9 tk9 F9 N9 hl8 hs8 hP9
      (try dsimp only)
      (try k_sweep)
      obtain ⟨rfl, l9, cvs, cn9, rfl, hcm, hci⟩ := hP9
      repeat' ((fail_if_success (with_reducible show LCg.CompSrc _ _ _ _ _ _ _ _ _ _ _ _ _ _)); (fail_if_success (with_reducible show LCt.CompSrcT _ _ _ _ _ _ _ _ _ _ _ _ _ _ _)); (fail_if_success (with_reducible show wpAny _ _ (pyIter _) _ _ _)); (fail_if_success (with_reducible show wpAny _ _ (call (Value.ref 191) _) _ _ _)); (fail_if_success (with_reducible show wpAny _ _ (compareOp CmpOp.Eq (Value.ref _) (Value.ref _)) _ _ _)); first | (k_unfold; (try dsimp only)) | ((with_reducible show wpAny _ _ (execs (_ :: _) _) _ _ (Shared.mk _ _ _ (HAdd.hAdd _ _) _)); refine genT ?_; intro tk9) | ((with_reducible show wpAny _ _ (exec _ _) _ _ _); (fail_if_success (fail_if_success k_fold)); refine letQ ?_; intro q9) | ((with_reducible show wpAny _ _ (execs (_ :: _) _) _ _ _); (with_reducible rename Fr _ _ _ _ => kF9); (fail_if_success (with_reducible have : Fr _ _ _ ‹Str → Option Value› := kF9)); refine letm kF9 ?_; clear kF9; intro m9 F9) | ktr_member | ((fail_if_success (with_reducible show (if _ then _ else _))); first | walk1 | (dsimp only; walk1)))
      refine' eq_led ?k1 ?k2 ?k3 ?k4 ?k5 ?k6 ?_
      (case k1 => k_asm)
      (case k2 => exact .tail _ (mem_W hcm))
      (case k3 => exact hci)
      (case k4 => exact .head _)
      (case k5 => exact .nil)
      (case k6 => ktr_units)
      repeat' ((fail_if_success (with_reducible show LCg.CompSrc _ _ _ _ _ _ _ _ _ _ _ _ _ _)); (fail_if_success (with_reducible show LCt.CompSrcT _ _ _ _ _ _ _ _ _ _ _ _ _ _ _)); (fail_if_success (with_reducible show wpAny _ _ (pyIter _) _ _ _)); (fail_if_success (with_reducible show wpAny _ _ (call (Value.ref 191) _) _ _ _)); first | (k_unfold; (try dsimp only)) | ((with_reducible show wpAny _ _ (execs (_ :: _) _) _ _ (Shared.mk _ _ _ (HAdd.hAdd _ _) _)); refine genT ?_; intro tk9) | ((with_reducible show wpAny _ _ (exec _ _) _ _ _); (fail_if_success (fail_if_success k_fold)); refine letQ ?_; intro q9) | ((with_reducible show wpAny _ _ (execs (_ :: _) _) _ _ _); (with_reducible rename Fr _ _ _ _ => kF9); (fail_if_success (with_reducible have : Fr _ _ _ ‹Str → Option Value› := kF9)); refine letm kF9 ?_; clear kF9; intro m9 F9) | ktr_member | ((fail_if_success (with_reducible show (if _ then _ else _))); first | walk1 | (dsimp only; walk1)))
      exact TestR.intro (decide_eq_false (fun q => nomatch q)) (by k_asm) (by k_asm) (by assumption) (fun q h => .tail _ (hs8 q h)) ((R2.mono hs8).mono fun _ h => .tail _ h) rfl
    · intro g8 W₂ O₂ S₂ hJ2 R2 hC2 hl2
      subst hJ2
      unfold LCg.FinE
      intro D hh tk9 F9 N9 o9
      replace N9 : News h₀ L hh (((D, listOf ([] : List Value).toArray 0) :: W₂) ++ Lg lay O₂) := N9
      have hl9 : Lay lay ((D, listOf ([] : List Value).toArray 0) :: W₂) := lay_off1 hl2 o9
      repeat' ((fail_if_success (with_reducible show LCg.CompSrc _ _ _ _ _ _ _ _ _ _ _ _ _ _)); (fail_if_success (with_reducible show LCt.CompSrcT _ _ _ _ _ _ _ _ _ _ _ _ _ _ _)); (fail_if_success (with_reducible show wpAny _ _ (pyIter _) _ _ _)); (fail_if_success (with_reducible show wpAny _ _ (call (Value.ref 191) _) _ _ _)); (fail_if_success (with_reducible show wpAny _ _ (eval (Expr.ListComp _ _ _ _) _) _ _ _)); first | (k_unfold; (try dsimp only)) | ((with_reducible show wpAny _ _ (execs (_ :: _) _) _ _ (Shared.mk _ _ _ (HAdd.hAdd _ _) _)); refine genT ?_; intro tk9) | ((with_reducible show wpAny _ _ (exec _ _) _ _ _); (fail_if_success (fail_if_success k_fold)); refine letQ ?_; intro q9) | ((with_reducible show wpAny _ _ (execs (_ :: _) _) _ _ _); (with_reducible rename Fr _ _ _ _ => kF9); (fail_if_success (with_reducible have : Fr _ _ _ ‹Str → Option Value› := kF9)); refine letm kF9 ?_; clear kF9; intro m9 F9) | ktr_member | ((fail_if_success (with_reducible show (if _ then _ else _))); first | walk1 | (dsimp only; walk1)))
      refine ⟨_, _, _, _, _, S₂, rfl, by k_asm, by k_asm, by assumption, .tail _ (.tail _ (hC2 _ (hs9 _ hI))), fun p q => .tail _ (.tail _ (hC2 _ (hC9 p q))), (R2.mono fun _ h => .tail _ (.tail _ h)), ?_, ?_, K'.mono (by omega), by omega⟩
      · exact (if_neg (by decide)).trans hb1
      · exact (if_neg (by decide)).trans he1
  · intro m₁ W₁ O₁ S₁ h tk hJ R₁ hC hl₁ F₁ N₁
    obtain ⟨hb1, he1, K1, hs1⟩ := hJ
    have hrest := rest W₁ O₁ S₁ hl₁ R₁ (K1.mono (by omega)) (by k_is)
    exact hrest p loose mean mg mb dp un gd f cd9 A₀ base h₀ L ev m₁ { s with heap := h, toks := tk } Q B F₁ X N₁ T XB TB hd hu (LC.mono hC) hb1 he1 ret
end

/-! part Q4 -/
section
open PySem PySem.W PySem.Calls PyProof.Rows PySem.Spec PyProof.Rows.LCg
section
variable {w : World} {A : Around} {E : Value → Shared → Prop} {s : Shared} {h₀ : Heap} {env : Env} {body : List Stmt} {Q : Flow → Shared → Prop} {lay : Slot → Addr} {W : Led} {O : Slot → Obj} {S : St} {ev : Addr} {m₀ : Str → Option Value}
noncomputable def TurnN (w : World) (h₀ : Heap) (L : Addr) (s : Shared) (lay : Slot → Addr) (W₁ : Led) (J : (Str → Option Value) → St → Prop) (f : Flow) (s₂ : Shared) : Prop :=
  f = .next ∧ ∃ h' tk m' W' O' S', s₂ = { s with heap := h', toks := tk } ∧ Fr h₀ L h' m' ∧ News h₀ L h' (W' ++ Lg lay O') ∧ Lay lay W' ∧ (∀ p ∈ W₁, p ∈ W') ∧ Rel w lay W' O' S' ∧ J m' S'
theorem loop_every {a b : Str} {pa pb tp : Pos} {kk : Nat} (J : Nat → (Str → Option Value) → St → Prop) (hh : A.handled = none) (F : Fr h₀ env.locals s.heap m₀) (N : News h₀ env.locals s.heap (W ++ Lg lay O)) (hl : Lay lay W) (R : Rel w lay W O S) (EV : Every W ev) (hJ : J 0 m₀ S)
    (ka : env.kindOf a = some .local) (kb : env.kindOf b = some .local) (hp : (env.scope.kind == .class || (env.scope.kind == .module && env.locals != env.globals)) = false)
    (turn : ∀ (i : Nat) (m₁ : Str → Option Value) (W₁ : Led) (O₁ : Slot → Obj) (S₁ : St) (ta tb : Tok) (s₁ : Shared), i < 4 → J i m₁ S₁ → Rel w lay W₁ O₁ S₁ → (∀ p ∈ W, p ∈ W₁) → Lay lay W₁ →
      Fr h₀ env.locals s₁.heap (fun y => if y = b then some (.int (b2i (ps i)) tb) else if y = a then some (.int (b2i (pe i)) ta) else m₁ y) → News h₀ env.locals s₁.heap (W₁ ++ Lg lay O₁) →
      wpAny (model PR w) A (execs body env) (TurnN w h₀ env.locals s₁ lay W₁ (J (i + 1))) E s₁)
    (done : ∀ (m₁ : Str → Option Value) (W₁ : Led) (O₁ : Slot → Obj) (S₁ : St) (h : Heap) (tk : Nat), J 4 m₁ S₁ → Rel w lay W₁ O₁ S₁ → (∀ p ∈ W, p ∈ W₁) → Lay lay W₁ → Fr h₀ env.locals h m₁ → News h₀ env.locals h (W₁ ++ Lg lay O₁) → Q .next { s with heap := h, toks := tk }) :
    wpAny (model PR w) A (pyIter (.ref ev)) (fun it s₂ => LoopAtT PR w A h₀ env (.Tuple [.Name a pa, .Name b pb] kk tp) body Q E it s₂) E s := by
  obtain ⟨itn, its, evm, evz, evi⟩ := every_items EV
  have hz := N _ (mem_W evm)
  have hls : s.heap.IsList ev its := ⟨_, hz.1, rfl, itn, rfl⟩
  have hlt : ev < s.heap.objs.size := Heap.lt_size hz.1
  have hne : ev ≠ s.heap.objs.size := Nat.ne_of_lt hlt
  refine wpAny_pyIter_list hls ?_
  have W9 := Walks.list (prog := PR) (w := w) hh s.heap.objs.size ev hne its
  have lt : ∀ p ∈ W ++ Lg lay O, p.1 < s.heap.objs.size := fun p hp => Heap.lt_size (N p hp).1
  have hIl : ∀ sl, lay sl ≠ s.heap.objs.size := fun sl => Nat.ne_of_lt (lt (lay sl, O sl) (mem_O rfl))
  let J' : Nat → (Str → Option Value) → Led → Prop := fun i m₁ news₁ => ∃ W₁ O₁ S₁, news₁ = W₁ ++ Lg lay O₁ ∧ Lay lay W₁ ∧ (∀ p ∈ W, p ∈ W₁) ∧ Rel w lay W₁ O₁ S₁ ∧ J i m₁ S₁
  refine ⟨s.heap.objs.size, _, _, its.size, _, _, m₀, W ++ Lg lay O, J', rfl, W9, ?_, ?_, ?_, ⟨⟨_, Heap.get?_push_size _ rfl, rfl, rfl⟩, hls.at fun o e => Heap.get?_push_of_some _ e⟩, F.push _, (fun p hp => ⟨Heap.get?_push_of_some _ (N p hp).1, (N p hp).2⟩), ?_, ⟨W, O, S, rfl, hl, fun _ h => h, R, hJ⟩, ?_, ?_⟩
  · intro hm
    rcases List.mem_cons.mp hm with e | hm
    · exact absurd F.ns.lt (e ▸ Nat.lt_irrefl _)
    · exact (N _ (mem_W evm)).2.1 (List.mem_singleton.mp hm).symm
  · intro b hb
    rw [List.mem_singleton.mp hb]
    exact next_is_new F
  · intro p hp hI
    exact absurd (lt p hp) ((List.mem_singleton.mp hI) ▸ Nat.lt_irrefl _)
  · intro i s' v Q' st hQ
    have hv : ∃ T, v = .ref T ∨ True := ⟨0, .inr trivial⟩
    cases v with
    | ref T => exact wpAny_letOwnedTupleGo_listiter st.1 hQ
    | _ =>
      unfold letOwnedTupleGo
      exact wpAny_pure hQ
  · rintro i v m₁ news₁ s₁ own hi hv ⟨W₁, O₁, S₁, rfl, hl₁, hC₁, R₁, J₁⟩ hoff hsub hown hall hst₁ F₁ N₁
    obtain ⟨t, v₁, v₂, rfl, hm, hi4, ⟨ta, rfl⟩, ⟨tb, rfl⟩⟩ := evi i v hv
    obtain ⟨oI, heI, hcI, hdI⟩ := id hst₁.1
    have hIown : (s.heap.objs.size, oI) ∈ own := hall _ (.head _) (next_is_new F) _ heI
    have ht : IsTup s₁.heap t #[.int (b2i (pe i)) ta, .int (b2i (ps i)) tb] := ⟨_, (N₁ _ (List.mem_append_right _ (mem_W (hC₁ _ hm)))).1, rfl, 0, rfl⟩
    refine assign_Tuple_tuple hh ht rfl rfl fun h₅ he => ?_
    have F₅ := F₁.extBut he (Nat.le_refl _)
    have N₅ := N₁.extBut he (Nat.le_refl _)
    refine assignInOrder_cons (wpAny_assign_Name (wpAny_storeName_local ka F₅.ns (fun h₆ hn₆ hs₆ => ?_) hp))
    refine assignInOrder_cons (wpAny_assign_Name (wpAny_storeName_local kb hn₆ (fun h₇ hn₇ hs₇ => ?_) hp))
    refine assignInOrder_nil ?_
    have F₆ := F₅.set hn₆ hs₆
    have N₆ := N₅.set hs₆
    have F₇ := F₆.set hn₇ hs₇
    have N₇ := N₆.set hs₇
    have N₈ : News h₀ env.locals h₇ ((own ++ W₁) ++ Lg lay O₁) := by rw [List.append_assoc]; exact N₇
    have hown1 : ∀ p ∈ own, ∀ sl, p.1 ≠ lay sl := fun p hp sl q => by
      rcases List.mem_cons.mp (hsub p hp) with h1 | h1
      · exact hIl sl (q.symm.trans h1)
      · rw [List.mem_singleton.mp h1] at q
        exact hl.off _ evm sl q
    have hl8 : Lay lay (own ++ W₁) := ⟨hl₁.inj, fun p hp sl => (List.mem_append.mp hp).elim (fun h => hown1 p h sl) fun h => hl₁.off p h sl⟩
    refine wpAny_mono (turn i m₁ (own ++ W₁) O₁ S₁ ta tb _ hi4 J₁ (R₁.mono fun _ h => List.mem_append_right _ h) (fun p h => List.mem_append_right _ (hC₁ p h)) hl8 F₇ N₈) (fun f s₂ hf => ?_) fun _ _ e => e
    obtain ⟨rfl, h', tk', m', W', O', S', rfl, F', N', hl', hs', R', J''⟩ := hf
    have htup : ∀ b items, (b, tupOf items) ∈ W' → b ≠ s.heap.objs.size := by
      intro b items hb hbI
      have h1 := (N' _ (mem_W hb)).1
      have h2 := (N' _ (mem_W (hs' _ (List.mem_append_left _ hIown)))).1
      rw [hbI] at h1
      have h4 := (congrArg Obj.cls (Option.some.inj (h1.symm.trans h2))).trans hcI
      exact absurd (Value.type.inj h4) (by decide)
    refine LoopStepU.intro F' (news₂ := (W'.filter fun p => p.1 != s.heap.objs.size) ++ Lg lay O') (fun p hp => ?_) (fun p hp hq => ?_) ⟨_, O', S', rfl, ⟨hl'.inj, fun p hp => hl'.off p (List.mem_filter.mp hp).1⟩, fun p hp => ?_, ?_, J''⟩
    · rcases List.mem_append.mp hp with hp | hp
      · exact N' _ (mem_W (hs' _ (List.mem_append_left _ hp)))
      · rcases List.mem_append.mp hp with hp | hp
        · exact N' _ (mem_W (List.mem_filter.mp hp).1)
        · exact N' _ (List.mem_append_right _ hp)
    · rcases List.mem_append.mp hp with hp | hp
      · have := (List.mem_filter.mp hp).2
        rw [List.mem_singleton.mp hq] at this
        simp at this
      · obtain ⟨sl, _, rfl⟩ := List.mem_map.mp hp
        exact hIl sl (List.mem_singleton.mp hq)
    · refine List.mem_filter.mpr ⟨hs' p (List.mem_append_right _ (hC₁ p hp)), ?_⟩
      have := Nat.ne_of_lt (lt p (mem_W hp))
      simpa using this
    · exact { R' with wire := let ⟨vs, k, a, b⟩ := R'.wire; ⟨vs, k, a, b.filter htup⟩ }
  · rintro h' tk m' news' F' N' _ ⟨W₁, O₁, S₁, rfl, hl₁, hC₁, R₁, J₁⟩
    rw [evz] at J₁
    exact done m' W₁ O₁ S₁ h' tk J₁ R₁ hC₁ hl₁ F' N'
end
end

/-! part Q5 -/
section
open PySem PySem.W PySem.Calls PyProof.Rows PySem.Spec PyProof.Rows.LCg
theorem UpdF.append {d : Addr} {o : Obj} {l : Led} {g : Obj → Led} : ∀ {W : Led}, (∀ p ∈ W, p.1 ≠ d) → UpdF d o l g → UpdF d o (W ++ l) (fun o' => W ++ g o')
  | [], _, h => h
  | p :: W, hW, h => .tail (hW p (.head _)) (UpdF.append (fun q hq => hW q (.tail _ hq)) h)
theorem updF_map {lay : Slot → Addr} {O : Slot → Obj} {sl : Slot} (hi : ∀ a b, lay a = lay b → a = b) : ∀ l : List Slot, l.Nodup → sl ∈ l →
    UpdF (lay sl) (O sl) (l.map fun x => (lay x, O x)) (fun o' => l.map fun x => (lay x, put O sl o' x))
  | [], _, h => nomatch h
  | x :: r, hn, h => by
    have ⟨h1, h2⟩ := List.nodup_cons.mp hn
    by_cases e : x = sl
    · subst e
      have q : (fun o' => (x :: r).map fun y => (lay y, put O x o' y)) = fun o' => (lay x, o') :: (r.map fun y => (lay y, O y)) := by
        funext o'
        rw [List.map_cons, put_self]
        congr 1
        exact List.map_congr_left fun y hy => by rw [put_ne]; rintro rfl; exact h1 hy
      rw [q]
      refine .head fun p hp => ?_
      obtain ⟨y, hy, rfl⟩ := List.mem_map.mp hp
      intro z
      exact h1 (hi _ _ z ▸ hy)
    · have q : (fun o' => (x :: r).map fun y => (lay y, put O sl o' y)) = fun o' => (lay x, O x) :: (r.map fun y => (lay y, put O sl o' y)) := by
        funext o'
        rw [List.map_cons, put_ne e]
      rw [q]
      refine .tail (fun z => e (hi _ _ z)) (updF_map hi r h2 ?_)
      rcases List.mem_cons.mp h with rfl | h
      · exact absurd rfl e
      · exact h
theorem updF_O {lay : Slot → Addr} {O : Slot → Obj} {W : Led} {sl : Slot} {o : Obj} (hl : Lay lay W) (h : O sl = o) :
    UpdF (lay sl) o (W ++ Lg lay O) (fun o' => W ++ Lg lay (put O sl o')) := by
  subst h
  exact UpdF.append (fun p hp => hl.off p hp sl) (updF_map hl.inj _ slot_nodup (slot_mem sl))
open Classical in
noncomputable def layW (lay : Slot → Addr) (t : Addr) : Slot → Addr := fun sl => if sl = .wire then t else lay sl
theorem layW_self {lay : Slot → Addr} {t : Addr} : layW lay t .wire = t := by unfold layW; rw [if_pos rfl]
theorem layW_ne {lay : Slot → Addr} {t : Addr} {sl : Slot} (h : sl ≠ .wire) : layW lay t sl = lay sl := by unfold layW; rw [if_neg h]
theorem netKV_W {lay : Slot → Addr} {t : Addr} : stored (netKV lay) (Str.ofString "wire") (.ref t) = netKV (layW lay t) := by
  unfold netKV
  rw [layW_self, layW_ne (by simp), layW_ne (by simp), layW_ne (by simp), layW_ne (by simp), layW_ne (by simp), layW_ne (by simp), layW_ne (by simp)]
  rfl
section
variable {w : World} {A : Around} {E : Value → Shared → Prop} {s : Shared} {h₀ h : Heap} {L t : Addr} {m : Str → Option Value} {lay : Slot → Addr} {W : Led} {O : Slot → Obj} {S : St} {on : Obj} {vs : List Value} {n : Nat}
theorem set_net {tk : Tok} {Q : Unit → Shared → Prop} (F : Fr h₀ L s.heap m) (N : News h₀ L s.heap (W ++ Lg lay O)) (hl : Lay lay W) (ho : O .net = on) (hD : on.IsDictOf (PySem.strKind PR w) (netKV lay))
    (h : ∀ h' o', Fr h₀ L h' m → News h₀ L h' (W ++ Lg lay (put O .net o')) → o'.IsDictOf (PySem.strKind PR w) (netKV (layW lay t)) → Q () { s with heap := h', toks := s.toks + 1 }) :
    wpAny (model PR w) A (setItem (.ref (lay .net)) (.str (Str.ofString "wire") tk) (.ref t)) Q E s :=
  kda_set (knd := PySem.strKind PR w) F N (updF_O hl ho) hD (strKind_is _ _ _ _) (by rw [sizeLine_eq]; exact Nat.le_of_ble_eq_true rfl) fun h' o' F' N' hd' => h h' o' F' N' (netKV_W ▸ hd')
/-- the wire's list changed for a new one -/
theorem relay {o' : Obj} (hl : Lay lay ((t, listOf ([] : List Value).toArray 0) :: W)) (ht : ∀ p ∈ W, p.1 ≠ t) (R : Rel w lay W O S) (hD : o'.IsDictOf (PySem.strKind PR w) (netKV (layW lay t))) (N : News h₀ L h (((t, listOf ([] : List Value).toArray 0) :: W) ++ Lg lay (put O .net o')))
    (hw : O .wire = listOf vs.toArray n) :
    News h₀ L h (((lay .wire, listOf vs.toArray n) :: W) ++ Lg (layW lay t) (put (put O .net o') .wire (listOf ([] : List Value).toArray 0))) ∧ Lay (layW lay t) ((lay .wire, listOf vs.toArray n) :: W) ∧
      Rel w (layW lay t) ((lay .wire, listOf vs.toArray n) :: W) (put (put O .net o') .wire (listOf ([] : List Value).toArray 0)) { S with wire := [] } := by
  have htl : ∀ sl, t ≠ lay sl := fun sl => hl.off _ (.head _) sl
  refine ⟨fun p hp => ?_, ⟨fun a b q => ?_, fun p hp sl => ?_⟩, ?_⟩
  · rcases List.mem_append.mp hp with hp | hp
    · rcases List.mem_cons.mp hp with rfl | hp
      · exact N _ (mem_O (sl := .wire) ((put_ne (by simp)).trans hw))
      · exact N _ (mem_W (.tail _ hp))
    · obtain ⟨sl, _, rfl⟩ := List.mem_map.mp hp
      by_cases e : sl = .wire
      · subst e
        rw [layW_self, put_self]
        exact N _ (mem_W (.head _))
      · rw [layW_ne e, put_ne e]
        exact N _ (mem_O rfl)
  · by_cases ea : a = .wire
    · by_cases eb : b = .wire
      · rw [ea, eb]
      · rw [ea, layW_self, layW_ne eb] at q
        exact absurd q (htl b)
    · by_cases eb : b = .wire
      · rw [eb, layW_self, layW_ne ea] at q
        exact absurd q.symm (htl a)
      · rw [layW_ne ea, layW_ne eb] at q
        exact hl.inj a b q
  · by_cases e : sl = .wire
    · subst e
      rw [layW_self]
      rcases List.mem_cons.mp hp with rfl | hp
      · exact fun q => htl _ q.symm
      · exact ht p hp
    · rw [layW_ne e]
      rcases List.mem_cons.mp hp with rfl | hp
      · exact fun q => e (hl.inj _ _ q).symm
      · exact hl.off p (.tail _ hp) sl
  · have up : ∀ {sl : Slot} {o : Obj}, sl ≠ .wire → sl ≠ .net → O sl = o → put (put O .net o') .wire (listOf ([] : List Value).toArray 0) sl = o := fun h1 h2 h => (put_ne h1).trans ((put_ne h2).trans h)
    refine ⟨⟨?_, fun e => ?_, fun e => ?_⟩, ⟨⟨o', (put_ne (by simp)).trans put_self, hD⟩, fun k => ?_, fun e => ?_⟩, fun e => ?_, fun e => ?_, fun e => ?_, fun e => ?_, fun e => ?_, fun e => ?_, fun e u => ?_, fun e => ?_, fun e => ?_, fun e => ?_, fun e => ?_, fun e => ?_, fun e => ?_, ⟨[], 0, put_self, .nil⟩, ?_, ?_⟩
    · refine up (by simp) (by simp) (R.fx.ends.trans ?_)
      congr 1
      funext e
      rw [layW_ne (by simp)]
    · rw [layW_ne (by simp)]; exact up (by simp) (by simp) (R.fx.inst e)
    · obtain ⟨a, b, c, q⟩ := R.fx.dct e
      refine ⟨a, b, c, up (by simp) (by simp) (q.trans ?_)⟩
      unfold dctObj
      rw [layW_ne (by simp), layW_ne (by simp), layW_ne (by simp), layW_ne (by simp), layW_ne (by simp), layW_ne (by simp)]
    · obtain ⟨a, q⟩ := R.fn.outer k
      refine ⟨a, up (by simp) (by simp) (q.trans ?_)⟩
      congr 1
      funext e
      rw [layW_ne (by simp)]
    · obtain ⟨a, q⟩ := R.fn.orow e
      refine ⟨a, up (by simp) (by simp) (q.trans ?_)⟩
      congr 1
      funext e
      rw [layW_ne (by simp)]
    · obtain ⟨a, b, q⟩ := R.first e; exact ⟨a, b, up (by simp) (by simp) q⟩
    · obtain ⟨a, b, q⟩ := R.known e; exact ⟨a, b, up (by simp) (by simp) q⟩
    · obtain ⟨a, b, q⟩ := R.opened e; exact ⟨a, b, up (by simp) (by simp) q⟩
    · obtain ⟨a, b, q⟩ := R.heard e; exact ⟨a, b, up (by simp) (by simp) q⟩
    · obtain ⟨a, b, q⟩ := R.told e; exact ⟨a, b, up (by simp) (by simp) q⟩
    · obtain ⟨a, q⟩ := R.lost e; exact ⟨a, up (by simp) (by simp) q⟩
    · obtain ⟨a, b, q, i⟩ := R.over e u; exact ⟨a, b, up (by simp) (by simp) q, i⟩
    · obtain ⟨a, b, q⟩ := R.ownL e; exact ⟨a, b, up (by simp) (by simp) q⟩
    · obtain ⟨a, b, q⟩ := R.ownM e; exact ⟨a, b, up (by simp) (by simp) q⟩
    · obtain ⟨a, b, q⟩ := R.peerM e; exact ⟨a, b, up (by simp) (by simp) q⟩
    · obtain ⟨a, b, q⟩ := R.toldL e; exact ⟨a, b, up (by simp) (by simp) q⟩
    · obtain ⟨a, b, q⟩ := R.peerL e; exact ⟨a, b, up (by simp) (by simp) q⟩
    · obtain ⟨a, q⟩ := R.owes e; exact ⟨a, up (by simp) (by simp) q⟩
    · obtain ⟨a, b, q⟩ := R.box; exact ⟨a, b, by rw [layW_ne (by simp)]; exact up (by simp) (by simp) q⟩
    · obtain ⟨a, b, c, q, i⟩ := R.scr; exact ⟨a, b, c, up (by simp) (by simp) q, i⟩
end
end

/-! part Q6 -/
section

/-- told so far -/
noncomputable def Done (S : St) (i : Nat) : Prop := ∀ j, j < i → S.told (pe j) (ps j) = letsOf S (pe j) (ps j) ∧ S.lost (pe j) (ps j) = false
theorem Done.next {S : St} {i : Nat} (h : Done S i) : Done (toldS S (pe i) (ps i)) (i + 1) := fun j hj => by
  by_cases z : pe j = pe i ∧ ps j = ps i
  · rw [z.1, z.2, toldS_lets]; exact ⟨toldS_told, toldS_lost⟩
  · have hji : j < i := by
      refine Nat.lt_of_le_of_ne (Nat.le_of_lt_succ hj) fun q => z ?_
      rw [q]; exact ⟨rfl, rfl⟩
    obtain ⟨a, b⟩ := toldS_other (S := S) z
    rw [a, b, toldS_lets]
    exact h j hji
theorem Done.all {S : St} (h : Done S 4) (e u : Bool) : S.told e u = letsOf S e u ∧ S.lost e u = false := by
  cases e <;> cases u
  · exact h 0 (by decide)
  · exact h 1 (by decide)
  · exact h 2 (by decide)
  · exact h 3 (by decide)
theorem law_end (w : World) (lay : Slot → Addr) (W : Led) (O : Slot → Obj) (hl : Lay lay W) (S : St) (R : Rel w lay W O S) (K : Ok S 30 S.wire) : LawAt w 8 lay W O := by
  unfold LawAt
  intro oc od name qual params body scope dV kV doc pm an cdv ct osl hb p loose mean mg mb dp un gd f cd9 A₀ base h₀ L ev m s Q B F X N T XB TB hd hu LC hbox hev ret
  refine law_lit (P := fun q b sc => wpAny (model PR w) (ktrTop dp un gd q sc L f cd9 (lawCl L) []) (execs (b.drop 8) (envX q sc L f cd9 (lawCl L))) Q (fun _ _ => False) s) hb (by k_is) ?_
  (try dsimp only)
  show wpAny _ _ (execs (_ :: _) _) _ _ _
  have LC' := LC
  obtain ⟨⟨oN, mN, dN⟩, ⟨oE, mE, dE⟩, hEv⟩ := LC'
  obtain ⟨on, hnet, hnd⟩ := R.fn.net
  obtain ⟨wvs, wn, hwi, hww⟩ := R.wire
  repeat' ((fail_if_success (with_reducible show LCg.CompSrc _ _ _ _ _ _ _ _ _ _ _ _ _ _)); (fail_if_success (with_reducible show LCt.CompSrcT _ _ _ _ _ _ _ _ _ _ _ _ _ _ _)); (fail_if_success (with_reducible show wpAny _ _ (pyIter _) _ _ _)); (fail_if_success (with_reducible show wpAny _ _ (setItem (Value.ref _) (Value.str _ _) _) _ _ _)); (fail_if_success (with_reducible show wpAny _ _ (exec (Stmt.For _ _ _ _ _) _) _ _ _)); first | (k_unfold; (try dsimp only)) | ((with_reducible show wpAny _ _ (execs (_ :: _) _) _ _ (Shared.mk _ _ _ (HAdd.hAdd _ _) _)); refine genT ?_; intro tk9) | ((with_reducible show wpAny _ _ (exec _ _) _ _ _); (fail_if_success (fail_if_success k_fold)); refine letQ ?_; intro q9) | ktr_member | ((fail_if_success (with_reducible show (if _ then _ else _))); first | walk1 | (dsimp only; walk1)))
  refine set_net (by k_asm) (by k_asm) (by assumption) hnet hnd ?_
  intro h8 o8 F8 N8 hD8
  (try dsimp only)
  repeat' ((fail_if_success (with_reducible show LCg.CompSrc _ _ _ _ _ _ _ _ _ _ _ _ _ _)); (fail_if_success (with_reducible show LCt.CompSrcT _ _ _ _ _ _ _ _ _ _ _ _ _ _ _)); (fail_if_success (with_reducible show wpAny _ _ (pyIter _) _ _ _)); (fail_if_success (with_reducible show wpAny _ _ (setItem (Value.ref _) (Value.str _ _) _) _ _ _)); (fail_if_success (with_reducible show wpAny _ _ (exec (Stmt.For _ _ _ _ _) _) _ _ _)); first | (k_unfold; (try dsimp only)) | ((with_reducible show wpAny _ _ (execs (_ :: _) _) _ _ (Shared.mk _ _ _ (HAdd.hAdd _ _) _)); refine genT ?_; intro tk9) | ((with_reducible show wpAny _ _ (exec _ _) _ _ _); (fail_if_success (fail_if_success k_fold)); refine letQ ?_; intro q9) | ktr_member | ((fail_if_success (with_reducible show (if _ then _ else _))); first | walk1 | (dsimp only; walk1)))
  have Z := relay (by assumption) (by assumption) R hD8 N8 hwi
  obtain ⟨lay2, O2, N9, hl9, R9, eN, eE⟩ : ∃ (lay2 : Slot → Addr) (O2 : Slot → Obj), News h₀ L h8 (((lay .wire, listOf wvs.toArray wn) :: W) ++ Lg lay2 O2) ∧ Lay lay2 ((lay .wire, listOf wvs.toArray wn) :: W) ∧ Rel w lay2 ((lay .wire, listOf wvs.toArray wn) :: W) O2 { S with wire := [] } ∧ lay2 .net = lay .net ∧ lay2 .ends = lay .ends := ⟨_, _, Z.1, Z.2.1, Z.2.2, layW_ne (by simp), layW_ne (by simp)⟩
  rw [← eN] at dN
  rw [← eE] at dE
  clear Z eN eE hD8
  have hC9 : ∀ p ∈ W, p ∈ (lay .wire, listOf wvs.toArray wn) :: W := fun p h => .tail _ h
  have f0 : ¬ (!true) = true := by decide
  refine For_invT h₀ ?_ (by intro _; rfl) PassesOwn.never
  repeat' ((fail_if_success (with_reducible show LCg.CompSrc _ _ _ _ _ _ _ _ _ _ _ _ _ _)); (fail_if_success (with_reducible show LCt.CompSrcT _ _ _ _ _ _ _ _ _ _ _ _ _ _ _)); (fail_if_success (with_reducible show wpAny _ _ (pyIter _) _ _ _)); (fail_if_success (with_reducible show wpAny _ _ (exec (Stmt.For _ _ _ _ _) _) _ _ _)); first | (k_unfold; (try dsimp only)) | ((with_reducible show wpAny _ _ (execs (_ :: _) _) _ _ (Shared.mk _ _ _ (HAdd.hAdd _ _) _)); refine genT ?_; intro tk9) | ((with_reducible show wpAny _ _ (exec _ _) _ _ _); (fail_if_success (fail_if_success k_fold)); refine letQ ?_; intro q9) | ktr_member | ((fail_if_success (with_reducible show (if _ then _ else _))); first | walk1 | (dsimp only; walk1)))
  refine loop_every (w := w) (lay := lay2) (fun i m₁ S₁ => m₁ (Str.ofString "words") = some (.ref (lay .wire)) ∧ m₁ (Str.ofString "every") = some (.ref ev) ∧ Ok S₁ (30 + i) (S.wire ++ S₁.wire) ∧ Done S₁ i) rfl (by k_asm) N9 hl9 R9 (hEv.mono hC9) ?_ (by rfl) (by rfl) (by rfl) ?_ ?_
  · refine ⟨if_pos rfl, (if_neg (by decide)).trans hev, ?_, fun j hj => absurd hj (Nat.not_lt_zero _)⟩
    rw [List.append_nil]
    exact K.wire [] (Nat.zero_le _)
  · intro i m₁ W₁ O₁ S₁ ta tb s₁ hi hJ R₁ hC₁ hl₁ F₁ N₁
    obtain ⟨hw1, he1, K1, D1⟩ := hJ
    have mN1 := hC₁ _ (hC9 _ mN)
    have mE1 := hC₁ _ (hC9 _ mE)
    repeat' ((fail_if_success (with_reducible show LCg.CompSrc _ _ _ _ _ _ _ _ _ _ _ _ _ _)); (fail_if_success (with_reducible show LCt.CompSrcT _ _ _ _ _ _ _ _ _ _ _ _ _ _ _)); (fail_if_success (with_reducible show wpAny _ _ (pyIter _) _ _ _)); (fail_if_success (with_reducible show wpAny _ _ (call (Value.ref 165) _) _ _ _)); first | (k_unfold; (try dsimp only)) | ((with_reducible show wpAny _ _ (execs (_ :: _) _) _ _ (Shared.mk _ _ _ (HAdd.hAdd _ _) _)); refine genT ?_; intro tk9) | ((with_reducible show wpAny _ _ (exec _ _) _ _ _); (fail_if_success (fail_if_success k_fold)); refine letQ ?_; intro q9) | ktr_member | ((fail_if_success (with_reducible show (if _ then _ else _))); first | walk1 | (dsimp only; walk1)))
    refine' Fn.use ?k1 ?k2 ?k3 ?k4 ?k5 ?kK (c_told w lay2 _ _ ?kl S₁ R₁ (pe i) (ps i) _ _ ?b1 ?b2) ?kd ?ku ?_
    (case k1 => k_asm)
    (case k2 => k_asm)
    (case k3 => k_asm)
    (case k4 => k_asm)
    (case k5 => k_asm)
    (case kK => first | exact rfl | assumption)
    (case kd => ktr_room)
    (case ku => ktr_units)
    (case kl => assumption)
    (case b1 => have := K1.ov (pe i) (ps i); omega)
    (case b2 => have := K1.wl; omega)
    intro r9 W9 O9 h9 tk9 F9 N9 hl9 hs9 hP9
    (try dsimp only)
    (try k_sweep)
    obtain ⟨rfl, R10⟩ := hP9
    repeat' ((fail_if_success (with_reducible show LCg.CompSrc _ _ _ _ _ _ _ _ _ _ _ _ _ _)); (fail_if_success (with_reducible show LCt.CompSrcT _ _ _ _ _ _ _ _ _ _ _ _ _ _ _)); (fail_if_success (with_reducible show wpAny _ _ (pyIter _) _ _ _)); (fail_if_success (with_reducible show wpAny _ _ (call (Value.ref 165) _) _ _ _)); first | (k_unfold; (try dsimp only)) | ((with_reducible show wpAny _ _ (execs (_ :: _) _) _ _ (Shared.mk _ _ _ (HAdd.hAdd _ _) _)); refine genT ?_; intro tk9) | ((with_reducible show wpAny _ _ (exec _ _) _ _ _); (fail_if_success (fail_if_success k_fold)); refine letQ ?_; intro q9) | ktr_member | ((fail_if_success (with_reducible show (if _ then _ else _))); first | walk1 | (dsimp only; walk1)))
    refine ⟨rfl, h9, tk9, _, W9, O9, toldS S₁ (pe i) (ps i), rfl, F9, N9, hl9, hs9, R10, ?_, ?_, ?_, D1.next⟩
    · exact (if_neg (by decide)).trans ((if_neg (by decide)).trans hw1)
    · exact (if_neg (by decide)).trans ((if_neg (by decide)).trans he1)
    · rw [toldS_wire, ← List.append_assoc]
      exact K1.told _ _
  · intro m₁ W₁ O₁ S₁ h tk hJ R₁ hC₁ hl₁ F₁ N₁
    obtain ⟨hw1, he1, K1, D1⟩ := hJ
    have mN1 := hC₁ _ (hC9 _ mN)
    have mE1 := hC₁ _ (hC9 _ mE)
    have mW1 := hC₁ _ (.head _)
    have hC2 : ∀ p ∈ W, p ∈ W₁ := fun p h => hC₁ _ (hC9 _ h)
    obtain ⟨on1, hnet1, hnd1⟩ := R₁.fn.net
    obtain ⟨wvs1, wn1, hwi1, hww1⟩ := R₁.wire
    have hwords := (hww.mono hC2).append hww1
    have hlen := hwords.length
    have hlen1 := hww.length
    have hlen2 := hww1.length
    have hwl := K1.wl
    have hwl0 := K.wl
    clear N9 hl9 R9 N8 F8
    repeat' ((fail_if_success (with_reducible show LCg.CompSrc _ _ _ _ _ _ _ _ _ _ _ _ _ _)); (fail_if_success (with_reducible show LCt.CompSrcT _ _ _ _ _ _ _ _ _ _ _ _ _ _ _)); (fail_if_success (with_reducible show wpAny _ _ (pyIter _) _ _ _)); (fail_if_success (with_reducible show wpAny _ _ (binaryOp Operator.Add (Value.ref _) (Value.ref _)) _ _ _)); (fail_if_success (with_reducible show wpAny _ _ (eval (Expr.ListComp _ _ _ _) _) _ _ _)); first | (k_unfold; (try dsimp only)) | ((with_reducible show wpAny _ _ (execs (_ :: _) _) _ _ (Shared.mk _ _ _ (HAdd.hAdd _ _) _)); refine genT ?_; intro tk9) | ((with_reducible show wpAny _ _ (exec _ _) _ _ _); (fail_if_success (fail_if_success k_fold)); refine letQ ?_; intro q9) | ktr_member | ((fail_if_success (with_reducible show (if _ then _ else _))); first | walk1 | (dsimp only; walk1)))
    refine ListComp_none (F₀ := by k_asm) (by with_unfolding_all rfl) (by decide) (by rfl) (by decide) ?_
    repeat' ((fail_if_success (with_reducible show LCg.CompSrc _ _ _ _ _ _ _ _ _ _ _ _ _ _)); (fail_if_success (with_reducible show LCt.CompSrcT _ _ _ _ _ _ _ _ _ _ _ _ _ _ _)); (fail_if_success (with_reducible show wpAny _ _ (pyIter _) _ _ _)); (fail_if_success (with_reducible show wpAny _ _ (binaryOp Operator.Add (Value.ref _) (Value.ref _)) _ _ _)); (fail_if_success (with_reducible show wpAny _ _ (eval (Expr.ListComp _ _ _ _) _) _ _ _)); first | (k_unfold; (try dsimp only)) | ((with_reducible show wpAny _ _ (execs (_ :: _) _) _ _ (Shared.mk _ _ _ (HAdd.hAdd _ _) _)); refine genT ?_; intro tk9) | ((with_reducible show wpAny _ _ (exec _ _) _ _ _); (fail_if_success (fail_if_success k_fold)); refine letQ ?_; intro q9) | ktr_member | ((fail_if_success (with_reducible show (if _ then _ else _))); first | walk1 | (dsimp only; walk1)))
    refine kmk_add_lit (zs := wvs ++ wvs1) (by k_asm) (by k_asm) (News.isList (by k_asm) (mem_W mW1)) (News.isList (by k_asm) (mem_O hwi1)) (by simp) ?_ (by rw [sizeLine_eq]; simp; omega)
    intro D9 h9 F9 N9 l9
    (try dsimp only)
    repeat' ((fail_if_success (with_reducible show LCg.CompSrc _ _ _ _ _ _ _ _ _ _ _ _ _ _)); (fail_if_success (with_reducible show LCt.CompSrcT _ _ _ _ _ _ _ _ _ _ _ _ _ _ _)); (fail_if_success (with_reducible show wpAny _ _ (pyIter _) _ _ _)); (fail_if_success (with_reducible show wpAny _ _ (binaryOp Operator.Add (Value.ref _) (Value.ref _)) _ _ _)); (fail_if_success (with_reducible show wpAny _ _ (eval (Expr.ListComp _ _ _ _) _) _ _ _)); first | (k_unfold; (try dsimp only)) | ((with_reducible show wpAny _ _ (execs (_ :: _) _) _ _ (Shared.mk _ _ _ (HAdd.hAdd _ _) _)); refine genT ?_; intro tk9) | ((with_reducible show wpAny _ _ (exec _ _) _ _ _); (fail_if_success (fail_if_success k_fold)); refine letQ ?_; intro q9) | ktr_member | ((fail_if_success (with_reducible show (if _ then _ else _))); first | walk1 | (dsimp only; walk1)))
    have N9' : News h₀ L h9 (((D9, listOf (wvs ++ wvs1).toArray 0) :: W₁) ++ Lg lay2 O₁) := N9
    have hlD : Lay lay2 ((D9, listOf (wvs ++ wvs1).toArray 0) :: W₁) := hl₁.cons fun sl q => absurd (l9 (lay2 sl, O₁ sl) (mem_O rfl)) (by rw [← q]; exact Nat.lt_irrefl _)
    refine comp_led (lay := lay2) (W := (D9, listOf (wvs ++ wvs1).toArray 0) :: W₁) (O := O₁) (S := S₁) (C := (D9, listOf (wvs ++ wvs1).toArray 0) :: W₁) (n := 0) (J := fun i S₂ => Ok S₂ 34 ((S.wire ++ S₁.wire).drop i) ∧ S₂.told = S₁.told ∧ S₂.lost = S₁.lost ∧ S₂.first = S₁.first ∧ S₂.over = S₁.over) (Bd := fun _ v m₂ => m₂ (Str.ofString "word") = some v) rfl (by k_asm) N9' hlD (R₁.mono fun _ h => .tail _ h) (fun _ h => h) (.head _) ⟨K1, rfl, rfl, rfl, rfl⟩ (asg_name (by rfl) (by rfl)) ?_ ?_
    · intro g8 j vj W₂ O₂ S₂ Ia oI Ca oC Da m₂ h2 tk2 E2 hvj hJ2 R2 hC3 nC bd F2 N2 hl2
      obtain ⟨K2, e1, e2, e3, e4⟩ := hJ2
      have hj : j < (S.wire ++ S₁.wire).length := by
        have := (Array.getElem?_eq_some_iff.mp hvj).1
        simp at this
        rw [← hlen]; simpa using this
      obtain ⟨wa, items, wd, hw1', hw2, hwm, hwi9⟩ := hwords.at j hj
      have hvj' : vj = .ref wa := by
        have : (wvs ++ wvs1)[j]? = some vj := by simpa using hvj
        rw [hw1'] at this
        exact (Option.some.inj this).symm
      subst hvj'
      replace bd : m₂ (Str.ofString "word") = some (.ref wa) := bd
      have mN2 : (L + 1 + 1, oN) ∈ (Ia, oI) :: (Ca, oC) :: (Da, LCg.lst []) :: W₂ := .tail _ (.tail _ (.tail _ (hC3 _ (.tail _ mN1))))
      have mE2 : (L + 1, oE) ∈ (Ia, oI) :: (Ca, oC) :: (Da, LCg.lst []) :: W₂ := .tail _ (.tail _ (.tail _ (hC3 _ (.tail _ mE1))))
      have hd1 : (S.wire ++ S₁.wire).drop j = wd :: (S.wire ++ S₁.wire).drop (j + 1) := by
        rw [List.drop_eq_getElem_cons hj]
        congr 1
        exact Option.some.inj ((List.getElem?_eq_getElem hj).symm.trans hw2)
      have hwX : wd ∈ (S.wire ++ S₁.wire).drop j := by rw [hd1]; exact .head _
      repeat' ((fail_if_success (with_reducible show LCg.CompSrc _ _ _ _ _ _ _ _ _ _ _ _ _ _)); (fail_if_success (with_reducible show LCt.CompSrcT _ _ _ _ _ _ _ _ _ _ _ _ _ _ _)); (fail_if_success (with_reducible show wpAny _ _ (pyIter _) _ _ _)); (fail_if_success (with_reducible show wpAny _ _ (call (Value.ref 177) _) _ _ _)); (fail_if_success (with_reducible show wpAny _ _ (compareOp CmpOp.Eq (Value.ref _) (Value.ref _)) _ _ _)); first | (k_unfold; (try dsimp only)) | ((with_reducible show wpAny _ _ (execs (_ :: _) _) _ _ (Shared.mk _ _ _ (HAdd.hAdd _ _) _)); refine genT ?_; intro tk9) | ((with_reducible show wpAny _ _ (exec _ _) _ _ _); (fail_if_success (fail_if_success k_fold)); refine letQ ?_; intro q9) | ktr_member | ((fail_if_success (with_reducible show (if _ then _ else _))); first | walk1 | (dsimp only; walk1)))
      refine' Fn.use ?k1 ?k2 ?k3 ?k4 ?k5 ?kK (c_comes w lay2 _ _ ?kl S₂ R2 wa items wd ?km hwi9 (K2.wg wd hwX).ok K2.k0 K2.k1 ?b2 ?b3) ?kd ?ku ?_
      (case k1 => k_asm)
      (case k2 => k_asm)
      (case k3 => k_asm)
      (case k4 => k_asm)
      (case k5 => k_asm)
      (case kK => first | exact rfl | assumption)
      (case kd => ktr_room)
      (case ku => ktr_units)
      (case kl => assumption)
      (case km => exact .tail _ (.tail _ (.tail _ (hC3 _ (.tail _ hwm)))))
      (case b2 => exact fun e u => Int.le_trans (K2.k2 e u) (K2.k3 e u))
      (case b3 => (intro e u; have := K2.told_lt e u; omega))
      intro r9 W8 O8 h9 tk9 F9 N9 hl8 hs8 hP9
      (try dsimp only)
      (try k_sweep)
      obtain ⟨rfl, R10⟩ := hP9
      have hJ3 : Ok (wdS S₂ wd) 34 ((S.wire ++ S₁.wire).drop (j + 1)) := K2.comes hwX (fun x hx => by rw [hd1] at hx; exact (List.mem_cons.mp hx).symm) (fun x hx => by rw [hd1]; exact .tail _ hx)
      have hsame : (wdS S₂ wd).told = S₁.told ∧ (wdS S₂ wd).lost = S₁.lost ∧ (wdS S₂ wd).first = S₁.first ∧ (wdS S₂ wd).over = S₁.over := by
        cases wd <;> exact ⟨e1, e2, e3, e4⟩
      repeat' ((fail_if_success (with_reducible show LCg.CompSrc _ _ _ _ _ _ _ _ _ _ _ _ _ _)); (fail_if_success (with_reducible show LCt.CompSrcT _ _ _ _ _ _ _ _ _ _ _ _ _ _ _)); (fail_if_success (with_reducible show wpAny _ _ (pyIter _) _ _ _)); (fail_if_success (with_reducible show wpAny _ _ (call (Value.ref 177) _) _ _ _)); (fail_if_success (with_reducible show wpAny _ _ (compareOp CmpOp.Eq (Value.ref _) (Value.ref _)) _ _ _)); first | (k_unfold; (try dsimp only)) | ((with_reducible show wpAny _ _ (execs (_ :: _) _) _ _ (Shared.mk _ _ _ (HAdd.hAdd _ _) _)); refine genT ?_; intro tk9) | ((with_reducible show wpAny _ _ (exec _ _) _ _ _); (fail_if_success (fail_if_success k_fold)); refine letQ ?_; intro q9) | ktr_member | ((fail_if_success (with_reducible show (if _ then _ else _))); first | walk1 | (dsimp only; walk1)))
      exact TestR.intro rfl (by k_asm) (by k_asm) hl8 hs8 R10 ⟨hJ3, hsame⟩
    · intro g8 W₂ O₂ S₂ hJ2 R2 hC3 hl2
      obtain ⟨K2, e1, e2, e3, e4⟩ := hJ2
      rw [List.drop_eq_nil_of_le (by simp; omega)] at K2
      have hrest : ∀ e u, S₂.heard e u = letsOf S₂ e u ∧ S₂.told e u = letsOf S₂ e u := fun e u => by
        obtain ⟨d1, d2⟩ := D1.all e u
        have l1 : letsOf S₂ e u = letsOf S₁ e u := by unfold letsOf; rw [e3, e4]
        have t1 : S₂.told e u = letsOf S₂ e u := by rw [e1, l1]; exact d1
        rcases K2.fin e u (by rw [e2]; exact d2) with h | h
        · exact ⟨h.trans t1, t1⟩
        · cases h
      unfold LCg.FinE
      intro D hh tk9 F9 N9 o9
      replace N9 : News h₀ L hh (((D, listOf ([] : List Value).toArray 0) :: W₂) ++ Lg lay2 O₂) := N9
      have hl9 : Lay lay2 ((D, listOf ([] : List Value).toArray 0) :: W₂) := lay_off1 hl2 o9
      have mN3 := hC3 _ (.tail _ mN1)
      have mE3 := hC3 _ (.tail _ mE1)
      have hC4 : ∀ p ∈ W, p ∈ W₂ := fun p h => hC3 _ (.tail _ (hC2 p h))
      clear N9' hlD R₁ hl₁ F₁ N₁
      repeat' ((fail_if_success (with_reducible show LCg.CompSrc _ _ _ _ _ _ _ _ _ _ _ _ _ _)); (fail_if_success (with_reducible show LCt.CompSrcT _ _ _ _ _ _ _ _ _ _ _ _ _ _ _)); (fail_if_success (with_reducible show wpAny _ _ (pyIter _) _ _ _)); (fail_if_success (with_reducible show wpAny _ _ (compareOp CmpOp.Eq (Value.ref _) (Value.ref _)) _ _ _)); (fail_if_success (with_reducible show wpAny _ _ (eval (Expr.ListComp _ _ _ _) _) _ _ _)); first | (k_unfold; (try dsimp only)) | ((with_reducible show wpAny _ _ (execs (_ :: _) _) _ _ (Shared.mk _ _ _ (HAdd.hAdd _ _) _)); refine genT ?_; intro tk9) | ((with_reducible show wpAny _ _ (exec _ _) _ _ _); (fail_if_success (fail_if_success k_fold)); refine letQ ?_; intro q9) | ktr_member | ((fail_if_success (with_reducible show (if _ then _ else _))); first | walk1 | (dsimp only; walk1)))
      obtain ⟨W5, hW5, N5, hl5⟩ : ∃ W5 : Led, (∀ p ∈ W₂, p ∈ W5) ∧ News h₀ L _ (W5 ++ Lg lay2 O₂) ∧ Lay lay2 W5 := ⟨(_, _) :: (_, _) :: W₂, fun p h => .tail _ (.tail _ h), by k_asm, by assumption⟩
      have mN5 := hW5 _ mN3
      have mE5 := hW5 _ mE3
      have R5 := R2.mono hW5
      obtain ⟨itn, its, evm, evz, evi⟩ := every_items (hEv.mono fun p h => hW5 p (hC4 p h))
      refine ListComp_none (F₀ := by k_asm) (by with_unfolding_all rfl) (by decide) (by rfl) (by decide) ?_
      repeat' ((fail_if_success (with_reducible show LCg.CompSrc _ _ _ _ _ _ _ _ _ _ _ _ _ _)); (fail_if_success (with_reducible show LCt.CompSrcT _ _ _ _ _ _ _ _ _ _ _ _ _ _ _)); (fail_if_success (with_reducible show wpAny _ _ (pyIter _) _ _ _)); (fail_if_success (with_reducible show wpAny _ _ (compareOp CmpOp.Eq (Value.ref _) (Value.ref _)) _ _ _)); (fail_if_success (with_reducible show wpAny _ _ (eval (Expr.ListComp _ _ _ _) _) _ _ _)); first | (k_unfold; (try dsimp only)) | ((with_reducible show wpAny _ _ (execs (_ :: _) _) _ _ (Shared.mk _ _ _ (HAdd.hAdd _ _) _)); refine genT ?_; intro tk9) | ((with_reducible show wpAny _ _ (exec _ _) _ _ _); (fail_if_success (fail_if_success k_fold)); refine letQ ?_; intro q9) | ktr_member | ((fail_if_success (with_reducible show (if _ then _ else _))); first | walk1 | (dsimp only; walk1)))
      refine comp_led (lay := lay2) (W := W5) (O := O₂) (S := S₂) (C := W5) (J := fun _ S₃ => Ok S₃ 34 [] ∧ S₃.heard = S₂.heard ∧ S₃.told = S₂.told ∧ S₃.first = S₂.first ∧ S₃.over = S₂.over) rfl (by k_asm) N5 hl5 R5 (fun _ h => h) evm ⟨K2, rfl, rfl, rfl, rfl⟩ (asg_pairs (B := fun i v₁ v₂ => i < 4 ∧ (∃ ta, v₁ = .int (b2i (pe i)) ta) ∧ ∃ tb, v₂ = .int (b2i (ps i)) tb) rfl (by rfl) (by rfl) (by rfl) (by decide) evi) ?_ ?_
      · intro g8 j vj W₃ O₃ S₃ Ia oI Ca oC Da m₂ h2 tk2 E2 hvj hJ3 R3 hC6 nC bd F3 N3 hl3
        obtain ⟨K3, e5, e6, e7, e8⟩ := hJ3
        obtain ⟨v₁, v₂, ⟨hj4, ⟨ta, rfl⟩, ⟨tb, rfl⟩⟩, ba, bb⟩ := bd
        have mN6 : (L + 1 + 1, oN) ∈ (Ia, oI) :: (Ca, oC) :: (Da, LCg.lst []) :: W₃ := .tail _ (.tail _ (.tail _ (hC6 _ mN5)))
        have mE6 : (L + 1, oE) ∈ (Ia, oI) :: (Ca, oC) :: (Da, LCg.lst []) :: W₃ := .tail _ (.tail _ (.tail _ (hC6 _ mE5)))
        have hl9' : ∀ e u, letsOf S₃ e u = letsOf S₂ e u := fun e u => by unfold letsOf; rw [e7, e8]
        repeat' ((fail_if_success (with_reducible show LCg.CompSrc _ _ _ _ _ _ _ _ _ _ _ _ _ _)); (fail_if_success (with_reducible show LCt.CompSrcT _ _ _ _ _ _ _ _ _ _ _ _ _ _ _)); (fail_if_success (with_reducible show wpAny _ _ (pyIter _) _ _ _)); (fail_if_success (with_reducible show wpAny _ _ (call (Value.ref 205) _) _ _ _)); (fail_if_success (with_reducible show wpAny _ _ (compareOp CmpOp.Eq (Value.ref _) (Value.ref _)) _ _ _)); first | (k_unfold; (try dsimp only)) | ((with_reducible show wpAny _ _ (execs (_ :: _) _) _ _ (Shared.mk _ _ _ (HAdd.hAdd _ _) _)); refine genT ?_; intro tk9) | ((with_reducible show wpAny _ _ (exec _ _) _ _ _); (fail_if_success (fail_if_success k_fold)); refine letQ ?_; intro q9) | ktr_member | ((fail_if_success (with_reducible show (if _ then _ else _))); first | walk1 | (dsimp only; walk1)))
        refine' Fn0.use ?k1 ?k2 ?k3 ?k4 ?k5 ?XB ?TB ?kK (c_rests w lay2 _ _ ?kl S₃ R3 34 [] K3 (by omega) (pe j) (ps j) _ _ ?hh ?ht) ?kd ?ku ?_
        (case k1 => k_asm)
        (case k2 => k_asm)
        (case k3 => k_asm)
        (case k4 => k_asm)
        (case k5 => k_asm)
        (case XB => exact XB)
        (case TB => exact TB)
        (case kK => first | exact rfl | assumption)
        (case kd => ktr_room)
        (case ku => ktr_units)
        (case kl => assumption)
        (case hh => rw [e5, hl9']; exact (hrest _ _).1)
        (case ht => rw [e6, hl9']; exact (hrest _ _).2)
        intro r9 W8 O8 h9 tk9 F9 N9 hl8 hs8 hP9
        (try dsimp only)
        obtain ⟨rfl, S₄, R4, K4, g1, g2, g3, g4⟩ := hP9
        repeat' ((fail_if_success (with_reducible show LCg.CompSrc _ _ _ _ _ _ _ _ _ _ _ _ _ _)); (fail_if_success (with_reducible show LCt.CompSrcT _ _ _ _ _ _ _ _ _ _ _ _ _ _ _)); (fail_if_success (with_reducible show wpAny _ _ (pyIter _) _ _ _)); (fail_if_success (with_reducible show wpAny _ _ (call (Value.ref 205) _) _ _ _)); (fail_if_success (with_reducible show wpAny _ _ (compareOp CmpOp.Eq (Value.ref _) (Value.ref _)) _ _ _)); first | (k_unfold; (try dsimp only)) | ((with_reducible show wpAny _ _ (execs (_ :: _) _) _ _ (Shared.mk _ _ _ (HAdd.hAdd _ _) _)); refine genT ?_; intro tk9) | ((with_reducible show wpAny _ _ (exec _ _) _ _ _); (fail_if_success (fail_if_success k_fold)); refine letQ ?_; intro q9) | ktr_member | ((fail_if_success (with_reducible show (if _ then _ else _))); first | walk1 | (dsimp only; walk1)))
        exact TestR.intro rfl (by k_asm) (by k_asm) hl8 hs8 R4 ⟨K4, g1.trans e5, g2.trans e6, g3.trans e7, g4.trans e8⟩
      · intro g8 W₃ O₃ S₃ hJ3 R3 hC6 hl3
        unfold LCg.FinE
        intro D hh tk9 F9 N9 o9
        replace N9 : News h₀ L hh (((D, listOf ([] : List Value).toArray 0) :: W₃) ++ Lg lay2 O₃) := N9
        have hl9 : Lay lay2 ((D, listOf ([] : List Value).toArray 0) :: W₃) := lay_off1 hl3 o9
        repeat' ((fail_if_success (with_reducible show LCg.CompSrc _ _ _ _ _ _ _ _ _ _ _ _ _ _)); (fail_if_success (with_reducible show LCt.CompSrcT _ _ _ _ _ _ _ _ _ _ _ _ _ _ _)); (fail_if_success (with_reducible show wpAny _ _ (pyIter _) _ _ _)); (fail_if_success (with_reducible show wpAny _ _ (compareOp CmpOp.Eq (Value.ref _) (Value.ref _)) _ _ _)); (fail_if_success (with_reducible show wpAny _ _ (eval (Expr.ListComp _ _ _ _) _) _ _ _)); first | (k_unfold; (try dsimp only)) | ((with_reducible show wpAny _ _ (execs (_ :: _) _) _ _ (Shared.mk _ _ _ (HAdd.hAdd _ _) _)); refine genT ?_; intro tk9) | ((with_reducible show wpAny _ _ (exec _ _) _ _ _); (fail_if_success (fail_if_success k_fold)); refine letQ ?_; intro q9) | ktr_member | ((fail_if_success (with_reducible show (if _ then _ else _))); first | walk1 | (dsimp only; walk1)))
        refine' eq_led (ns := []) (ms := []) ?k1 ?k2 ?k3 ?k4 ?k5 ?k6 ?_
        (case k1 => k_asm)
        (case k2 => exact .tail _ (.head _))
        (case k3 => exact .nil)
        (case k4 => exact .head _)
        (case k5 => exact .nil)
        (case k6 => ktr_units)
        exact ret _ _ _ _ (by k_asm) (by k_asm)
end

/-! part Q7 -/
section
open PySem PySem.W PySem.Calls PyProof.Rows PySem.Spec PyProof.Rows.LCg
section
variable {prog : Program} {w : World} {A : Around} {E : Value → Shared → Prop} {s : Shared} {elt i0 i1 : PySem.Expr} {a b : Str} {pa pb : Pos} {scope : Scope} {pos : Pos} {env : Env} {it acc : Value} {R : Result → Shared → Prop}
noncomputable abbrev two (elt i0 i1 : PySem.Expr) (a b : Str) (pa pb : Pos) (scope : Scope) (pos : Pos) : PySem.Expr := .ListComp elt [⟨.Name a pa, i0, [], 0⟩, ⟨.Name b pb, i1, [], 0⟩] scope pos
theorem two_turn1 : compTurn (two elt i0 i1 a b pa pb scope pos) 1 it acc env = (standAt i1.pos >>= fun _ => pyNext it >>= fun r => match r with
      | none => pure (.done .next)
      | some v => letOwnedTupleGo (.Name b pb) it v >>= fun _ => assign (.Name b pb) env v >>= fun _ =>
        (eval elt env >>= fun x => call (.builtin "list.append") [acc, x] >>= fun _ => pure ()) >>= fun _ =>
          again (.compLoop (two elt i0 i1 a b pa pb scope pos) 1 it acc env)) := by rfl
theorem two_turn0 : compTurn (two elt i0 i1 a b pa pb scope pos) 0 it acc env = (standAt i0.pos >>= fun _ => pyNext it >>= fun r => match r with
      | none => pure (.done .next)
      | some v => letOwnedTupleGo (.Name a pa) it v >>= fun _ => assign (.Name a pa) env v >>= fun _ =>
        eval i1 env >>= fun x => standAt i1.pos >>= fun _ => foldedSetIterable i1 env x >>= fun x => holding [x] (pyIter x) >>= fun it' => runOwn (.compStart (two elt i0 i1 a b pa pb scope pos) 1 it' acc env) env >>= fun _ =>
          again (.compLoop (two elt i0 i1 a b pa pb scope pos) 0 it acc env)) := by rfl
theorem two_start1 (h0 : codeAny (model prog w) A (.compLoop (two elt i0 i1 a b pa pb scope pos) 1 it acc env) R s)
    (h : wpAny (model prog w) A (pyIter it) (fun it' s' => codeAny (model prog w) A (.compLoop (two elt i0 i1 a b pa pb scope pos) 1 it' acc env) R s')
      (notedBy (model prog w) A env fun x s' => R (.error x) s') s) :
    codeAny (model prog w) A (.compStart (two elt i0 i1 a b pa pb scope pos) 1 it acc env) R s := by
  refine codeAny_of_tree ?_
  show wpAny _ _ ((compStart (two elt i0 i1 a b pa pb scope pos) 1 it acc env).onRaise (fun x => do noteFrame x env; standAt theWindowsPlace)) _ _ s
  refine wpAny_notedAt ?_
  unfold compStart
  show wpAny _ _ (ask >>= _) _ _ s
  refine wpAny_bind (wpAny_askSetting (wpAny_ite ?_))
  split
  · first
      | exact wpAny_bind (wpAny_pure (wpAny_pure (And.intro rfl h0)))
      | exact wpAny_pure (And.intro rfl h0)
  · refine wpAny_bind (wpAny_rule ?_)
    show wpAny _ _ (standAt i1.pos >>= _) _ _ s
    exact wpAny_bind (wpAny_standAt (wpAny_bind (wpAny_mono h (fun it' s' h' => wpAny_pure (And.intro rfl h')) fun _ _ x => x)))
/-- an inner round: for each u of us, the tuple (x0, u) comes to the list -/
theorem two_inner {cl : List (Str × Addr)} {env₀ : Env} {I T C D : Addr} {us : Array Value} {x0 : Value} {m₀ : Str → Option Value} {ys : List Value} (hh : A.handled = none) (hkind : scope.kind = .function) (hb : scope.names.lookup b = some .local) (hab : a ≠ b)
    (helt : ∀ (s' : Shared) (m' : Str → Option Value) (v : Value) (Q' : Value → Shared → Prop) (E' : Value → Shared → Prop), s'.heap.Ns C m' → m' a = some x0 → m' b = some v → wpAny (model prog w) A (newTuple [x0, v]) Q' E' s' → wpAny (model prog w) A (eval elt (compEnvC scope cl C env₀)) Q' E' s')
    (hIC : I ≠ C) (hID : I ≠ D) (hTI : T ≠ I) (hTC : T ≠ C) (hTD : T ≠ D) (hCD : C ≠ D)
    (hit : s.heap.IsTupleIter I T 0 ∧ s.heap.IsTuple T us) (hC : s.heap.Ns C m₀) (ha : m₀ a = some x0) (hD : s.heap.get? D = some (lst ys)) (hsz : ys.length + us.size ≤ 1000)
    (hR : ∀ (h' : Heap) (tk' : Nat) (m' : Str → Option Value) (ts : List Addr), ts.length = us.size → h'.Ns C m' → h'.get? D = some (lst (ys ++ ts.map Value.ref)) → (∀ (j : Nat) (t : Addr), ts[j]? = some t → s.heap.get? t = none ∧ ∃ v, us[j]? = some v ∧ h'.get? t = some (tupOf [x0, v])) →
      (∀ c o, c ≠ C → c ≠ D → c ≠ I → s.heap.get? c = some o → h'.get? c = some o) → R (.ok .next) { s with heap := h', toks := tk' }) :
    codeAny (model prog w) A (.compStart (two elt i0 i1 a b pa pb scope pos) 1 (.ref I) (.ref D) (compEnvC scope cl C env₀)) R s := by
  have W := Walks.tuple (prog := prog) (w := w) hh I T hTI us
  have loop : codeAny (model prog w) A (.compLoop (two elt i0 i1 a b pa pb scope pos) 1 (.ref I) (.ref D) (compEnvC scope cl C env₀)) R s := by
    refine codeAny_loop rfl (fun k s' => ∃ (h' : Heap) (tk' : Nat) (m' : Str → Option Value) (ts : List Addr), s' = { s with heap := h', toks := tk' } ∧ ts.length ≤ us.size ∧ k = us.size + 1 - ts.length ∧ (h'.IsTupleIter I T ts.length ∧ h'.IsTuple T us) ∧ h'.Ns C m' ∧ m' a = some x0 ∧ h'.get? D = some (lst (ys ++ ts.map Value.ref)) ∧
      (∀ (j : Nat) (t : Addr), ts[j]? = some t → s.heap.get? t = none ∧ ∃ v, us[j]? = some v ∧ h'.get? t = some (tupOf [x0, v])) ∧ (∀ c o, c ≠ C → c ≠ D → c ≠ I → s.heap.get? c = some o → h'.get? c = some o)) ?_ (us.size + 1)
      ⟨s.heap, s.toks, m₀, [], rfl, Nat.zero_le _, rfl, hit, hC, ha, by simpa using hD, fun j t h => by simp at h, fun c o _ _ _ h => h⟩
    rintro k s' ⟨h', tk', m', ts, rfl, hle, rfl, hst', hC', ha', hD', hts, hkeep⟩
    show wpAny _ _ ((compTurn (two elt i0 i1 a b pa pb scope pos) 1 (.ref I) (.ref D) (compEnvC scope cl C env₀)).onRaise (fun x => do noteFrame x (compEnvC scope cl C env₀); theTreesLotGoes x)) _ _ _
    refine wpAny_noted ?_
    rw [two_turn1]
    refine wpAny_bind (wpAny_standAt (wpAny_bind ?_))
    have hsI : s.heap.get? I ≠ none := by obtain ⟨o, ho, _⟩ := hit.1; rw [ho]; exact fun q => nomatch q
    have hsD : s.heap.get? D ≠ none := by rw [hD]; exact fun q => nomatch q
    have hsC : s.heap.get? C ≠ none := by obtain ⟨o, _, _, ho, _⟩ := hC; rw [ho]; exact fun q => nomatch q
    by_cases hlt : ts.length < us.size
    · refine W.item ts.length _ _ _ hlt hst' fun v h₂ tk₂ hPv hst₂ hk₂ => ?_
      refine wpAny_bind (wpAny_pure ?_)
      have hC₂ : h₂.Ns C m' := hC'.at' fun o e => hk₂ _ o (by simpa using Ne.symm hIC) e
      have hD₂ : h₂.get? D = some (lst (ys ++ ts.map Value.ref)) := hk₂ _ _ (by simpa using Ne.symm hID) hD'
      refine wpAny_bind (wpAny_assign_Name (wpAny_storeName_local (lookup_relabel_local hb) hC₂ (fun h₃ hn₃ hs₃ => ?_) (by simp [compEnvC, relabel, hkind])))
      refine wpAny_bind (wpAny_bind (helt _ _ v _ _ hn₃ (by simp [hab, ha']) (by simp) (wpAny_newTuple ?_ (by show 2 ≤ sizeLine; rw [sizeLine_eq]; decide))))
      have hD₃ : h₃.get? D = some (lst (ys ++ ts.map Value.ref)) := hs₃.extBut _ _ (Ne.symm hCD) hD₂
      refine wpAny_bind (append_at (hsz := by show (ys ++ ts.map Value.ref).toArray.size ≤ sizeLine; rw [List.size_toArray, List.length_append, List.length_map, sizeLine_eq]; omega) (Heap.get?_push_of_some _ hD₃) fun h₅ hs₅ hD₅ => ?_)
      refine wpAny_pure (wpAny_pure ⟨rfl, us.size + 1 - (ts.length + 1), by omega, ?_⟩)
      have up : ∀ c o, c ≠ C → c ≠ D → c ≠ I → h'.get? c = some o → h₅.get? c = some o := fun c o h1 h2 h3 e => hs₅.extBut _ _ h2 (Heap.get?_push_of_some _ (hs₃.extBut _ _ h1 (hk₂ _ _ (by simpa using h3) e)))
      have hnew : s.heap.get? h₃.objs.size = none := by
        cases q : s.heap.get? h₃.objs.size with
        | none => rfl
        | some o =>
          have cC : h₃.objs.size ≠ C := fun z => by obtain ⟨o', _, _, ho', _⟩ := hn₃; rw [← z] at ho'; exact absurd (Heap.lt_size ho') (Nat.lt_irrefl _)
          have cD : h₃.objs.size ≠ D := fun z => by rw [← z] at hD₃; exact absurd (Heap.lt_size hD₃) (Nat.lt_irrefl _)
          have cI : h₃.objs.size ≠ I := fun z => by
            obtain ⟨o', ho', _⟩ := hst₂.1
            have := hs₃.extBut _ _ hIC ho'
            rw [← z] at this
            exact absurd (Heap.lt_size this) (Nat.lt_irrefl _)
          have := hs₃.extBut _ _ cC (hk₂ _ _ (by simpa using cI) (hkeep _ o cC cD cI q))
          exact absurd (Heap.lt_size this) (Nat.lt_irrefl _)
      have tD : h₃.objs.size ≠ D := fun z => hsD (z ▸ hnew)
      refine ⟨h₅, _, fun y => if y = b then some v else m' y, ts ++ [h₃.objs.size], rfl, by rw [List.length_append]; exact hlt, by rw [List.length_append]; rfl, ?_, ?_, ?_, ?_, fun j t hj => ?_, fun c o h1 h2 h3 e => up c o h1 h2 h3 (hkeep c o h1 h2 h3 e)⟩
      · rw [List.length_append]
        refine W.frame _ _ _ hst₂ fun c hc o e => ?_
        have cc : c ≠ C ∧ c ≠ D := by
          rcases List.mem_cons.mp hc with rfl | hc
          · exact ⟨hIC, hID⟩
          · rw [List.mem_singleton.mp hc]; exact ⟨hTC, hTD⟩
        exact hs₅.extBut _ _ cc.2 (Heap.get?_push_of_some _ (hs₃.extBut _ _ cc.1 e))
      · exact (hn₃.at' fun o e => Heap.get?_push_of_some _ e).sameBut hs₅ hCD
      · exact (if_neg hab).trans ha'
      · refine hD₅.trans (congrArg some ?_)
        rw [List.map_append, ← List.append_assoc]
        exact lst_snoc _ _
      · by_cases hj2 : j < ts.length
        · rw [List.getElem?_append_left hj2] at hj
          obtain ⟨q1, v', q2, q3⟩ := hts j t hj
          exact ⟨q1, v', q2, up _ _ (fun z => hsC (z ▸ q1)) (fun z => hsD (z ▸ q1)) (fun z => hsI (z ▸ q1)) q3⟩
        · rw [List.getElem?_append_right (Nat.not_lt.mp hj2)] at hj
          have hj3 : j = ts.length := by
            have := (List.getElem?_eq_some_iff.mp hj).1
            simp at this
            omega
          subst hj3
          simp at hj
          subst hj
          exact ⟨hnew, v, hPv, hs₅.extBut _ _ tD (Heap.get?_push_size _ rfl)⟩
    · have hin : ts.length = us.size := Nat.le_antisymm hle (Nat.not_lt.mp hlt)
      rw [hin] at hst'
      refine W.done _ _ _ hst' fun h₂ tk₂ hk₂ => wpAny_pure ?_
      refine hR h₂ tk₂ m' ts hin (hC'.at' fun o e => hk₂ _ o (by simpa using Ne.symm hIC) e) (hk₂ _ _ (by simpa using Ne.symm hID) hD') (fun j t hj => ?_) fun c o h1 h2 h3 e => hk₂ _ _ (by simpa using h3) (hkeep c o h1 h2 h3 e)
      obtain ⟨q1, v', q2, q3⟩ := hts j t hj
      exact ⟨q1, v', q2, hk₂ _ _ (fun z => hsI ((List.mem_singleton.mp z) ▸ q1)) q3⟩
  exact two_start1 loop (W.self 0 _ _ _ hit loop)
theorem mark_none (hh : A.handled = none) : A.mark none = A := by
  cases A
  cases hh
  rfl
noncomputable def Made2 (h₀ h : Heap) (xs : Array Value) (ys : List Value) (i : Nat) : Prop := ∀ i', i' < i → ∀ j, j < 2 → ∃ t x u, ys[2 * i' + j]? = some (.ref t) ∧ xs[i']? = some x ∧ h.get? t = some (tupOf [x, .int (j : Int) u]) ∧ h₀.get? t = none
theorem two_outer {cl : List (Str × Addr)} {env₀ : Env} {I T C D : Addr} {xs : Array Value} {m₀ : Str → Option Value} (hh : A.handled = none) (hkind : scope.kind = .function) (hla : scope.names.lookup a = some .local) (hlb : scope.names.lookup b = some .local) (hab : a ≠ b)
    (helt : ∀ (s' : Shared) (m' : Str → Option Value) (u v : Value) (Q' : Value → Shared → Prop) (E' : Value → Shared → Prop), s'.heap.Ns C m' → m' a = some u → m' b = some v → wpAny (model prog w) A (newTuple [u, v]) Q' E' s' → wpAny (model prog w) A (eval elt (compEnvC scope cl C env₀)) Q' E' s')
    (hi1 : ∀ (s' : Shared) (Q' : Value → Shared → Prop) (E' : Value → Shared → Prop), (∀ tk u0 u1, wpAny (model prog w) A (newTuple [.int 0 u0, .int 1 u1]) Q' E' { s' with toks := tk }) → wpAny (model prog w) A (eval i1 (compEnvC scope cl C env₀)) Q' E' s')
    (hset : ∀ x, foldedSetIterable i1 (compEnvC scope cl C env₀) x = pure x)
    (hIC : I ≠ C) (hID : I ≠ D) (hTI : T ≠ I) (hTC : T ≠ C) (hTD : T ≠ D) (hCD : C ≠ D)
    (hit : s.heap.IsTupleIter I T 0 ∧ s.heap.IsTuple T xs) (hC : s.heap.Ns C m₀) (hD : s.heap.get? D = some (lst [])) (hsz : xs.size ≤ 400)
    (hR : ∀ (h' : Heap) (tk' : Nat) (m' : Str → Option Value) (ys : List Value), h'.Ns C m' → h'.get? D = some (lst ys) → ys.length = 2 * xs.size → Made2 s.heap h' xs ys xs.size →
      (∀ c o, c ≠ C → c ≠ D → c ≠ I → s.heap.get? c = some o → h'.get? c = some o) → R (.ok .next) { s with heap := h', toks := tk' }) :
    codeAny (model prog w) A (.compLoop (two elt i0 i1 a b pa pb scope pos) 0 (.ref I) (.ref D) (compEnvC scope cl C env₀)) R s := by
  have W := Walks.tuple (prog := prog) (w := w) hh I T hTI xs
  refine codeAny_loop rfl (fun k s' => ∃ (i : Nat) (h' : Heap) (tk' : Nat) (m' : Str → Option Value) (ys : List Value), s' = { s with heap := h', toks := tk' } ∧ i ≤ xs.size ∧ k = xs.size + 1 - i ∧ (h'.IsTupleIter I T i ∧ h'.IsTuple T xs) ∧ h'.Ns C m' ∧ h'.get? D = some (lst ys) ∧ ys.length = 2 * i ∧
      Made2 s.heap h' xs ys i ∧ (∀ c o, c ≠ C → c ≠ D → c ≠ I → s.heap.get? c = some o → h'.get? c = some o)) ?_ (xs.size + 1)
      ⟨0, s.heap, s.toks, m₀, [], rfl, Nat.zero_le _, rfl, hit, hC, hD, rfl, fun i' h => absurd h (Nat.not_lt_zero _), fun c o _ _ _ h => h⟩
  rintro k s' ⟨i, h', tk', m', ys, rfl, hle, rfl, hst', hC', hD', hyl, hmd, hkeep⟩
  show wpAny _ _ ((compTurn (two elt i0 i1 a b pa pb scope pos) 0 (.ref I) (.ref D) (compEnvC scope cl C env₀)).onRaise (fun x => do noteFrame x (compEnvC scope cl C env₀); theTreesLotGoes x)) _ _ _
  refine wpAny_noted ?_
  rw [two_turn0]
  refine wpAny_bind (wpAny_standAt (wpAny_bind ?_))
  have hsI : s.heap.get? I ≠ none := by obtain ⟨o, ho, _⟩ := hit.1; rw [ho]; exact fun q => nomatch q
  have hsD : s.heap.get? D ≠ none := by rw [hD]; exact fun q => nomatch q
  have hsC : s.heap.get? C ≠ none := by obtain ⟨o, _, _, ho, _⟩ := hC; rw [ho]; exact fun q => nomatch q
  by_cases hlt : i < xs.size
  · refine W.item i _ _ _ hlt hst' fun v h₂ tk₂ hPv hst₂ hk₂ => ?_
    refine wpAny_bind (wpAny_pure ?_)
    have hC₂ : h₂.Ns C m' := hC'.at' fun o e => hk₂ _ o (by simpa using Ne.symm hIC) e
    have hD₂ : h₂.get? D = some (lst ys) := hk₂ _ _ (by simpa using Ne.symm hID) hD'
    refine wpAny_bind (wpAny_assign_Name (wpAny_storeName_local (lookup_relabel_local hla) hC₂ (fun h₃ hn₃ hs₃ => ?_) (by simp [compEnvC, relabel, hkind])))
    have hD₃ : h₃.get? D = some (lst ys) := hs₃.extBut _ _ (Ne.symm hCD) hD₂
    refine wpAny_bind (hi1 _ _ _ fun tk₄ u0 u1 => wpAny_newTuple ?_ (by show 2 ≤ sizeLine; rw [sizeLine_eq]; decide))
    refine wpAny_bind (wpAny_standAt (wpAny_bind (wpAny_of_eq (hset _) (wpAny_bind (wpAny_holding ?_)))))
    let us : Array Value := #[.int 0 u0, .int 1 u1]
    have hT1 : (h₃.push { cls := .type "tuple", data := .seq ([Value.int 0 u0, .int 1 u1] : List Value).toArray }).IsTuple h₃.objs.size us := ⟨_, Heap.get?_push_size _ rfl, rfl, 0, rfl⟩
    refine wpAny_pyIter_tuple hT1 ?_
    refine wpAny_bind (wpAny_runOwn ?_ (by intro x; cases x))
    show codeAny _ (A.mark none) _ _ _
    rw [mark_none hh]
    have hsz2 : (h₃.push { cls := .type "tuple", data := .seq ([Value.int 0 u0, .int 1 u1] : List Value).toArray }).objs.size = h₃.objs.size + 1 := Heap.size_push ..
    have lC : C < h₃.objs.size := by obtain ⟨o, _, _, ho, _⟩ := hn₃; exact Heap.lt_size ho
    have lD : D < h₃.objs.size := Heap.lt_size hD₃
    have old : ∀ c o, h₃.get? c = some o → ((h₃.push { cls := .type "tuple", data := .seq ([Value.int 0 u0, .int 1 u1] : List Value).toArray }).push { cls := .type "tuple_iterator", data := .fields #[.ref h₃.objs.size, .int 0 0] }).get? c = some o := fun c o e => Heap.get?_push_of_some _ (Heap.get?_push_of_some _ e)
    have up2 : ∀ c o, c ≠ C → c ≠ I → h'.get? c = some o → h₃.get? c = some o := fun c o h1 h3 e => hs₃.extBut _ _ h1 (hk₂ _ _ (by simpa using h3) e)
    have lI : I < h₃.objs.size := by obtain ⟨o', ho', _⟩ := hst₂.1; exact Heap.lt_size (hs₃.extBut _ _ hIC ho')
    have hlen : ys.length + us.size ≤ 1000 := by show ys.length + 2 ≤ 1000; omega
    refine two_inner (us := us) (x0 := v) hh hkind hlb hab (fun s' m' u Q' E' h1 h2 h3 h4 => helt s' m' v u Q' E' h1 h2 h3 h4) (I := (h₃.push { cls := .type "tuple", data := .seq ([Value.int 0 u0, .int 1 u1] : List Value).toArray }).objs.size) (T := h₃.objs.size) (D := D) (ys := ys) ?_ ?_ ?_ ?_ ?_ hCD ⟨⟨_, Heap.get?_push_size _ rfl, rfl, rfl⟩, hT1.at fun o e => Heap.get?_push_of_some _ e⟩ (hn₃.at' fun o e => old _ o e) (if_pos rfl) (old _ _ hD₃) hlen ?_
    · rw [hsz2]; exact Nat.ne_of_gt (Nat.lt_succ_of_lt lC)
    · rw [hsz2]; exact Nat.ne_of_gt (Nat.lt_succ_of_lt lD)
    · rw [hsz2]; exact Nat.ne_of_lt (Nat.lt_succ_self _)
    · exact Nat.ne_of_gt lC
    · exact Nat.ne_of_gt lD
    · intro h₅ tk₅ m₅ ts htl hC₅ hD₅ hts hk₅
      have htl2 : ts.length = 2 := htl
      refine wpAny_pure ⟨rfl, xs.size + 1 - (i + 1), by omega, i + 1, h₅, tk₅, m₅, ys ++ ts.map Value.ref, rfl, hlt, rfl, ?_, hC₅, hD₅, ?_, ?_, ?_⟩
      · refine W.frame _ _ _ hst₂ fun c hc o e => ?_
        have cc : c ≠ C ∧ c ≠ D := by
          rcases List.mem_cons.mp hc with rfl | hc
          · exact ⟨hIC, hID⟩
          · rw [List.mem_singleton.mp hc]; exact ⟨hTC, hTD⟩
        have e3 := hs₃.extBut _ _ cc.1 e
        exact hk₅ _ _ cc.1 cc.2 (by rw [hsz2]; exact Nat.ne_of_lt (Nat.lt_succ_of_lt (Heap.lt_size e3))) (old _ _ e3)
      · rw [List.length_append, List.length_map, htl2, hyl]; omega
      · intro i' hi' j hj
        by_cases hii : i' < i
        · obtain ⟨t, x, u, q1, q2, q3, q4⟩ := hmd i' hii j hj
          have tc : t ≠ C := fun z => hsC (z ▸ q4)
          have tI : t ≠ I := fun z => hsI (z ▸ q4)
          have e3 := up2 t _ tc tI q3
          refine ⟨t, x, u, ?_, q2, hk₅ _ _ tc (fun z => hsD (z ▸ q4)) (by rw [hsz2]; exact Nat.ne_of_lt (Nat.lt_succ_of_lt (Heap.lt_size e3))) (old _ _ e3), q4⟩
          rw [List.getElem?_append_left (by rw [hyl]; omega)]
          exact q1
        · have hie : i' = i := by omega
          subst hie
          have hj2 : j < ts.length := by omega
          obtain ⟨q1, u, q2, q3⟩ := hts j ts[j] (List.getElem?_eq_getElem hj2)
          have hu : ∃ tu, u = .int (j : Int) tu := by
            rcases Nat.lt_succ_iff_lt_or_eq.mp hj with h | rfl
            · rw [Nat.lt_one_iff.mp h] at q2 ⊢; exact ⟨u0, (Option.some.inj q2).symm⟩
            · exact ⟨u1, (Option.some.inj q2).symm⟩
          obtain ⟨tu, rfl⟩ := hu
          refine ⟨ts[j], v, tu, ?_, hPv, q3, ?_⟩
          · rw [List.getElem?_append_right (by rw [hyl]; omega), hyl, Nat.add_sub_cancel_left, List.getElem?_map, List.getElem?_eq_getElem hj2]
            rfl
          · cases q : s.heap.get? ts[j] with
            | none => rfl
            | some o =>
              have bad : ∀ o', h₃.get? ts[j] ≠ some o' := fun o' e => by rw [old _ _ e] at q1; cases q1
              by_cases c1 : ts[j] = C
              · obtain ⟨o', _, _, ho', _⟩ := hn₃
                rw [← c1] at ho'
                exact absurd ho' (bad _)
              · by_cases c2 : ts[j] = D
                · rw [← c2] at hD₃; exact absurd hD₃ (bad _)
                · by_cases c3 : ts[j] = I
                  · obtain ⟨o', ho', _⟩ := hst₂.1
                    have := hs₃.extBut _ _ hIC ho'
                    rw [← c3] at this
                    exact absurd this (bad _)
                  · exact absurd (up2 _ _ c1 c3 (hkeep _ _ c1 c2 c3 q)) (bad _)
      · intro c o h1 h2 h3 e
        have e3 := up2 c o h1 h3 (hkeep c o h1 h2 h3 e)
        exact hk₅ _ _ h1 h2 (by rw [hsz2]; exact Nat.ne_of_lt (Nat.lt_succ_of_lt (Heap.lt_size e3))) (old _ _ e3)
  · have hin : i = xs.size := Nat.le_antisymm hle (Nat.not_lt.mp hlt)
    subst hin
    refine W.done _ _ _ hst' fun h₂ tk₂ hk₂ => wpAny_pure ?_
    refine hR h₂ tk₂ m' ys (hC'.at' fun o e => hk₂ _ o (by simpa using Ne.symm hIC) e) (hk₂ _ _ (by simpa using Ne.symm hID) hD') hyl (fun i' hi' j hj => ?_) fun c o h1 h2 h3 e => hk₂ _ _ (by simpa using h3) (hkeep c o h1 h2 h3 e)
    obtain ⟨t, x, u, q1, q2, q3, q4⟩ := hmd i' hi' j hj
    exact ⟨t, x, u, q1, q2, hk₂ _ _ (fun z => hsI ((List.mem_singleton.mp z) ▸ q4)) q3, q4⟩
end
end

/-! part Q8 -/
section
open PySem PySem.W PySem.Calls PyProof.Rows PySem.Spec PyProof.Rows.LCg
theorem four_at {ys : List Value} {p0 p1 p2 p3 : Value} (h : ys.length = 4) (a : ys[0]? = some p0) (b : ys[1]? = some p1) (c : ys[2]? = some p2) (d : ys[3]? = some p3) : ys = [p0, p1, p2, p3] := by
  match ys, h, a, b, c, d with
  | [x0, x1, x2, x3], _, a, b, c, d =>
    rw [← Option.some.inj a, ← Option.some.inj b, ← Option.some.inj c, ← Option.some.inj d]
theorem lt_four {i : Nat} (h : i < 4) : i = 0 ∨ i = 1 ∨ i = 2 ∨ i = 3 := by omega
section
variable {prog : Program} {w : World} {A : Around} {E : Value → Shared → Prop} {s : Shared} {elt i0 i1 : PySem.Expr} {a b y : Str} {pa pb py : Pos} {scope : Scope} {pos spos : Pos} {env : Env} {h₀ : Heap} {L : Addr} {m : Str → Option Value} {news : Led} {cl : List (Str × Addr)}
theorem every_made {Q : Flow → Shared → Prop} (hLe : env.locals = L) (F : Fr h₀ L s.heap m) (N : News h₀ L s.heap news) (hh : A.handled = none)
    (hsw : swapsWith (two elt i0 i1 a b pa pb scope pos) (some (.Name y py)) spos.line env = pure true)
    (hclos : closureFor scope env = pure cl) (hcell : ∀ z ∈ scope.names, z.2 ≠ .cell) (hkind : scope.kind = .function)
    (hnames : ∀ z ∈ scope.names, z.2 = .local → scope.names.lookup z.1 = some .local) (hla : scope.names.lookup a = some .local) (hlb : scope.names.lookup b = some .local) (hab : a ≠ b)
    (hy : env.kindOf y = some .local) (hp : (env.scope.kind == .class || (env.scope.kind == .module && env.locals != env.globals)) = false)
    (helt : ∀ (C : Addr) (s' : Shared) (m' : Str → Option Value) (u v : Value) (Q' : Value → Shared → Prop) (E' : Value → Shared → Prop), s'.heap.Ns C m' → m' a = some u → m' b = some v → wpAny (model prog w) A (newTuple [u, v]) Q' E' s' → wpAny (model prog w) A (eval elt (compEnvC scope cl C env)) Q' E' s')
    (hi1 : ∀ (C : Addr) (s' : Shared) (Q' : Value → Shared → Prop) (E' : Value → Shared → Prop), (∀ tk u0 u1, wpAny (model prog w) A (newTuple [.int 0 u0, .int 1 u1]) Q' E' { s' with toks := tk }) → wpAny (model prog w) A (eval i1 (compEnvC scope cl C env)) Q' E' s')
    (hi0 : ∀ (Q' : Value → Shared → Prop) (E' : Value → Shared → Prop), (∀ tk u0 u1, wpAny (model prog w) A (newTuple [.int 0 u0, .int 1 u1]) Q' E' { s with toks := tk }) → wpAny (model prog w) A (eval i0 env) Q' E' s)
    (hs0 : ∀ x, foldedSetIterable i0 env x = pure x) (hs1 : ∀ C x, foldedSetIterable i1 (compEnvC scope cl C env) x = pure x)
    (hQ : ∀ (h' : Heap) (tk' : Nat) (ev : Addr) (Ev : Led), Fr h₀ L h' (fun z => if z = y then some (.ref ev) else m z) → News h₀ L h' (Ev ++ news) → Every Ev ev → (∀ p ∈ Ev, ∀ q ∈ news, p.1 ≠ q.1) → Q .next { s with heap := h', toks := tk' }) :
    wpAny (model prog w) A (exec (.Assign [.Name y py] (two elt i0 i1 a b pa pb scope pos) spos) env) Q E s := by
  subst hLe
  rw [exec_Assign_Name_used _ _ _ _ hsw]
  refine wpAny_bind (wpAny_standAt (wpAny_bind ?_))
  show wpAny _ A (do let _ ← comprehension (two elt i0 i1 a b pa pb scope pos) scope env _ (newList []) false (eval i0 env) (some (assign (.Name y py) env))) _ _ s
  refine wpAny_bind (wpAny_mono (wpAny_comprehension_free (use := some (assign (.Name y py) env)) (Q := fun _ s' => Q .next s') rfl hs0 hclos hkind hnames ?_) (fun _ s' hq => wpAny_pure (wpAny_pure hq)) fun _ _ e => e)
  refine hi0 _ _ fun tk u0 u1 => wpAny_newTuple ?_ (by show 2 ≤ sizeLine; rw [sizeLine_eq]; decide)
  dsimp only
  generalize hH1 : s.heap.push { cls := .type "tuple", data := .seq ([Value.int 0 u0, .int 1 u1] : List Value).toArray } = H1
  have z1 : H1.objs.size = s.heap.objs.size + 1 := by rw [← hH1, Heap.size_push]
  let xs : Array Value := #[.int 0 u0, .int 1 u1]
  have hT : H1.IsTuple s.heap.objs.size xs := ⟨_, hH1 ▸ Heap.get?_push_size _ rfl, rfl, 0, rfl⟩
  refine wpAny_pyIter_tuple hT ?_
  dsimp only
  generalize hH2 : H1.push { cls := .type "tuple_iterator", data := .fields #[.ref s.heap.objs.size, .int 0 0] } = H2
  have z2 : H2.objs.size = s.heap.objs.size + 2 := by rw [← hH2, Heap.size_push, z1]
  have hI2 : H2.get? H1.objs.size = some { cls := .type "tuple_iterator", data := .fields #[.ref s.heap.objs.size, .int 0 0] } := hH2 ▸ Heap.get?_push_size _ rfl
  refine wpAny_newObj_type (wpAny_newFunctionEnv hcell (by intro y hy; simp at hy) (fun h₁ hns₁ hsb₁ => ?_) hkind)
  dsimp only at hns₁ hsb₁ ⊢
  generalize hH3 : H2.push { cls := .type "list", dict := none, data := .seq ([] : List Value).toArray } = H3 at hns₁ hsb₁ ⊢
  have z3 : H3.objs.size = s.heap.objs.size + 3 := by rw [← hH3, Heap.size_push, z2]
  have old3 : ∀ c o, H2.get? c = some o → h₁.get? c = some o := fun c o e => hsb₁.extBut c o (Nat.ne_of_lt (by have := Heap.lt_size e; rw [z3]; rw [z2] at this; exact Nat.lt_succ_of_lt this)) (Heap.get?_push_of_some _ (hH3 ▸ Heap.get?_push_of_some _ e))
  have oldS : ∀ c o, s.heap.get? c = some o → h₁.get? c = some o := fun c o e => old3 c o (hH2 ▸ Heap.get?_push_of_some _ (hH1 ▸ Heap.get?_push_of_some _ e))
  have hD : h₁.get? H2.objs.size = some (lst []) := hsb₁.extBut _ _ (Nat.ne_of_lt (by rw [z2, z3]; exact Nat.lt_succ_self _)) (Heap.get?_push_of_some _ (hH3 ▸ Heap.get?_push_size _ rfl))
  have hitr : h₁.IsTupleIter H1.objs.size s.heap.objs.size 0 ∧ h₁.IsTuple s.heap.objs.size xs := ⟨⟨_, old3 _ _ hI2, rfl, rfl⟩, hT.at fun o e => old3 _ o (hH2 ▸ Heap.get?_push_of_some _ e)⟩
  have lt : ∀ c o, s.heap.get? c = some o → c < s.heap.objs.size := fun c o e => Heap.lt_size e
  have fresh₀ : ∀ c, s.heap.get? c = none → h₀.get? c = none := fun c q => by
    cases e : h₀.get? c with
    | none => rfl
    | some o => have := F.keep c o e; rw [q] at this; cases this
  have nS : ∀ c, s.heap.objs.size ≤ c → s.heap.get? c = none := fun c hc => by
    cases e : s.heap.get? c with
    | none => rfl
    | some o => exact absurd (lt _ _ e) (Nat.not_lt.mpr hc)
  have hLs : s.heap.get? env.locals ≠ none := by obtain ⟨o, _, _, ho, _⟩ := F.ns; rw [ho]; exact fun q => nomatch q
  have hfin : ∀ (h' : Heap) (tk' : Nat) (m' : Str → Option Value) (ys : List Value), h'.Ns H3.objs.size m' → h'.get? H2.objs.size = some (lst ys) → ys.length = 2 * xs.size → Made2 h₁ h' xs ys xs.size →
      (∀ c o, c ≠ H3.objs.size → c ≠ H2.objs.size → c ≠ H1.objs.size → h₁.get? c = some o → h'.get? c = some o) →
      compPost (model prog w) A E (some (assign (.Name y py) env)) (fun _ s' => Q .next s') (.ref H2.objs.size) H3.objs.size (.ok .next) { s with heap := h', toks := tk' } := by
    intro h' tk' m' ys hC' hD' hyl hmd hkeep
    have keepS : ∀ c o, s.heap.get? c = some o → h'.get? c = some o := fun c o e => by
      have l := lt c o e
      exact hkeep c o (Nat.ne_of_lt (by rw [z3]; exact Nat.lt_add_right 3 l)) (Nat.ne_of_lt (by rw [z2]; exact Nat.lt_add_right 2 l)) (Nat.ne_of_lt (by rw [z1]; exact Nat.lt_add_right 1 l)) (oldS c o e)
    have F' : Fr h₀ env.locals h' m := F.keeps keepS
    have N' : News h₀ env.locals h' news := fun p hp => ⟨keepS _ _ (N p hp).1, (N p hp).2⟩
    show wpAny _ A (assign (.Name y py) env (.ref H2.objs.size)) _ _ _
    refine wpAny_assign_Name (wpAny_storeName_local hy F'.ns (fun h₂ hn₂ hs₂ => ?_) hp)
    have hL₀ : h₀.get? env.locals = none := Heap.get?_none_of_le F'.above
    have hCL : H3.objs.size ≠ env.locals := fun q => hLs (q ▸ nS _ (by rw [z3]; omega))
    have hDL : H2.objs.size ≠ env.locals := fun q => hLs (q ▸ nS _ (by rw [z2]; omega))
    have F₂ : Fr h₀ env.locals h₂ (fun z => if z = y then some (.ref H2.objs.size) else m z) := ⟨hn₂, fun c o e => hs₂.extBut c o (fun q => by rw [q, hL₀] at e; cases e) (F'.keep c o e), F'.above⟩
    have hC₀ : h₀.get? H3.objs.size = none := fresh₀ _ (nS _ (by rw [z3]; omega))
    refine ⟨m', hC'.sameBut hs₂ hCL, fun h'' hs'' => ?_⟩
    have up : ∀ c o, c ≠ env.locals → c ≠ H3.objs.size → h'.get? c = some o → h''.get? c = some o := fun c o h1 h2 e => hs''.extBut c o h2 (hs₂.extBut c o h1 e)
    obtain ⟨t0, x0, v0, a1, a2, a3, a4⟩ := hmd 0 (by show 0 < 2; decide) 0 (by decide)
    obtain ⟨t1, x1, v1, b1, b2, b3, b4⟩ := hmd 0 (by show 0 < 2; decide) 1 (by decide)
    obtain ⟨t2, x2, v2, c1, c2, c3, c4⟩ := hmd 1 (by show 1 < 2; decide) 0 (by decide)
    obtain ⟨t3, x3, v3, d1, d2, d3, d4⟩ := hmd 1 (by show 1 < 2; decide) 1 (by decide)
    have hys : ys = [.ref t0, .ref t1, .ref t2, .ref t3] := four_at hyl a1 b1 c1 d1
    subst hys
    obtain rfl : Value.int 0 u0 = x0 := Option.some.inj a2
    obtain rfl : Value.int 0 u0 = x1 := Option.some.inj b2
    obtain rfl : Value.int 1 u1 = x2 := Option.some.inj c2
    obtain rfl : Value.int 1 u1 = x3 := Option.some.inj d2
    have tn : ∀ t, h₁.get? t = none → s.heap.get? t = none := fun t q => by
      cases e : s.heap.get? t with
      | none => rfl
      | some o => have := oldS _ _ e; rw [q] at this; cases this
    have tOk : ∀ t o, h₁.get? t = none → h'.get? t = some o → (h''.get? t = some o ∧ t ≠ env.locals ∧ h₀.get? t = none) := fun t o q e => by
      refine ⟨up t o (fun z => ?_) (fun z => ?_) e, fun z => ?_, fresh₀ _ (tn _ q)⟩
      · exact hLs (z ▸ tn _ q)
      · obtain ⟨o', _, _, ho', _⟩ := hns₁
        rw [z] at q
        rw [q] at ho'
        cases ho'
      · exact hLs (z ▸ tn _ q)
    refine hQ h'' _ H2.objs.size ((H2.objs.size, lst [.ref t0, .ref t1, .ref t2, .ref t3]) :: (t0, tupOf [.int 0 u0, .int (0 : Nat) v0]) :: (t1, tupOf [.int 0 u0, .int (1 : Nat) v1]) :: (t2, tupOf [.int 1 u1, .int (0 : Nat) v2]) :: [(t3, tupOf [.int 1 u1, .int (1 : Nat) v3])])
      (F₂.change hs'' hCL hC₀) (fun p hp => ?_) ?_ (fun p hp q hq => ?_)
    · rcases List.mem_append.mp hp with hp | hp
      · rcases List.mem_cons.mp hp with rfl | hp
        · exact ⟨up _ _ hDL (Nat.ne_of_lt (by rw [z2, z3]; exact Nat.lt_succ_self _)) hD', hDL, fresh₀ _ (nS _ (by rw [z2]; omega))⟩
        · rcases List.mem_cons.mp hp with rfl | hp
          · exact tOk _ _ a4 a3
          · rcases List.mem_cons.mp hp with rfl | hp
            · exact tOk _ _ b4 b3
            · rcases List.mem_cons.mp hp with rfl | hp
              · exact tOk _ _ c4 c3
              · rw [List.mem_singleton.mp hp]
                exact tOk _ _ d4 d3
      · have l := lt _ _ (N p hp).1
        exact ⟨up _ _ (N p hp).2.1 (Nat.ne_of_lt (by rw [z3]; exact Nat.lt_add_right 3 l)) (N' p hp).1, (N p hp).2⟩
    · refine ⟨fun i => match i with | 0 => t0 | 1 => t1 | 2 => t2 | _ => t3, 4, .head _, fun i hi => ?_⟩
      rcases lt_four hi with rfl | rfl | rfl | rfl
      · exact ⟨u0, v0, .tail _ (.head _)⟩
      · exact ⟨u0, v1, .tail _ (.tail _ (.head _))⟩
      · exact ⟨u1, v2, .tail _ (.tail _ (.tail _ (.head _)))⟩
      · exact ⟨u1, v3, .tail _ (.tail _ (.tail _ (.tail _ (.head _))))⟩
    · have hq1 := (N q hq).1
      intro z
      have key : s.heap.get? p.1 = none := by
        rcases List.mem_cons.mp hp with rfl | hp
        · exact nS _ (by show s.heap.objs.size ≤ H2.objs.size; rw [z2]; omega)
        · rcases List.mem_cons.mp hp with rfl | hp
          · exact tn _ a4
          · rcases List.mem_cons.mp hp with rfl | hp
            · exact tn _ b4
            · rcases List.mem_cons.mp hp with rfl | hp
              · exact tn _ c4
              · rw [List.mem_singleton.mp hp]
                exact tn _ d4
      rw [z, hq1] at key
      cases key
  have loop := two_outer (s := { s with heap := h₁, toks := tk + ([] : List (Str × Value)).length }) (R := compPost (model prog w) A E (some (assign (.Name y py) env)) (fun _ s' => Q .next s') (.ref H2.objs.size) H3.objs.size) (i0 := i0) (pa := pa) (pb := pb) (pos := pos) (cl := cl) (env₀ := env) (I := H1.objs.size) (T := s.heap.objs.size) (C := H3.objs.size) (D := H2.objs.size) (xs := xs) hh hkind hla hlb hab (helt _) (hi1 _) (hs1 _)
    (Nat.ne_of_lt (by rw [z1, z3]; omega)) (Nat.ne_of_lt (by rw [z1, z2]; omega)) (Nat.ne_of_lt (by rw [z1]; omega)) (Nat.ne_of_lt (by rw [z3]; omega)) (Nat.ne_of_lt (by rw [z2]; omega)) (Nat.ne_of_gt (by rw [z2, z3]; omega)) hitr hns₁ hD (by show 2 ≤ 400; decide) hfin
  exact codeAny_compStart_list loop (wpAny_pyIter_tupleiter hitr.1 loop)
end
end

/-! part Q9 -/
section

theorem law_six (w : World) (lay : Slot → Addr) (W : Led) (O : Slot → Obj) (hl : Lay lay W) (S : St) (R : Rel w lay W O S) (K : Ok S 0 S.wire) (hsp : S.spot = 4)
    {oc : Value} {od : Option Addr} {name qual : Str} {params : Arguments} {body : List Stmt} {scope : Scope} {dV kV doc pm : Value} {an : Option Addr} {cdv ct : Value} {osl : Array (Option Value)} (hb : (Mine.hd0.heap_1 w.params).lookup 210 = some ⟨oc, od, .func (fnOf name qual params body scope dV kV doc pm an cdv ct), osl⟩)
    : ∀ (p : Program) (loose : List Str) (mean : ExcName → Option Value) (mg mb : Str → Option Value) (dp un : Nat) (gd : Option (List Code)) (f : Addr) (cd9 : Value) (A₀ : Around) (base h₀ : Heap) (L : Addr) (m : Str → Option Value) (s : Shared) (Q : Flow → Shared → Prop)
    (_ : Below A₀ base [] h₀) (_ : Fr h₀ L s.heap m) (_ : (Mine.hd0.heap_1 w.params).In h₀) (_ : News h₀ L s.heap (W ++ Lg lay O)) (_ : Top p loose mean mg mb h₀) (_ : (Mine.hd0.heap_1 w.params).In base) (_ : Top p loose mean mg mb base) (_ : dp + 150 < recursionLimit) (_ : un + 1200 < cLine)
    (_ : ∃ o, (L + 1 + 1, o) ∈ W ∧ o.data = .cell (some (.ref (lay .net)))) (_ : ∃ o, (L + 1, o) ∈ W ∧ o.data = .cell (some (.ref (lay .ends))))
    (_ : m (Str.ofString "box") = some (.ref (lay .box)))
    (_ : ∀ h' tk' m' news', Fr h₀ L h' m' → News h₀ L h' news' → Q (.ret (.bool true)) { s with heap := h', toks := tk' }),
    wpAny (model PR w) (ktrTop dp un gd qual scope L f cd9 (lawCl L) []) (execs (body.drop 6) (envX qual scope L f cd9 (lawCl L))) Q (fun _ _ => False) s := by
  intro p loose mean mg mb dp un gd f cd9 A₀ base h₀ L m s Q B F X N T XB TB hd hu cN cE hbox ret
  refine law_lit (P := fun q b sc => wpAny (model PR w) (ktrTop dp un gd q sc L f cd9 (lawCl L) []) (execs (b.drop 6) (envX q sc L f cd9 (lawCl L))) Q (fun _ _ => False) s) hb (by k_is) ?_
  (try dsimp only)
  show wpAny _ _ (execs (_ :: _) _) _ _ _
  walk1
  refine every_made (L := L) (m := m) (cl := []) rfl F N rfl (by with_unfolding_all rfl) (by with_unfolding_all rfl) (by decide) (by rfl) (by decide) (by rfl) (by rfl) (by decide) (by rfl) (by rfl) ?_ ?_ ?_ (by intro _; rfl) (by intro _ _; rfl) ?_
  · intro C s' m' u v Q' E' hns ha hb' h
    refine Tuple_ ?_
    repeat' ((fail_if_success (with_reducible show wpAny _ _ (newTuple _) _ _ _)); (fail_if_success (with_reducible show wpAny _ _ (eval (Expr.Name _ _) _) _ _ _)); first | walk1 | (dsimp only; walk1))
    refine wpAny_Name (wpAny_loadName_local (by rfl) (by rfl) hns ha ?_) (by decide)
    repeat' ((fail_if_success (with_reducible show wpAny _ _ (newTuple _) _ _ _)); (fail_if_success (with_reducible show wpAny _ _ (eval (Expr.Name _ _) _) _ _ _)); first | walk1 | (dsimp only; walk1))
    refine wpAny_Name (wpAny_loadName_local (by rfl) (by rfl) hns hb' ?_) (by decide)
    repeat' ((fail_if_success (with_reducible show wpAny _ _ (newTuple _) _ _ _)); first | walk1 | (dsimp only; walk1))
    exact h
  · intro C s' Q' E' h
    refine Tuple_ ?_
    repeat' ((fail_if_success (with_reducible show wpAny _ _ (newTuple _) _ _ _)); first | walk1 | (dsimp only; walk1))
    exact h _ _ _
  · intro Q' E' h
    refine Tuple_ ?_
    repeat' ((fail_if_success (with_reducible show wpAny _ _ (newTuple _) _ _ _)); first | walk1 | (dsimp only; walk1))
    exact h _ _ _
  · intro h' tk' ev Ev F' N' hEv hoff
    (try dsimp only)
    have hL9 : Lay lay (Ev ++ W) := ⟨hl.inj, fun p hp sl => (List.mem_append.mp hp).elim (fun h => hoff p h (lay sl, O sl) (mem_O rfl)) fun h => hl.off p h sl⟩
    have hsub : ∀ p ∈ W, p ∈ Ev ++ W := fun p h => List.mem_append_right _ h
    have hlaw := law_loop w lay (Ev ++ W) O hL9 S (R.mono hsub) K hsp (fun W' O' S' h1 h2 h3 => law_end w lay W' O' h1 S' h2 h3) (by k_is)
    refine hlaw p loose mean mg mb dp un gd f cd9 A₀ base h₀ L ev _ { s with heap := h', toks := tk' } Q B F' X (by rw [List.append_assoc]; exact N') T XB TB hd hu ⟨?_, ?_, hEv.mono fun p h => List.mem_append_left _ h⟩ ?_ (if_pos rfl) ret
    · obtain ⟨o, a, b⟩ := cN; exact ⟨o, hsub _ a, b⟩
    · obtain ⟨o, a, b⟩ := cE; exact ⟨o, hsub _ a, b⟩
    · exact (if_neg (by decide)).trans hbox
end

end
end

/-! part S10 -/
section
open PySem PySem.W PySem.Calls PyProof.Rows
noncomputable def FnL (w : World) (f : Addr) (d : Nat) (vs : List Value) (news : Led) (P : Value → Led → Prop) : Prop :=
  ∀ (p : Program) (loose : List Str) (mean : ExcName → Option Value) (mg mb : Str → Option Value) (dp un : Nat) (gd : Option (List Code)) (cn : Str) (cs : Scope) (a : Addr) (ccd : Value) (cl : List (Str × Addr)) (outer : List Env) (A₀ : Around) (base h₀ : Heap) (L : Addr) (m : Str → Option Value) (s : Shared)
    (Q E : Value → Shared → Prop),
    Below A₀ base outer h₀ → Fr h₀ L s.heap m → (Mine.hd0.heap_1 w.params).In h₀ → News h₀ L s.heap news → Top p loose mean mg mb h₀ → cs.kind = .function → dp + d < recursionLimit → un + 8 * d < cLine →
    (∀ r news' h' tk', Fr h₀ L h' m → News h₀ L h' news' → P r news' → Q r { s with heap := h', toks := tk' }) →
    wpAny (model PR w) (ktrTop dp un gd cn cs L a ccd cl outer) (call (.ref f) vs) Q E s
theorem FnL.use {w : World} {f : Addr} {d : Nat} {vs : List Value} {news : Led} {P : Value → Led → Prop}
    {p : Program} {loose : List Str} {mean : ExcName → Option Value} {mg mb : Str → Option Value} {dp un : Nat} {gd : Option (List Code)} {cn : Str} {cs : Scope} {a : Addr} {ccd : Value} {cl : List (Str × Addr)} {outer : List Env} {A₀ : Around} {base h₀ : Heap} {L : Addr} {m : Str → Option Value} {s : Shared}
    {Q E : Value → Shared → Prop}
    (B : Below A₀ base outer h₀) (F : Fr h₀ L s.heap m) (X : (Mine.hd0.heap_1 w.params).In h₀) (N : News h₀ L s.heap news) (T : Top p loose mean mg mb h₀) (hk : cs.kind = .function) (C : FnL w f d vs news P) (hd : dp + d < recursionLimit) (hu : un + 8 * d < cLine)
    (ret : ∀ r news' h' tk', Fr h₀ L h' m → News h₀ L h' news' → P r news' → Q r { s with heap := h', toks := tk' }) :
    wpAny (model PR w) (ktrTop dp un gd cn cs L a ccd cl outer) (call (.ref f) vs) Q E s := C p loose mean mg mb dp un gd cn cs a ccd cl outer A₀ base h₀ L m s Q E B F X N T hk hd hu ret
section
variable {w : World} {A : Around} {E : Value → Shared → Prop} {s : Shared} {h₀ : Heap} {L a b : Addr} {m : Str → Option Value} {value slice : PySem.Expr} {x y v : Value} {n n' : Nat} {k : Int} {u : Tok} {W : Led} {vs : List Value} {ns : List Int} {o : Obj}
theorem set_two1H {Q : Unit → Shared → Prop} (F : Fr h₀ L s.heap m) (N : News h₀ L s.heap ((b, listOf #[x, y] n) :: W)) (hd : ∀ p ∈ W, p.1 ≠ b)
    (h : ∀ h', Fr h₀ L h' m → News h₀ L h' ((b, listOf #[x, v] n) :: W) → Q () { s with heap := h' }) :
    wpAny (model PR w) A (setItem (.ref b) (.int 1 u) v) Q E s := by
  have z := N (b, listOf #[x, y] n) (.head _)
  refine ki_setAt (items := #[x, y]) (n := n) z.1 (by decide) (by decide) (by simp) (h _ (F.change (Heap.SameBut.update ..) z.2.1 z.2.2) ?_)
  refine news_set (pre := []) (o := listOf #[x, y] n) N (fun p hp => nomatch hp) hd (Heap.SameBut.update ..) ?_
  rw [Heap.get?_update_self _ z.1 (by rfl)]
  rfl
end

theorem fillS10 : (∀ w : World, Mine.hd0.heap_1 w.params = Mine.hd0.heap_1 w.params) ∧ PySem.Challenge.rw_tk0090_01 = PySem.Challenge.rw_tk0090_01 := by
  k_fill
  exact ⟨fun _ => rfl, rfl⟩
theorem c_take0 (w : World) (b sc : Addr) (spot : Int) (t : Tok) (n : Nat) (vs : List Value) (ns : List Int) (n' : Nat) (W : Led) (hi : IntsAre vs ns) (hlen : ns.length ≤ 63) (hne : ∀ p ∈ ((sc, listOf vs.toArray n') :: W : Led), p.1 ≠ b)
    (h0 : 0 ≤ spot) (h1 : spot < 1000) (many : Int) (tm : Tok) (hm : 0 < many) (hm2 : many < 1000) :
    FnL w 146 2 [.ref b, .int many tm] ((b, listOf #[.ref sc, .int spot t] n) :: (sc, listOf vs.toArray n') :: W) (fun r news' => (∃ v t', r = .int v t' ∧ 0 ≤ v ∧ v < many) ∧ ∃ t'', news' = (b, listOf #[.ref sc, .int (spot + 1) t''] n) :: (sc, listOf vs.toArray n') :: W) := by
  have hvl := hi.length
  unfold FnL
  intro p loose mean mg mb dp un gd cn cs a ccd cl outer A₀ base h₀ L m s Q E B F X N T hk hd hu ret
  refine wpAny_call ?_
  k_dflt ktr_enter
  repeat' (first | (k_unfold; (try dsimp only)) | ((with_reducible show wpAny _ _ (subscriptTail _ _ (Value.ref _) (Value.int 0 _)) _ _ _); k_dflt (refine' sub_two0 ?k1 ?k2 ?_ ?k4; (case k1 => k_asm); (case k2 => exact .head _); (case k4 => with_unfolding_all rfl); k_whole)) | ((with_reducible show wpAny _ _ (subscriptTail _ _ (Value.ref _) (Value.int 1 _)) _ _ _); k_dflt (refine' sub_two1 ?k1 ?k2 ?_ ?k4; (case k1 => k_asm); (case k2 => exact .head _); (case k4 => with_unfolding_all rfl); k_whole)) | ((with_reducible show wpAny _ _ (setItem (Value.ref _) (Value.int 1 _) _) _ _ _); k_dflt (refine' set_two1H ?k1 ?k2 ?k3 ?_; (case k1 => k_asm); (case k2 => k_asm); (case k3 => assumption); k_whole; intro h' F' N'; (try k_sweep))) | ((with_reducible show wpAny _ _ (call (Value.builtin "len") [Value.ref _]) _ _ _); k_dflt (refine' len_il ?k1 ?k2 ?k3 ?k4 ?_; (case k1 => k_asm); (case k2 => exact .tail _ (.head _)); (case k3 => assumption); (case k4 => omega); k_whole)) | ((with_reducible show wpAny _ _ (subscriptTail _ _ (Value.ref _) (Value.int _ _)) _ _ _); k_dflt (refine' sub_ints ?k1 ?k2 ?k3 ?k4 ?k5 ?k6 ?_ ?k7; (case k1 => k_asm); (case k2 => exact .tail _ (.head _)); (case k3 => assumption); (case k4 => omega); (case k5 => omega); (case k6 => omega); (case k7 => with_unfolding_all rfl); k_whole; intro t')) | walk1 | (dsimp only; walk1))
  all_goals exact ret _ _ _ _ (by k_asm) (by k_asm) ⟨⟨_, _, rfl, fmod_lo _ hm, fmod_hi _ hm⟩, ⟨_, rfl⟩⟩
end

/-! part S10b -/
section
open PySem PySem.W PySem.Calls PyProof.Rows
theorem rot3 {h₀ h : Heap} {L : Addr} {x b c : Addr × Obj} {W : Led} (N : News h₀ L h (x :: b :: c :: W)) : News h₀ L h (b :: c :: x :: W) := fun p hp => by
  rcases List.mem_cons.mp hp with rfl | hp
  · exact N _ (.tail _ (.head _))
  · rcases List.mem_cons.mp hp with rfl | hp
    · exact N _ (.tail _ (.tail _ (.head _)))
    · rcases List.mem_cons.mp hp with rfl | hp
      · exact N _ (.head _)
      · exact N _ (.tail _ (.tail _ (.tail _ hp)))
section
variable {prog : Program} {w : World} {K : Type} [DecidableEq K] {knd : KeyKind prog w K} {A : Around} {E : Value → Shared → Prop} {s : Shared} {h₀ : Heap} {L d o₂ : Addr} {m : Str → Option Value} {news : Led} {g : Obj → Led} {o od₂ : Obj} {kvs more : List (K × Value)}
theorem upd_meth {pl : Sem Bool} {Q : Value × List Value → Shared → Prop} (N : News h₀ L s.heap news) (hp : (d, o) ∈ news) (hd : o.IsDictOf knd kvs) (h : Q (.builtin "dict.update", [.ref d]) s) :
    wpAny (model prog w) A (getMethod (.ref d) (Str.ofString "update") pl) Q E s := kob_method PySem.F.slot_dict_update PySem.F.type_dict_update N hp hd h
theorem upd_call {Q : Value → Shared → Prop} (F : Fr h₀ L s.heap m) (N : News h₀ L s.heap news) (U : UpdF d o news g) (hd : o.IsDictOf knd kvs) (hp : (o₂, od₂) ∈ news) (hd₂ : od₂.IsDictOf knd more) (hne : d ≠ o₂) (lo : (o₂ == sysModules) = false) (hz : kvs.length + more.length ≤ 1000)
    (h : ∀ h' o', Fr h₀ L h' m → News h₀ L h' (g o') → o'.IsDictOf knd (merged kvs more) → Q .none { s with heap := h' }) :
    wpAny (model prog w) A (call (.builtin "dict.update") [.ref d, .ref o₂]) Q E s := by
  have hD₂ := kda_dict N hp hd₂
  obtain ⟨pre, post, rfl, hg, a, b⟩ := U.split
  have hm := N (d, o) (List.mem_append_right _ (.head _))
  have hD : s.heap.DictOf knd d kvs := Heap.dictOf_iff.mpr ⟨o, hm.1, hd⟩
  refine call_meetsIn PySem.F.slot_dict_update hD.typeIs PySem.F.entry_dict_update (PySem.F.args_dict_update_2 _ _) (meets_dict_update knd d o₂ hne lo) ⟨kvs, more, hD, hD₂, (by rw [sizeLine_eq]; omega), fun h' hmm _ hs => ?_⟩
  obtain ⟨o', ho', hd'⟩ := Heap.dictOf_iff.mp hmm
  exact h h' o' (F.change hs hm.2.1 hm.2.2) (hg o' ▸ N.setIn a b hs ho') hd'
end
noncomputable def selL : List Nat → Led → Led
  | [], _ => []
  | i :: is, l => match l[i]? with
    | some p => p :: selL is l
    | none => selL is l
noncomputable def restL (is : List Nat) : Nat → Led → Led
  | _, [] => []
  | k, p :: l => if is.contains k then restL is (k + 1) l else p :: restL is (k + 1) l
theorem sel_mem {l : Led} (is : List Nat) : ∀ p, p ∈ selL is l → p ∈ l := by
  induction is with
  | nil => exact fun p h => nomatch h
  | cons i is ih =>
    intro p h
    unfold selL at h
    split at h
    · rename_i q hq
      rcases List.mem_cons.mp h with h1 | h1
      · rw [h1]; exact List.mem_of_getElem? hq
      · exact ih p h1
    · exact ih p h
theorem rest_mem {is : List Nat} (l : Led) : ∀ k p, p ∈ restL is k l → p ∈ l := by
  induction l with
  | nil => exact fun k p h => nomatch h
  | cons q l ih =>
    intro k p h
    unfold restL at h
    split at h
    · exact List.mem_cons_of_mem _ (ih _ p h)
    · rcases List.mem_cons.mp h with h1 | h1
      · rw [h1]; exact List.mem_cons_self
      · exact List.mem_cons_of_mem _ (ih _ p h1)
theorem stash {h₀ h : Heap} {L : Addr} {l : Led} (N : News h₀ L h l) (is : List Nat) : News h₀ L h (selL is l ++ restL is 0 l) :=
  fun p hp => (List.mem_append.mp hp).elim (fun q => N p (sel_mem is p q)) fun q => N p (rest_mem l 0 p q)
theorem hideNe {h₀ h : Heap} {L d : Addr} {o : Obj} {pk Zc : Led} (N : News h₀ L h (((d, o) :: pk) ++ Zc)) (hP : ∀ p ∈ Zc, p.1 ≠ d) : ∃ Z : Led, (∀ p ∈ Zc, p ∈ Z) ∧ (∀ p ∈ Z, p.1 ≠ d) ∧ News h₀ L h (((d, o) :: pk) ++ Z) := ⟨Zc, fun _ h => h, hP, N⟩
theorem hide {h₀ h : Heap} {L : Addr} {pk Zc : Led} (N : News h₀ L h (pk ++ Zc)) (P : Addr → Prop) (hP : ∀ p ∈ Zc, P p.1) : ∃ Z : Led, (∀ p ∈ Zc, p ∈ Z) ∧ (∀ p ∈ Z, P p.1) ∧ News h₀ L h (pk ++ Z) := ⟨Zc, fun _ h => h, hP, N⟩
theorem lt_all {d : Nat} (l : Led) (h : AllLt d l) : ∀ p ∈ l, @LT.lt Nat _ p.1 d := by
  induction l with
  | nil => exact fun p hp => nomatch hp
  | cons q r ih =>
    intro p hp
    rcases List.mem_cons.mp hp with rfl | hp
    · exact h.1
    · exact ih h.2 p hp
theorem compEnd_new {h₀ h' : Heap} {L I C D y : Addr} {m : Str → Option Value} {s : Shared} {oI oC oD o' : Obj} {S : Led → Prop} {rest : Value → Led → Prop} {tk : Nat} {news : Led}
    (F : Fr h₀ L h' m) (N : News h₀ L h' ((y, o') :: (I, oI) :: (C, oC) :: (D, oD) :: news)) (hlt : AllLt y ((I, oI) :: (C, oC) :: (D, oD) :: news)) (off : LCg.Off3 I C D news) (hS : S ((y, o') :: news)) (r : rest (.ref y) ((y, o') :: news)) :
    LCg.CompEnd h₀ L m s I oI C oC D oD S rest (.ref y) { s with heap := h', toks := tk } := by
  refine LCg.CompEnd.intro F N ((y, o') :: news) (fun p hp => ?_) ?_ hS r
  · rcases List.mem_cons.mp hp with rfl | hp
    · exact .tail _ (.head _)
    · rcases List.mem_cons.mp hp with rfl | hp
      · exact .tail _ (.tail _ (.head _))
      · rcases List.mem_cons.mp hp with rfl | hp
        · exact .tail _ (.tail _ (.tail _ (.head _)))
        · rcases List.mem_cons.mp hp with rfl | hp
          · exact .head _
          · exact .tail _ (.tail _ (.tail _ (.tail _ hp)))
  · have h1 := lt_all _ hlt
    exact ⟨⟨Nat.ne_of_gt (h1 _ (.head _)), Nat.ne_of_gt (h1 _ (.tail _ (.head _))), Nat.ne_of_gt (h1 _ (.tail _ (.tail _ (.head _))))⟩, off⟩
end

/-! part S10c -/
section
open PySem PySem.W PySem.Calls PyProof.Rows
/-- addresses, none twice -/
noncomputable def Ds : List Addr → Prop
  | [] => True
  | a :: r => (∀ b ∈ r, b ≠ a) ∧ Ds r
noncomputable def DecL : Led → Prop
  | [] => True
  | p :: r => AllLt p.1 r ∧ DecL r
theorem DecL.mk {p : Addr × Obj} {r : Led} (h : AllLt p.1 r) (k : DecL r) : DecL (p :: r) := ⟨h, k⟩
theorem DecL.two {a b : Addr} {o o' : Obj} (h : @LT.lt Nat _ b a) : DecL [(a, o), (b, o')] := ⟨⟨h, trivial⟩, trivial, trivial⟩
noncomputable def LtC (d : Nat) : Led → Prop
  | [] => True
  | p :: r => match r with
    | [] => @LT.lt Nat _ p.1 d
    | _ :: _ => @LT.lt Nat _ p.1 d ∧ LtC d r
theorem LtC.all {d : Nat} {l : Led} (h : LtC d l) : AllLt d l := by
  induction l with
  | nil => trivial
  | cons p r ih =>
    cases r with
    | nil => exact ⟨h, trivial⟩
    | cons q r => exact ⟨h.1, ih h.2⟩
theorem allLt_up {d x : Nat} {o : Obj} {r : Led} (h : @LT.lt Nat _ d x) (k : AllLt d r) : AllLt x (((d : Addr), o) :: r) := by
  refine ⟨h, ?_⟩
  induction r with
  | nil => trivial
  | cons q r ih => exact ⟨Nat.lt_trans k.1 h, ih k.2⟩
theorem DecL.ds {l : Led} (h : DecL l) : Ds (l.map (·.1)) := by
  induction l with
  | nil => trivial
  | cons p r ih =>
    refine ⟨fun b hb => ?_, ih h.2⟩
    obtain ⟨q, hq, rfl⟩ := List.mem_map.mp hb
    exact Nat.ne_of_lt (lt_all _ h.1 q hq)
theorem ds_new {t : Addr} {l : Led} (h : ∀ p ∈ l, p.1 < t) (d : Ds (l.map (·.1))) : Ds (t :: l.map (·.1)) :=
  ⟨fun b hb => by
    obtain ⟨q, hq, rfl⟩ := List.mem_map.mp hb
    exact Nat.ne_of_lt (h q hq), d⟩
theorem ds_off1 {D : Addr} {l : Led} (h : LCg.Off1 D l) (d : Ds (l.map (·.1))) : Ds (D :: l.map (·.1)) := by
  refine ⟨?_, d⟩
  clear d
  induction l with
  | nil => exact fun b hb => nomatch hb
  | cons q r ih =>
    intro b hb
    rcases List.mem_cons.mp hb with hb | hb
    · rw [hb]; exact h.1
    · exact ih h.2 b hb
theorem updF_of {d : Addr} {o : Obj} : ∀ (l : Led) (i : Nat), Ds (l.map (·.1)) → l[i]? = some (d, o) → UpdF d o l (fun o' => l.set i (d, o'))
  | [], i, _, h => by simp at h
  | p :: r, 0, hd, h => by
    have e : p = (d, o) := by simpa using h
    subst e
    exact UpdF.head fun q hq => hd.1 q.1 (List.mem_map.mpr ⟨q, hq, rfl⟩)
  | p :: r, i + 1, hd, h => by
    have h' : r[i]? = some (d, o) := by simpa using h
    refine UpdF.tail ?_ (updF_of r i hd.2 h')
    intro q
    exact hd.1 d (List.mem_map.mpr ⟨(d, o), List.mem_of_getElem? h', rfl⟩) q.symm
theorem ds_ne {a b : Addr} : ∀ {l : List Addr} (i j : Nat), Ds l → i < j → l[i]? = some a → l[j]? = some b → b ≠ a
  | [], i, j, _, _, h, _ => by simp at h
  | x :: r, 0, 0, _, hij, _, _ => absurd hij (Nat.lt_irrefl 0)
  | x :: r, 0, j + 1, d, _, hi, hj => by
    have e : x = a := by simpa using hi
    subst e
    exact d.1 b (List.mem_of_getElem? (by simpa using hj))
  | x :: r, i + 1, 0, _, hij, _, _ => absurd hij (Nat.not_lt_zero _)
  | x :: r, i + 1, j + 1, d, hij, hi, hj => ds_ne i j d.2 (Nat.lt_of_succ_lt_succ hij) (by simpa using hi) (by simpa using hj)
theorem compEnd_newC {h₀ h' : Heap} {L I C D y : Addr} {m : Str → Option Value} {s : Shared} {oI oC oD o' : Obj} {S : Led → Prop} {rest : Value → Led → Prop} {tk : Nat} {news : Led}
    (F : Fr h₀ L h' m) (N : News h₀ L h' ((y, o') :: (I, oI) :: (C, oC) :: (D, oD) :: news)) (hlt : LtC y ((I, oI) :: (C, oC) :: (D, oD) :: news)) (off : LCg.Off3 I C D news) (hS : S ((y, o') :: news)) (r : rest (.ref y) ((y, o') :: news)) :
    LCg.CompEnd h₀ L m s I oI C oC D oD S rest (.ref y) { s with heap := h', toks := tk } := compEnd_new F N hlt.all off hS r
theorem compEnd_newD {h₀ h' : Heap} {L I C D y : Addr} {m : Str → Option Value} {s : Shared} {oI oC oD o' : Obj} {S : Led → Prop} {rest : Value → Led → Prop} {tk : Nat} {news : Led}
    (F : Fr h₀ L h' m) (N : News h₀ L h' ((y, o') :: (I, oI) :: (C, oC) :: (D, oD) :: news)) (hlt : LtC y ((I, oI) :: (C, oC) :: (D, oD) :: news)) (off : LCg.Off3 I C D news) (hS : S ((y, o') :: news)) (d : Ds (news.map (·.1))) (r : Ds (y :: news.map (·.1)) → rest (.ref y) ((y, o') :: news)) :
    LCg.CompEnd h₀ L m s I oI C oC D oD S rest (.ref y) { s with heap := h', toks := tk } :=
  compEnd_newC F N hlt off hS (r (ds_new (fun p hp => lt_all _ hlt.all p (.tail _ (.tail _ (.tail _ hp)))) d))
theorem with_dec {h₀ h : Heap} {L : Addr} {l : Led} (N : News h₀ L h l) (d : DecL l) : News h₀ L h l ∧ Ds (l.map (·.1)) := ⟨N, d.ds⟩
section
variable {w : World} {A : Around} {E : Value → Shared → Prop} {s : Shared} {h₀ : Heap} {L d : Addr} {m : Str → Option Value} {news : Led} {vs : List Value} {env : Env}
theorem newList_D {Q : Value → Shared → Prop} (F : Fr h₀ L s.heap m) (N : News h₀ L s.heap news) (D : Ds (news.map (·.1))) (hsz : vs.length ≤ 1000)
    (h : ∀ t h', Fr h₀ L h' m → News h₀ L h' ((t, listOf vs.toArray 0) :: news) → Ds (t :: news.map (·.1)) → Q (.ref t) { s with heap := h' }) : wpAny (model PR w) A (newList vs) Q E s :=
  newList_N F N (fun h' F' N' => h _ h' F' N' (ds_new (fun p hp => Heap.lt_size (N p hp).1) D)) (Nat.le_trans hsz (by rw [sizeLine_eq]; decide))
theorem newTup_D {Q : Value → Shared → Prop} (F : Fr h₀ L s.heap m) (N : News h₀ L s.heap news) (D : Ds (news.map (·.1))) (hsz : vs.length ≤ 1000)
    (h : ∀ t h', Fr h₀ L h' m → News h₀ L h' ((t, tupOf vs) :: news) → Ds (t :: news.map (·.1)) → Q (.ref t) { s with heap := h' }) : wpAny (model PR w) A (newTuple vs) Q E s :=
  newTuple_N F N (fun h' F' N' => h _ h' F' N' (ds_new (fun p hp => Heap.lt_size (N p hp).1) D)) (Nat.le_trans hsz (by rw [sizeLine_eq]; decide))
theorem dict_D {keys : List (Option PySem.Expr)} {values : List PySem.Expr} {pos : Pos} {Q : Value → Shared → Prop} (hq : strLits keys = true) (F : Fr h₀ L s.heap m) (N : News h₀ L s.heap news) (D : Ds (news.map (·.1))) (hbig : h₀.NoLimit)
    (hall : keys.all (·.isSome) = true) (hl : keys.length = values.length) (h0 : keys ≠ []) (hlen : keys.length ≤ 15)
    (h : ∀ (d : Addr) h' o, Fr h₀ L h' m → News h₀ L h' ((d, o) :: news) → Ds (d :: news.map (·.1)) → (d == sysModules) = false → o.IsDictOf (PySem.strKind PR w) [] →
      wpAny (model PR w) A (evalPairs (pairTrees keys values env pos)) (fun vs s₁ => KdnMade PR w (PySem.strKind PR w) d Q vs s₁) E { s with heap := h' }) :
    wpAny (model PR w) A (eval (.Dict keys values pos) env) Q E s := kdn_str hq F N hbig hall hl h0 hlen fun d h' o F' N' l1 lo hd => h d h' o F' N' (ds_new l1 D) lo hd
end
end

/-! part N1 -/
section
open PySem PySem.W PySem.Calls PyProof.Rows
theorem fillN1 : (∀ w : World, Mine.hd0.heap_1 w.params = Mine.hd0.heap_1 w.params) ∧ PySem.Challenge.rw_tk0090_01 = PySem.Challenge.rw_tk0090_01 := by
  k_fill
  exact ⟨fun _ => rfl, rfl⟩
section
variable {w : World} {A : Around} {E : Value → Shared → Prop} {s : Shared} {h₀ : Heap} {L b : Addr} {m : Str → Option Value} {news : Led} {x y : Value} {n : Nat}
theorem list2_led {Q : Value → Shared → Prop} (F : Fr h₀ L s.heap m) (N : News h₀ L s.heap news) (hb : (b, listOf #[x, y] n) ∈ news)
    (h : ∀ D c h', Fr h₀ L h' m → News h₀ L h' ((D, listOf #[x, y] c) :: news) → AllLt D news → Q (.ref D) { s with heap := h' }) : wpAny (model PR w) A (call (.type "list") [.ref b]) Q E s :=
  list_copyK F N (N.isList hb) (fun D c h' F' N' l1 => h D c h' F' N' (allLt_of l1)) (by rw [sizeLine_eq]; exact Nat.le_of_ble_eq_true rfl)
theorem new_led {Q : Value → Shared → Prop} (F : Fr h₀ L s.heap m) (N : News h₀ L s.heap news)
    (h : ∀ t h', Fr h₀ L h' m → News h₀ L h' ((t, listOf #[x, y] 0) :: news) → AllLt t news → Q (.ref t) { s with heap := h' }) : wpAny (model PR w) A (newList [x, y]) Q E s :=
  newList_N F N (fun h' F' N' => h _ h' F' N' (allLt_of fun p hp => Heap.lt_size (N p hp).1)) (by rw [sizeLine_eq]; exact Nat.le_of_ble_eq_true rfl)
end
/-- all of the written addresses, then all of W's, lie below t -/
noncomputable def AllB (t : Nat) (W : Led) : List Addr → Prop
  | [] => AllLt t W
  | a :: r => @LT.lt Nat _ a t ∧ AllB t W r
theorem ds_b {t : Addr} {W : Led} {pre : List Addr} (d : Ds (pre ++ W.map (·.1))) (h : AllB t W pre) : Ds (t :: (pre ++ W.map (·.1))) := by
  refine ⟨?_, d⟩
  clear d
  induction pre with
  | nil =>
    intro b hb
    obtain ⟨q, hq, e⟩ := List.mem_map.mp hb
    exact e ▸ Nat.ne_of_lt (lt_all _ h q hq)
  | cons a r ih =>
    intro b hb
    rcases List.mem_cons.mp hb with hb | hb
    · rw [hb]; exact Nat.ne_of_lt h.1
    · exact ih h.2 b hb
theorem ds_pick {l : Led} (D : Ds (l.map (·.1))) : ∀ is : List Nat, is.Nodup → (is.all fun i => decide (i < l.length)) = true → Ds ((is.map fun i => l.getD i (0, listOf #[] 0)).map (·.1))
  | [], _, _ => trivial
  | i :: is, hn, ha => by
    obtain ⟨h1, h2⟩ := List.nodup_cons.mp hn
    obtain ⟨a1, a2⟩ := Bool.and_eq_true_iff.mp (List.all_cons ▸ ha)
    refine ⟨fun b hb => ?_, ds_pick D is h2 a2⟩
    obtain ⟨q, hq, rfl⟩ := List.mem_map.mp hb
    obtain ⟨j, hj, rfl⟩ := List.mem_map.mp hq
    have lj := of_decide_eq_true (List.all_eq_true.mp a2 j hj)
    have li := of_decide_eq_true a1
    have at_ : ∀ k, k < l.length → (l.map (·.1))[k]? = some (l.getD k (0, listOf #[] 0)).1 := fun k hk => by
      rw [List.getElem?_map, List.getD_eq_getElem?_getD, List.getElem?_eq_getElem hk]; rfl
    intro e
    rcases Nat.lt_trichotomy i j with h | h | h
    · exact ds_ne i j D h (at_ i li) (at_ j lj) e
    · exact h1 (h ▸ hj)
    · exact ds_ne j i D h (at_ j lj) (at_ i li) e.symm
/-- the ledger in another order -/
theorem reorder {h₀ h : Heap} {L : Addr} {l : Led} (is : List Nat) (N : News h₀ L h l) (D : Ds (l.map (·.1))) (hn : is.Nodup) (ha : (is.all fun i => decide (i < l.length)) = true) :
    News h₀ L h (is.map fun i => l.getD i (0, listOf #[] 0)) ∧ Ds ((is.map fun i => l.getD i (0, listOf #[] 0)).map (·.1)) := by
  refine ⟨fun p hp => ?_, ds_pick D is hn ha⟩
  obtain ⟨i, hi, rfl⟩ := List.mem_map.mp hp
  have li := of_decide_eq_true (List.all_eq_true.mp ha i hi)
  refine N _ (List.mem_of_getElem? (i := i) ?_)
  rw [List.getD_eq_getElem?_getD, List.getElem?_eq_getElem li]
  rfl
theorem reorder25 {h₀ h : Heap} {L : Addr} {x0 x1 x2 x3 x4 x5 x6 x7 x8 x9 x10 x11 x12 x13 x14 x15 x16 x17 x18 x19 x20 x21 x22 x23 x24 : Addr × Obj} (N : News h₀ L h (x0 :: x1 :: x2 :: x3 :: x4 :: x5 :: x6 :: x7 :: x8 :: x9 :: x10 :: x11 :: x12 :: x13 :: x14 :: x15 :: x16 :: x17 :: x18 :: x19 :: x20 :: x21 :: x22 :: x23 :: x24 :: [])) (D : Ds (List.map (·.1) (x0 :: x1 :: x2 :: x3 :: x4 :: x5 :: x6 :: x7 :: x8 :: x9 :: x10 :: x11 :: x12 :: x13 :: x14 :: x15 :: x16 :: x17 :: x18 :: x19 :: x20 :: x21 :: x22 :: x23 :: x24 :: []))) :
    News h₀ L h (x17 :: x18 :: x19 :: x23 :: x0 :: x1 :: x2 :: x3 :: x4 :: x5 :: x6 :: x7 :: x8 :: x9 :: x10 :: x11 :: x12 :: x13 :: x14 :: x15 :: x16 :: x20 :: x21 :: x22 :: x24 :: []) ∧ Ds (x17.1 :: x18.1 :: x19.1 :: x23.1 :: List.map (·.1) (x0 :: x1 :: x2 :: x3 :: x4 :: x5 :: x6 :: x7 :: x8 :: x9 :: x10 :: x11 :: x12 :: x13 :: x14 :: x15 :: x16 :: x20 :: x21 :: x22 :: x24 :: [])) := reorder [17, 18, 19, 23, 0, 1, 2, 3, 4, 5, 6, 7, 8, 9, 10, 11, 12, 13, 14, 15, 16, 20, 21, 22, 24] N D (by decide) rfl
theorem c_new (w : World) (r : Str) (tr : Tok) (l1 l2 : Addr) (x1 y1 x2 y2 : Int) (tx1 ty1 tx2 ty2 : Tok) (n1 n2 : Nat) (W : Led) (m1 : (l1, listOf #[.int x1 tx1, .int y1 ty1] n1) ∈ W) (m2 : (l2, listOf #[.int x2 tx2, .int y2 ty2] n2) ∈ W) (D : Ds (W.map (·.1))) :
    FnL w 135 4 [.str r tr, .ref l1, .ref l2] W (fun v news' => ∃ x d a1 a2 a3 a4 a5 a6 h0 h1 h2 h3 h4 h5 h6 t0 t1 t2 t3 t4 t5 t6 u1 u2 u3 u4 c1 c2 c5, v = .ref x ∧
      news' = (a6, listOf #[.bool false, .bool false] 0) :: (a5, listOf #[.int x2 tx2, .int y2 ty2] c5) :: (a4, listOf #[.int 0 u3, .int 0 u4] 0) :: (a3, listOf #[.int 0 u1, .int 0 u2] 0) :: (a2, listOf #[.int x2 tx2, .int y2 ty2] c2) :: (a1, listOf #[.int x1 tx1, .int y1 ty1] c1) :: (x, instObj 135 d) ::
        (d, dictOf [⟨h0, .str (Str.ofString "role") t0, .str r tr⟩, ⟨h1, .str (Str.ofString "own_limits") t1, .ref a1⟩, ⟨h2, .str (Str.ofString "peer_limits") t2, .ref a2⟩, ⟨h3, .str (Str.ofString "own_many") t3, .ref a3⟩, ⟨h4, .str (Str.ofString "peer_many") t4, .ref a4⟩, ⟨h5, .str (Str.ofString "told_limits") t5, .ref a5⟩, ⟨h6, .str (Str.ofString "owes_limit") t6, .ref a6⟩] 7) :: W ∧
      Ds (a6 :: a5 :: a4 :: a3 :: a2 :: a1 :: x :: d :: W.map (·.1))) := by
  unfold FnL
  intro p loose mean mg mb dp un gd cn cs a ccd cl outer A₀ base h₀ L m s Q E B F X N T hk hd hu ret
  k_dflt (refine' call_cls ?k1 ?k2 ?k3 ?k4 ?k5 ?k6 ?_; (case k1 => k_asm); (case k2 => k_asm); (case k3 => k_asm); (case k4 => k_is); (case k5 => k_is); (case k6 => k_is); k_whole; intro x' d' h' F' N' l1 l2; (try k_lt2 l2); (try k_sweep))
  k_dflt ktr_enter
  repeat' (first | (k_unfold; (try dsimp only)) | ((with_reducible show wpAny _ _ (call (Value.type _) [Value.ref _]) _ _ _); k_dflt (refine' list2_led ?F ?N ?b ?_; (case F | N => k_asm); (case b => repeat (first | assumption | refine .tail _ ?_))); intro D' c' h' F' N' lq'; (try simp only [AllLt] at lq'); (try k_sweep)) | ((with_reducible show wpAny _ _ (newList _) _ _ _); k_dflt (refine' new_led ?F ?N ?_; (case F | N => k_asm); k_whole); intro D' h' F' N' lq'; (try simp only [AllLt] at lq'); (try k_sweep)) | walk1 | (dsimp only; walk1))
  refine ret _ _ _ _ (by k_asm) (by k_asm) ⟨_, _, _, _, _, _, _, _, _, _, _, _, _, _, _, _, _, _, _, _, _, _, _, _, _, _, _, _, _, rfl, rfl, ?_⟩
  refine ds_b (pre := [_, _, _, _, _, _, _]) (ds_b (pre := [_, _, _, _, _, _]) (ds_b (pre := [_, _, _, _, _]) (ds_b (pre := [_, _, _, _]) (ds_b (pre := [_, _, _]) (ds_b (pre := [_, _]) (ds_b (pre := [_]) (ds_b (pre := []) D (allLt_of l1)) ⟨l2, allLt_of fun p hp => Nat.lt_trans (l1 p hp) l2⟩) ?_) ?_) ?_) ?_) ?_) ?_ <;> assumption
end

/-! part N2x -/
section
open PySem PySem.W PySem.Calls PyProof.Rows
theorem fillN2 : (∀ w : World, Mine.hd0.heap_1 w.params = Mine.hd0.heap_1 w.params) ∧ PySem.Challenge.rw_tk0090_01 = PySem.Challenge.rw_tk0090_01 := by
  k_fill
  exact ⟨fun _ => rfl, rfl⟩
theorem compEnd_newE {h₀ h' : Heap} {L I C D y : Addr} {m : Str → Option Value} {s : Shared} {oI oC oD o' : Obj} {S : Led → Prop} {rest : Value → Led → Prop} {tk : Nat} {news : Led}
    (F : Fr h₀ L h' m) (N : News h₀ L h' ((y, o') :: (I, oI) :: (C, oC) :: (D, oD) :: news)) (hlt : AllLt y ((I, oI) :: (C, oC) :: (D, oD) :: news)) (off : LCg.Off3 I C D news) (hS : S ((y, o') :: news)) (d : Ds (news.map (·.1))) (r : Ds (y :: news.map (·.1)) → rest (.ref y) ((y, o') :: news)) :
    LCg.CompEnd h₀ L m s I oI C oC D oD S rest (.ref y) { s with heap := h', toks := tk } :=
  compEnd_new F N hlt off hS (r (ds_new (fun p hp => lt_all _ hlt p (.tail _ (.tail _ (.tail _ hp)))) d))
local macro_rules | `(tactic| walk_at "callWith builtin:dict.update") => `(tactic| (k_here; refine callWith_method1 ?_))
theorem law_net (w : World) {oc : Value} {od : Option Addr} {name qual : Str} {params : Arguments} {body : List Stmt} {scope : Scope} {dV kV doc pm : Value} {an : Option Addr} {cdv ct : Value} {osl : Array (Option Value)} (hb : (Mine.hd0.heap_1 w.params).lookup 210 = some ⟨oc, od, .func (fnOf name qual params body scope dV kV doc pm an cdv ct), osl⟩)
    (p : Program) (loose : List Str) (mean : ExcName → Option Value) (mg mb : Str → Option Value) (dp un : Nat) (gd : Option (List Code)) (f : Addr) (cd9 : Value) (A₀ : Around) (base h₀ : Heap) (L : Addr) (m : Str → Option Value) (s : Shared) (Q : Flow → Shared → Prop) (E : Value → Shared → Prop)
    (lets row0 row1 : Addr) (oN : Obj) (x1 y1 x2 y2 : Int) (tx1 ty1 tx2 ty2 : Tok) (d0 d1 d2 : Nat) (Z : Led)
    (B : Below A₀ base [] h₀) (F : Fr h₀ L s.heap m) (X : (Mine.hd0.heap_1 w.params).In h₀) (N : News h₀ L s.heap ((lets, listOf #[.ref row0, .ref row1] d0) :: (row1, listOf #[.int x2 tx2, .int y2 ty2] d1) :: (row0, listOf #[.int x1 tx1, .int y1 ty1] d2) :: (L + 1 + 1, oN) :: Z))
    (D : Ds (lets :: row1 :: row0 :: (L + 1 + 1) :: Z.map (·.1))) (T : Top p loose mean mg mb h₀) (hd : dp + 150 < recursionLimit) (hu : un + 1200 < cLine) (hN : oN.data = .cell none) (hm : m (Str.ofString "lets") = some (.ref lets))
    (ret : ∀ (h' : Heap) (tk' : Nat) (a0 a1 a2 a3 a4 a5 a6 a7 a8 a9 a10 a11 a12 a13 a14 a15 a16 a17 a18 a19 a20 a21 a22 a23 a24 a25 : Addr) (o10 o17 on oN' : Obj) (k0 k1 k2 k3 k4 k5 k6 k7 : Tok) (c0 c1 c2 c3 c4 c5 c6 c7 c8 c9 c10 c11 c12 c13 c14 c15 c16 c17 c18 c19 c20 : Nat) (q0 q1 q2 q3 q4 q5 q6 q7 : Tok), Fr h₀ L h' m →
      News h₀ L h' ((a0, listOf #[.ref a2, .ref a1] c0) :: (a1, listOf #[.bool false, .bool false] c1) :: (a2, listOf #[.bool false, .bool false] c2) :: (a3, listOf #[.ref a7, .ref a4] c3) :: (a4, listOf #[.ref a6, .ref a5] c4) :: (a5, listOf #[] c5) :: (a6, listOf #[] c6) :: (a7, listOf #[.ref a9, .ref a8] c7) :: (a8, listOf #[] c8) :: (a9, listOf #[] c9) :: (a10, o10) :: (a11, LCg.lst ([] ++ [Value.ref a13] ++ [Value.ref a12])) :: (a12, listOf #[.int x2 tx2, .int y2 ty2] c10) :: (a13, listOf #[.int x1 tx1, .int y1 ty1] c11) :: (a14, LCg.lst ([] ++ [Value.ref a16] ++ [Value.ref a15])) :: (a15, listOf #[.int x2 tx2, .int y2 ty2] c12) :: (a16, listOf #[.int x1 tx1, .int y1 ty1] c13) :: (a17, o17) :: (a18, listOf #[.ref a20, .ref a19] c14) :: (a19, listOf #[.int 0 k0, .int 0 k1] c15) :: (a20, listOf #[.int 0 k2, .int 0 k3] c16) :: (a21, listOf #[.ref a23, .ref a22] c17) :: (a22, listOf #[.int 0 k4, .int 0 k5] c18) :: (a23, listOf #[.int 0 k6, .int 0 k7] c19) :: (a24, listOf #[] c20) :: (a25, on) :: (lets, listOf #[.ref row0, .ref row1] d0) :: (row1, listOf #[.int x2 tx2, .int y2 ty2] d1) :: (row0, listOf #[.int x1 tx1, .int y1 ty1] d2) :: (L + 1 + 1, oN') :: Z) →
      Ds (a0 :: a1 :: a2 :: a3 :: a4 :: a5 :: a6 :: a7 :: a8 :: a9 :: a10 :: a11 :: a12 :: a13 :: a14 :: a15 :: a16 :: a17 :: a18 :: a19 :: a20 :: a21 :: a22 :: a23 :: a24 :: a25 :: lets :: row1 :: row0 :: (L + 1 + 1) :: Z.map (·.1)) →
      on.IsDictOf (PySem.strKind PR w) (merged (merged (strPairs [(Value.str (Str.ofString "first") q0, Value.ref lets), (Value.str (Str.ofString "wire") q1, Value.ref a24), (Value.str (Str.ofString "known") q2, Value.ref a21), (Value.str (Str.ofString "opened") q3, Value.ref a18)])
      (strPairs [(Value.str (Str.ofString "heard") q4, Value.ref a14), (Value.str (Str.ofString "told") q5, Value.ref a11)])) (strPairs [(Value.str (Str.ofString "over") q6, Value.ref a3), (Value.str (Str.ofString "lost") q7, Value.ref a0)])) → oN'.data = .cell (some (.ref a25)) →
      wpAny (model PR w) (ktrTop dp un gd qual scope L f cd9 (lawCl L) []) (execs (body.drop 6) (envX qual scope L f cd9 (lawCl L))) Q E { heap := h', gens := s.gens, drawn := s.drawn, toks := tk', os := s.os }) :
    wpAny (model PR w) (ktrTop dp un gd qual scope L f cd9 (lawCl L) []) (execs (body.drop 3) (envX qual scope L f cd9 (lawCl L))) Q E s := by
  refine law_lit (P := fun q9 b9 sc9 => (∀ (h' : Heap) (tk' : Nat) (a0 a1 a2 a3 a4 a5 a6 a7 a8 a9 a10 a11 a12 a13 a14 a15 a16 a17 a18 a19 a20 a21 a22 a23 a24 a25 : Addr) (o10 o17 on oN' : Obj) (k0 k1 k2 k3 k4 k5 k6 k7 : Tok) (c0 c1 c2 c3 c4 c5 c6 c7 c8 c9 c10 c11 c12 c13 c14 c15 c16 c17 c18 c19 c20 : Nat) (q0 q1 q2 q3 q4 q5 q6 q7 : Tok), Fr h₀ L h' m →
      News h₀ L h' ((a0, listOf #[.ref a2, .ref a1] c0) :: (a1, listOf #[.bool false, .bool false] c1) :: (a2, listOf #[.bool false, .bool false] c2) :: (a3, listOf #[.ref a7, .ref a4] c3) :: (a4, listOf #[.ref a6, .ref a5] c4) :: (a5, listOf #[] c5) :: (a6, listOf #[] c6) :: (a7, listOf #[.ref a9, .ref a8] c7) :: (a8, listOf #[] c8) :: (a9, listOf #[] c9) :: (a10, o10) :: (a11, LCg.lst ([] ++ [Value.ref a13] ++ [Value.ref a12])) :: (a12, listOf #[.int x2 tx2, .int y2 ty2] c10) :: (a13, listOf #[.int x1 tx1, .int y1 ty1] c11) :: (a14, LCg.lst ([] ++ [Value.ref a16] ++ [Value.ref a15])) :: (a15, listOf #[.int x2 tx2, .int y2 ty2] c12) :: (a16, listOf #[.int x1 tx1, .int y1 ty1] c13) :: (a17, o17) :: (a18, listOf #[.ref a20, .ref a19] c14) :: (a19, listOf #[.int 0 k0, .int 0 k1] c15) :: (a20, listOf #[.int 0 k2, .int 0 k3] c16) :: (a21, listOf #[.ref a23, .ref a22] c17) :: (a22, listOf #[.int 0 k4, .int 0 k5] c18) :: (a23, listOf #[.int 0 k6, .int 0 k7] c19) :: (a24, listOf #[] c20) :: (a25, on) :: (lets, listOf #[.ref row0, .ref row1] d0) :: (row1, listOf #[.int x2 tx2, .int y2 ty2] d1) :: (row0, listOf #[.int x1 tx1, .int y1 ty1] d2) :: (L + 1 + 1, oN') :: Z) →
      Ds (a0 :: a1 :: a2 :: a3 :: a4 :: a5 :: a6 :: a7 :: a8 :: a9 :: a10 :: a11 :: a12 :: a13 :: a14 :: a15 :: a16 :: a17 :: a18 :: a19 :: a20 :: a21 :: a22 :: a23 :: a24 :: a25 :: lets :: row1 :: row0 :: (L + 1 + 1) :: Z.map (·.1)) →
      on.IsDictOf (PySem.strKind PR w) (merged (merged (strPairs [(Value.str (Str.ofString "first") q0, Value.ref lets), (Value.str (Str.ofString "wire") q1, Value.ref a24), (Value.str (Str.ofString "known") q2, Value.ref a21), (Value.str (Str.ofString "opened") q3, Value.ref a18)])
      (strPairs [(Value.str (Str.ofString "heard") q4, Value.ref a14), (Value.str (Str.ofString "told") q5, Value.ref a11)])) (strPairs [(Value.str (Str.ofString "over") q6, Value.ref a3), (Value.str (Str.ofString "lost") q7, Value.ref a0)])) → oN'.data = .cell (some (.ref a25)) →
      wpAny (model PR w) (ktrTop dp un gd q9 sc9 L f cd9 (lawCl L) []) (execs (b9.drop 6) (envX q9 sc9 L f cd9 (lawCl L))) Q E { heap := h', gens := s.gens, drawn := s.drawn, toks := tk', os := s.os }) → wpAny (model PR w) (ktrTop dp un gd q9 sc9 L f cd9 (lawCl L) []) (execs (b9.drop 3) (envX q9 sc9 L f cd9 (lawCl L))) Q E s) hb (by k_is) ?_ ret
  clear ret
  intro ret
  show wpAny _ _ (execs (_ :: _) _) _ _ _
  repeat' ((fail_if_success (with_reducible show wpAny _ _ (execs (Stmt.Assign _ (Expr.ListComp _ [_, _] _ _) _ :: _) _) _ _ _)); (first | (k_unfold; (try dsimp only)) | ((with_reducible show wpAny _ _ _ _ _ (Shared.mk _ _ _ (HAdd.hAdd (HAdd.hAdd _ _) _) _)); refine genT ?_; intro tk9) | ((with_reducible show wpAny _ _ (getMethod (Value.ref _) (Str.ofString "update") _) _ _ _); k_dflt (refine upd_meth (knd := PySem.strKind _ _) (by k_asm) (by k_mem) (by k_asm) ?_)) | ((with_reducible show LCg.CompEnd _ _ _ _ _ _ _ _ _ _ _ _ _ _); refine' compEnd_newE ?F ?N ?l ?o ?S ?d ?_; (case F | N => k_asm); (case l => assumption); (case o => first | assumption | (simp only [LCg.Off3, and_true]; assumption)); (case S => exact .inr ⟨_, by k_mem, rfl, _, rfl⟩); (case d => assumption); intro D') | ((with_reducible show wpAny _ _ (eval (Expr.ListComp _ [⟨Expr.Name _ _, Expr.Name _ _, [], _⟩] _ _) _) _ _ _); k_dflt (refine LCg.ListComp_U (F₀ := by k_asm) (by rfl) (by decide) (by rfl) (by decide) (by rfl) ?_)) | ((with_reducible show wpAny _ _ (newList _) _ _ _); k_dflt (refine' newList_D ?k1 ?k2 ?k3 ?k4 ?_; (case k1 => k_asm); (case k2 => k_asm); (case k3 => assumption); (case k4 => exact Nat.le_of_ble_eq_true rfl); k_whole); intro t' h' F' N' D'; (try k_sweep)) | ((with_reducible show wpAny _ _ (eval (Expr.Dict _ _ _) _) _ _ _); k_dflt (refine' dict_D ?q ?F ?N ?D ?b ?a ?l ?e ?n ?_; (case q => rfl); (case F => k_asm); (case N => k_asm); (case D => assumption); (case b => exact Top.nolimit (by k_asm)); (case a => rfl); (case l => rfl); (case e => exact List.cons_ne_nil _ _); (case n => exact Nat.le_of_ble_eq_true rfl)); intro d' h' o' F' N' D' lo' hd') | ((with_reducible show KdnMade _ _ _ _ _ _ _); k_dflt (refine' kdn_made_str ?F ?N ?U ?d ?k ?n ?_; (case F => k_asm); (case N => k_asm); (case U => first | exact updF_of _ 6 (by assumption) rfl | exact updF_of _ 7 (by assumption) rfl | exact updF_of _ 10 (by assumption) rfl); (case d => k_asm); (case k => rfl); (case n => exact of_decide_eq_true (by first | rfl | kernel_rfl!))); intro h' o' F' N' hd'; (try dsimp only [List.set_cons_zero, List.set_cons_succ] at N')) | ((with_reducible show wpAny _ _ (storeName _ _ _) _ _ _); k_dflt (refine' storeX_C ?F ?N ?c ?U ?d ?_ ?hk ?hx; (case F => k_asm); (case N => k_asm); (case c => rfl); (case U => exact updF_of _ 11 (by assumption) rfl); (case d => assumption); (case hk => rfl); (case hx => rfl); k_whole); intro h' o' F' N' hc'; (try dsimp only [List.set_cons_zero, List.set_cons_succ] at N')) | ((with_reducible show wpAny _ _ (call (Value.builtin "dict.update") _) _ _ _); k_dflt (first | (refine' upd_call (knd := PySem.strKind _ _) ?F ?N ?U ?d ?p ?e ?ne ?lo ?z ?_; (case F => k_asm); (case N => k_asm); (case U => exact updF_of _ 14 (by assumption) rfl); (case d => k_asm); (case p => exact List.mem_of_getElem? (i := 6) rfl); (case e => k_asm); (case ne => exact ds_ne 6 14 (by assumption) (by decide) rfl rfl); (case lo => assumption); (case z => exact Nat.le_of_ble_eq_true rfl); k_whole) | (refine' upd_call (knd := PySem.strKind _ _) ?F ?N ?U ?d ?p ?e ?ne ?lo ?z ?_; (case F => k_asm); (case N => k_asm); (case U => exact updF_of _ 25 (by assumption) rfl); (case d => k_asm); (case p => exact List.mem_of_getElem? (i := 10) rfl); (case e => k_asm); (case ne => exact ds_ne 10 25 (by assumption) (by decide) rfl rfl); (case lo => assumption); (case z => exact Nat.le_of_ble_eq_true rfl); k_whole)); intro h' o' F' N' hd'; (try dsimp only [List.set_cons_zero, List.set_cons_succ] at N')) | ((with_reducible show LCg.CompSrc _ _ _ _ _ _ _ _ _ _ _ _ _ _); k_dflt (first | (refine LCg.CompSrc.ledger (by rfl) (by k_asm) (by k_asm) (List.mem_of_getElem? (i := 9) rfl) (by rw [sizeLine_eq]; exact Nat.le_of_ble_eq_true rfl) ?_) | (refine LCg.CompSrc.ledger (by rfl) (by k_asm) (by k_asm) (List.mem_of_getElem? (i := 12) rfl) (by rw [sizeLine_eq]; exact Nat.le_of_ble_eq_true rfl) ?_)); intro g') | ((with_reducible show LCg.FinE _ _ _ _ _ _ _); (unfold LCg.FinE; intro D' h' tk' F' N' o'; have D'' := ds_off1 o' (by assumption))) | ((with_reducible show wpAny _ _ (eval (Expr.Name _ _) (envX _ _ _ _ _ _)) _ _ _); k_dflt (refine' nameX_L ?k1 ?k2 ?_ ?k3 ?k4 ?k5; (case k3 => rfl); (case k4 => rfl); (case k5 => decide); (case k1 => k_asm); (case k2 => with_reducible assumption); k_whole)) | ((with_reducible show wpAny _ _ (eval (Expr.Name _ _) (envX _ _ _ _ _ _)) _ _ _); k_dflt (refine' nameX_C ?k1 ?k2 ?k3 ?k4 ?_ ?ka ?kb ?kc; (case ka => rfl); (case kb => rfl); (case kc => decide); (case k1 => k_asm); (case k2 => rfl); (case k3 => k_mem); (case k4 => assumption); k_whole)) | walk1 | (dsimp only; walk1)) <;> (try dsimp only))
  rename Obj.IsDictOf _ _ _ => hdZ
  exact ret _ _ _ _ _ _ _ _ _ _ _ _ _ _ _ _ _ _ _ _ _ _ _ _ _ _ _ _ _ _ _ _ _ _ _ _ _ _ _ _ _ _ _ _ _ _ _ _ _ _ _ _ _ _ _ _ _ _ _ _ _ _ _ _ _ _ _ _ _ (by k_asm) (by k_asm) (by k_asm) hdZ (by k_asm)
end

/-! part Q10 -/
section
open PySem PySem.W PySem.Calls PyProof.Rows PySem.Spec
noncomputable def idx : Slot → Nat
  | .outer .lost => 0
  | .row .lost true => 1
  | .row .lost false => 2
  | .outer .over => 3
  | .row .over true => 4
  | .over true true => 5
  | .over true false => 6
  | .row .over false => 7
  | .over false true => 8
  | .over false false => 9
  | .outer .told => 11
  | .row .told true => 12
  | .row .told false => 13
  | .outer .heard => 14
  | .row .heard true => 15
  | .row .heard false => 16
  | .outer .opened => 18
  | .row .opened true => 19
  | .row .opened false => 20
  | .outer .known => 21
  | .row .known true => 22
  | .row .known false => 23
  | .wire => 24
  | .net => 25
  | .ends => 30
  | .fld true .owes => 31
  | .fld true .toldL => 32
  | .fld true .peerM => 33
  | .fld true .ownM => 34
  | .fld true .peerL => 35
  | .fld true .ownL => 36
  | .inst true => 37
  | .dct true => 38
  | .fld false .owes => 39
  | .fld false .toldL => 40
  | .fld false .peerM => 41
  | .fld false .ownM => 42
  | .fld false .peerL => 43
  | .fld false .ownL => 44
  | .inst false => 45
  | .dct false => 46
  | .outer .first => 26
  | .row .first true => 27
  | .row .first false => 28
  | .box => 47
  | .scr => 48
noncomputable def uni : Nat → Slot
  | 0 => .outer .lost
  | 1 => .row .lost true
  | 2 => .row .lost false
  | 3 => .outer .over
  | 4 => .row .over true
  | 5 => .over true true
  | 6 => .over true false
  | 7 => .row .over false
  | 8 => .over false true
  | 9 => .over false false
  | 11 => .outer .told
  | 12 => .row .told true
  | 13 => .row .told false
  | 14 => .outer .heard
  | 15 => .row .heard true
  | 16 => .row .heard false
  | 18 => .outer .opened
  | 19 => .row .opened true
  | 20 => .row .opened false
  | 21 => .outer .known
  | 22 => .row .known true
  | 23 => .row .known false
  | 24 => .wire
  | 25 => .net
  | 30 => .ends
  | 31 => .fld true .owes
  | 32 => .fld true .toldL
  | 33 => .fld true .peerM
  | 34 => .fld true .ownM
  | 35 => .fld true .peerL
  | 36 => .fld true .ownL
  | 37 => .inst true
  | 38 => .dct true
  | 39 => .fld false .owes
  | 40 => .fld false .toldL
  | 41 => .fld false .peerM
  | 42 => .fld false .ownM
  | 43 => .fld false .peerL
  | 44 => .fld false .ownL
  | 45 => .inst false
  | 46 => .dct false
  | 26 => .outer .first
  | 27 => .row .first true
  | 28 => .row .first false
  | 47 => .box
  | 48 => .scr
  | _ => .scr
theorem uni_idx (sl : Slot) : uni (idx sl) = sl := by
  rcases sl with _ | e | e | ⟨e, f⟩ | _ | k | ⟨k, e⟩ | ⟨e, s⟩ | _ | _ | _
  · rfl
  · cases e <;> rfl
  · cases e <;> rfl
  · cases e <;> cases f <;> rfl
  · rfl
  · cases k <;> rfl
  · cases e <;> cases k <;> rfl
  · cases e <;> cases s <;> rfl
  · rfl
  · rfl
  · rfl
theorem idx_lt (sl : Slot) : idx sl < 50 ∧ idx sl ≠ 29 := by
  rcases sl with _ | e | e | ⟨e, f⟩ | _ | k | ⟨k, e⟩ | ⟨e, s⟩ | _ | _ | _
  · decide
  · cases e <;> decide
  · cases e <;> decide
  · cases e <;> cases f <;> decide
  · decide
  · cases k <;> decide
  · cases e <;> cases k <;> decide
  · cases e <;> cases s <;> decide
  · decide
  · decide
  · decide
noncomputable def dflt : Addr × Obj := (0, listOf #[] 0)
noncomputable abbrev layI (es : Led) : Slot → Addr := fun sl => (es.getD (idx sl) dflt).1
noncomputable abbrev objI (es : Led) : Slot → Obj := fun sl => (es.getD (idx sl) dflt).2
theorem ds_inj {l : List Addr} (D : Ds l) {i j : Nat} {a : Addr} (hi : l[i]? = some a) (hj : l[j]? = some a) : i = j := by
  rcases Nat.lt_trichotomy i j with h | h | h
  · exact absurd rfl (ds_ne i j D h hi hj)
  · exact h
  · exact absurd rfl (ds_ne j i D h hj hi)
theorem pack {es : Led} {h₀ h : Heap} {L : Addr} {pN pE : Addr × Obj} (N : News h₀ L h es) (D : Ds (es.map (·.1))) (hlen : es.length = 51) (e49 : es[29]? = some pN) (e50 : es[50]? = some pE) :
    News h₀ L h ([pN, pE] ++ Lg (layI es) (objI es)) ∧ Lay (layI es) [pN, pE] := by
  have at_ : ∀ sl, es[idx sl]? = some (layI es sl, objI es sl) := fun sl => by
    have l : idx sl < es.length := by rw [hlen]; exact Nat.lt_of_lt_of_le (idx_lt sl).1 (by decide)
    show _ = some (es.getD (idx sl) dflt)
    rw [List.getD_eq_getElem?_getD, List.getElem?_eq_getElem l]
    rfl
  have ad : ∀ (i : Nat) (p : Addr × Obj), es[i]? = some p → (es.map (·.1))[i]? = some p.1 := fun i p e => by rw [List.getElem?_map, e]; rfl
  refine ⟨fun p hp => ?_, fun a b q => ?_, fun p hp sl q => ?_⟩
  · rcases List.mem_append.mp hp with hp | hp
    · rcases List.mem_cons.mp hp with rfl | hp
      · exact N _ (List.mem_of_getElem? e49)
      · rw [List.mem_singleton.mp hp]; exact N _ (List.mem_of_getElem? e50)
    · obtain ⟨sl, _, rfl⟩ := List.mem_map.mp hp
      exact N _ (List.mem_of_getElem? (at_ sl))
  · have ha := ad _ _ (at_ a)
    have hb := ad _ _ (at_ b)
    rw [← q] at hb
    have := ds_inj D ha hb
    rw [← uni_idx a, this, uni_idx]
  · have ha := ad _ _ (at_ sl)
    rcases List.mem_cons.mp hp with rfl | hp
    · have hb := ad _ _ e49
      rw [q] at hb
      have := ds_inj D ha hb
      have := idx_lt sl
      omega
    · rw [List.mem_singleton.mp hp] at q
      have hb := ad _ _ e50
      rw [q] at hb
      have := ds_inj D ha hb
      have := idx_lt sl
      omega
noncomputable def bb {α : Type} (x y : α) : Bool → α
  | false => x
  | true => y
theorem row_ex {g : Bool → Int} {x y : Int} {tx ty : Tok} {n : Nat} (h : g = bb x y) : ∃ tk c, listOf #[.int x tx, .int y ty] n = rowI g tk c := by
  subst h
  exact ⟨bb tx ty, n, rfl⟩
theorem bool_ex {n : Nat} : ∃ c, listOf #[.bool false, .bool false] n = pairL (fun _ => .bool false) c := ⟨n, rfl⟩
theorem ref_ex {f : Bool → Value} {x y : Value} {n : Nat} (hx : x = f false) (hy : y = f true) : ∃ c, listOf #[x, y] n = pairL f c := by
  subst hx hy
  exact ⟨n, rfl⟩
theorem dct_ex {lay : Slot → Addr} {e : Bool} {h0 h1 h2 h3 h4 h5 h6 : Int} {t0 t1 t2 t3 t4 t5 t6 t7 : Tok} {n : Nat} {a b c d f g : Addr} {r : Str} (hr : r = roleS e) (ha : a = lay (.fld e .ownL)) (hb : b = lay (.fld e .peerL)) (hc : c = lay (.fld e .ownM)) (hd : d = lay (.fld e .peerM)) (hf : f = lay (.fld e .toldL)) (hg : g = lay (.fld e .owes)) :
    ∃ h t m, dictOf [⟨h0, .str (Str.ofString "role") t0, .str r t1⟩, ⟨h1, .str (Str.ofString "own_limits") t2, .ref a⟩, ⟨h2, .str (Str.ofString "peer_limits") t3, .ref b⟩, ⟨h3, .str (Str.ofString "own_many") t4, .ref c⟩, ⟨h4, .str (Str.ofString "peer_many") t5, .ref d⟩, ⟨h5, .str (Str.ofString "told_limits") t6, .ref f⟩, ⟨h6, .str (Str.ofString "owes_limit") t7, .ref g⟩] n = dctObj lay e h t m := by
  subst hr ha hb hc hd hf hg
  exact ⟨fun i => [h0, h1, h2, h3, h4, h5, h6].getD i 0, fun i => [t0, t1, t2, t3, t4, t5, t6, t7].getD i 0, n, rfl⟩
theorem start_rel {w : World} {h₀ h : Heap} {L : Addr} {a0 a1 a2 a3 a4 a5 a6 a7 a8 a9 a10 a11 a12 a13 a14 a15 a16 a17 a18 a19 a20 a21 a22 a23 a24 a25 a26 a27 a28 a29 a30 a31 a32 a33 a34 a35 a36 a37 a38 a39 a40 a41 a42 a43 a44 a45 a46 a47 a48 : Addr} {o10 o17 o48 on oN oE : Obj} {k0 k1 k2 k3 k4 k5 k6 k7 k8 k9 k10 k11 k12 k13 k14 k15 k16 k17 k18 k19 k20 k21 k22 k23 k24 k25 k26 k27 k28 k29 k30 k31 k32 k33 k34 k35 k36 k37 k38 k39 k40 k41 k42 k43 k44 k45 k46 k47 k48 k49 k50 k51 k52 k53 k54 k55 kb : Tok} {c0 c1 c2 c3 c4 c5 c6 c7 c8 c9 c10 c11 c12 c13 c14 c15 c16 c17 c18 c19 c20 c21 c22 c23 c24 c25 c26 c27 c28 c29 c30 c31 c32 c33 c34 c35 c36 c37 cb cw : Nat} {h0 h1 h2 h3 h4 h5 h6 h7 h8 h9 h10 h11 h12 h13 : Int} {v1 v2 v3 v4 : Int} {ws : List Value} {ns : List Int} {q0 q1 q2 q3 q4 q5 q6 q7 : Tok}
    (N : News h₀ L h ((a0, listOf #[.ref a2, .ref a1] c0) :: (a1, listOf #[.bool false, .bool false] c1) :: (a2, listOf #[.bool false, .bool false] c2) :: (a3, listOf #[.ref a7, .ref a4] c3) :: (a4, listOf #[.ref a6, .ref a5] c4) :: (a5, listOf #[] c5) :: (a6, listOf #[] c6) :: (a7, listOf #[.ref a9, .ref a8] c7) :: (a8, listOf #[] c8) :: (a9, listOf #[] c9) :: (a10, o10) :: (a11, LCg.lst ([] ++ [Value.ref a13] ++ [Value.ref a12])) :: (a12, listOf #[.int (1 + v3) k0, .int v4 k1] c10) :: (a13, listOf #[.int (1 + v1) k2, .int (1 + v2) k3] c11) :: (a14, LCg.lst ([] ++ [Value.ref a16] ++ [Value.ref a15])) :: (a15, listOf #[.int (1 + v3) k4, .int v4 k5] c12) :: (a16, listOf #[.int (1 + v1) k6, .int (1 + v2) k7] c13) :: (a17, o17) :: (a18, listOf #[.ref a20, .ref a19] c14) :: (a19, listOf #[.int 0 k8, .int 0 k9] c15) :: (a20, listOf #[.int 0 k10, .int 0 k11] c16) :: (a21, listOf #[.ref a23, .ref a22] c17) :: (a22, listOf #[.int 0 k12, .int 0 k13] c18) :: (a23, listOf #[.int 0 k14, .int 0 k15] c19) :: (a24, listOf #[] c20) :: (a25, on) :: (a43, listOf #[.ref a45, .ref a44] c35) :: (a44, listOf #[.int (1 + v3) k52, .int v4 k53] c36) :: (a45, listOf #[.int (1 + v1) k54, .int (1 + v2) k55] c37) :: (L + 1 + 1, oN) :: (a26, { cls := .type "tuple", data := .seq #[.ref a41, .ref a33] }) :: (a27, listOf #[.bool false, .bool false] c21) :: (a28, listOf #[.int (1 + v1) k16, .int (1 + v2) k17] c22) :: (a29, listOf #[.int 0 k18, .int 0 k19] c23) :: (a30, listOf #[.int 0 k20, .int 0 k21] c24) :: (a31, listOf #[.int (1 + v1) k22, .int (1 + v2) k23] c25) :: (a32, listOf #[.int (1 + v3) k24, .int v4 k25] c26) :: (a33, instObj 135 a34) :: (a34, dictOf [⟨h0, .str (Str.ofString "role") k26, .str (Str.ofString "server") k27⟩, ⟨h1, .str (Str.ofString "own_limits") k28, .ref a32⟩, ⟨h2, .str (Str.ofString "peer_limits") k29, .ref a31⟩, ⟨h3, .str (Str.ofString "own_many") k30, .ref a30⟩, ⟨h4, .str (Str.ofString "peer_many") k31, .ref a29⟩, ⟨h5, .str (Str.ofString "told_limits") k32, .ref a28⟩, ⟨h6, .str (Str.ofString "owes_limit") k33, .ref a27⟩] c27) :: (a35, listOf #[.bool false, .bool false] c28) :: (a36, listOf #[.int (1 + v3) k34, .int v4 k35] c29) :: (a37, listOf #[.int 0 k36, .int 0 k37] c30) :: (a38, listOf #[.int 0 k38, .int 0 k39] c31) :: (a39, listOf #[.int (1 + v3) k40, .int v4 k41] c32) :: (a40, listOf #[.int (1 + v1) k42, .int (1 + v2) k43] c33) :: (a41, instObj 135 a42) :: (a42, dictOf [⟨h7, .str (Str.ofString "role") k44, .str (Str.ofString "client") k45⟩, ⟨h8, .str (Str.ofString "own_limits") k46, .ref a40⟩, ⟨h9, .str (Str.ofString "peer_limits") k47, .ref a39⟩, ⟨h10, .str (Str.ofString "own_many") k48, .ref a38⟩, ⟨h11, .str (Str.ofString "peer_many") k49, .ref a37⟩, ⟨h12, .str (Str.ofString "told_limits") k50, .ref a36⟩, ⟨h13, .str (Str.ofString "owes_limit") k51, .ref a35⟩] c34) :: (a46, listOf #[.ref a47, .int (0 + 1 + 1 + 1 + 1) kb] cb) :: (a47, listOf ws.toArray cw) :: (a48, o48) :: (L + 1, oE) :: []))
    (D : Ds (a0 :: a1 :: a2 :: a3 :: a4 :: a5 :: a6 :: a7 :: a8 :: a9 :: a10 :: a11 :: a12 :: a13 :: a14 :: a15 :: a16 :: a17 :: a18 :: a19 :: a20 :: a21 :: a22 :: a23 :: a24 :: a25 :: a43 :: a44 :: a45 :: (L + 1 + 1) :: a26 :: a27 :: a28 :: a29 :: a30 :: a31 :: a32 :: a33 :: a34 :: a35 :: a36 :: a37 :: a38 :: a39 :: a40 :: a41 :: a42 :: a46 :: a47 :: a48 :: (L + 1) :: []))
    (hd : on.IsDictOf (PySem.strKind PR w) (merged (merged (strPairs [(Value.str (Str.ofString "first") q0, Value.ref a43), (Value.str (Str.ofString "wire") q1, Value.ref a24), (Value.str (Str.ofString "known") q2, Value.ref a21), (Value.str (Str.ofString "opened") q3, Value.ref a18)])
      (strPairs [(Value.str (Str.ofString "heard") q4, Value.ref a14), (Value.str (Str.ofString "told") q5, Value.ref a11)])) (strPairs [(Value.str (Str.ofString "over") q6, Value.ref a3), (Value.str (Str.ofString "lost") q7, Value.ref a0)])))
    (hN : oN.data = .cell (some (.ref a25))) (hE : oE.data = .cell (some (.ref a26))) (hI : IntsAre ws (List.take 48 ns)) (b1 : 0 ≤ v1) (b2 : v1 < 3) (b3 : 0 ≤ v2) (b4 : v2 < 2) (b5 : 0 ≤ v3) (b6 : v3 < 3) (b7 : 0 ≤ v4) (b8 : v4 < 2) :
    ∃ (lay : Slot → Addr) (W : Led) (O : Slot → Obj) (S : St), Lay lay W ∧ Rel w lay W O S ∧ Ok S 0 S.wire ∧ S.spot = 4 ∧ News h₀ L h (W ++ Lg lay O) ∧ (∃ o, (L + 1 + 1, o) ∈ W ∧ o.data = .cell (some (.ref (lay .net)))) ∧ (∃ o, (L + 1, o) ∈ W ∧ o.data = .cell (some (.ref (lay .ends)))) ∧ a46 = lay .box := by
  obtain ⟨N1, l1⟩ := pack N D rfl rfl rfl
  let f : Bool → Bool → Int := bb (bb (1 + v1) (1 + v2)) (bb (1 + v3) v4)
  refine ⟨_, _, _, { first := f, known := fun _ => bb 0 0, opened := fun _ => bb 0 0, heard := f, told := f, lost := fun _ _ => false, over := fun _ _ => [], wire := [], spot := 0 + 1 + 1 + 1 + 1 }, l1, ?_, ?_, rfl, N1, ⟨oN, .head _, hN⟩, ⟨oE, .tail _ (.head _), hE⟩, rfl⟩
  · refine ⟨⟨rfl, fun e => ?_, fun e => ?_⟩, ⟨⟨on, rfl, hd⟩, fun k => ?_, fun e => ?_⟩, fun e => ?_, fun e => ?_, fun e => ?_, fun e => ?_, fun e => ?_, fun e => ?_, fun e u => ?_, fun e => ?_, fun e => ?_, fun e => ?_, fun e => ?_, fun e => ?_, fun e => ?_, ⟨[], _, rfl, .nil⟩, ⟨kb, cb, rfl⟩, ⟨ws, _, cw, rfl, hI, ?_⟩⟩
    · cases e <;> rfl
    · cases e
      · exact dct_ex (e := false) rfl rfl rfl rfl rfl rfl rfl
      · exact dct_ex (e := true) rfl rfl rfl rfl rfl rfl rfl
    · cases k <;> exact ref_ex rfl rfl
    · cases e <;> exact ref_ex rfl rfl
    · cases e <;> exact row_ex rfl
    · cases e <;> exact row_ex rfl
    · cases e <;> exact row_ex rfl
    · cases e <;> exact row_ex rfl
    · cases e <;> exact row_ex rfl
    · cases e <;> exact bool_ex
    · cases e <;> cases u <;> exact ⟨[], _, rfl, .nil⟩
    · cases e <;> exact row_ex rfl
    · cases e <;> exact row_ex rfl
    · cases e <;> exact row_ex rfl
    · cases e <;> exact row_ex rfl
    · cases e
      · exact row_ex (by funext u; cases u <;> exact Int.add_zero _)
      · exact row_ex (by funext u; cases u <;> exact Int.add_zero _)
    · cases e <;> exact bool_ex
    · exact Nat.le_trans (List.length_take_le _ _) (by decide)
  · have le : ∀ e u, 0 ≤ f e u ∧ f e u < 10 := fun e u => by
      cases e <;> cases u
      · show 0 ≤ 1 + v1 ∧ 1 + v1 < 10; omega
      · show 0 ≤ 1 + v2 ∧ 1 + v2 < 10; omega
      · show 0 ≤ 1 + v3 ∧ 1 + v3 < 10; omega
      · show 0 ≤ v4 ∧ v4 < 10; omega
    have z : ∀ e u : Bool, (fun _ => bb (0 : Int) 0 : Bool → Bool → Int) e u = 0 := fun e u => by cases u <;> rfl
    refine ⟨fun e u => Int.le_of_eq (z e u).symm, fun e u => Int.le_refl _, fun e u => ?_, fun e u => Int.le_refl _, fun e u => ?_, fun e u => (le e u).1, fun e u => (le e u).2, fun e u => Nat.le_refl _, Nat.le_refl _, (fun wd h => nomatch h), fun e u _ => .inl rfl⟩
    · exact Int.le_trans (Int.le_of_eq (z e u)) (le e u).1
    · exact Int.le_of_eq (Int.add_zero _).symm
end

/-! part S11 -/
section
open PySem PySem.W PySem.Calls PyProof.Rows
theorem unrot3 {h₀ h : Heap} {L : Addr} {x b c : Addr × Obj} {W : Led} (N : News h₀ L h (b :: c :: x :: W)) : News h₀ L h (x :: b :: c :: W) := fun p hp => by
  rcases List.mem_cons.mp hp with h1 | hp
  · rw [h1]; exact N _ (.tail _ (.tail _ (.head _)))
  · rcases List.mem_cons.mp hp with h1 | hp
    · rw [h1]; exact N _ (.head _)
    · rcases List.mem_cons.mp hp with h1 | hp
      · rw [h1]; exact N _ (.tail _ (.head _))
      · exact N _ (.tail _ (.tail _ (.tail _ hp)))
theorem law_post (ns : List Int) : PySem.Challenge.rw_tk0090_01.row.claim.post [ofPy (PyData.list (List.map PyData.int ns))] (.bool true) [ofPy (PyData.list (List.map PyData.int ns))] = true := by
  wrow_post
local macro_rules | `(tactic| k_qdec) => `(tactic| decide +kernel)
theorem law_holds : PySem.Challenge.rw_tk0090_01.Holds := Mine.hd0 ⟨left _, (by
  k_go0
  (all_goals try k_fold)
  repeat' ((fail_if_success (with_reducible show wpAny _ _ (call (Value.ref 146) _) _ _ _)); (fail_if_success (with_reducible show wpAny _ _ (getMethod (Value.ref _) (Str.ofString "update") _) _ _ _)); first | (k_unfold; (try dsimp only)) | (k_end; wrow_close) | walk1 | (dsimp only; walk1))
  refine' FnL.use ?k1 ?k2 ?k3 ?k4 ?k5 ?kK (c_take0 _ _ _ 0 _ _ _ _ _ _ ?q1 ?q2 ?q3 ?q4 ?q5 _ _ ?q6 ?q7) ?kd ?ku ?_
  (case k1 => k_asm)
  (case k2 => k_asm)
  (case k3 => k_asm)
  (case k4 => k_asm)
  (case k5 => k_asm)
  (case kK => exact rfl)
  (case q1 => assumption)
  (case q2 => (simp only [List.length_take] at *; omega))
  (case q3 => (intro p9 hp9; simp only [List.mem_cons, List.not_mem_nil, or_false] at hp9; rcases hp9 with rfl | rfl | rfl | rfl <;> (refine neN ?_; omega)))
  (case q4 => omega)
  (case q5 => omega)
  (case q6 => omega)
  (case q7 => omega)
  (case kd => ktr_room)
  (case ku => ktr_units)
  intro r9 n9 h9 tk9 F9 N9 hP9
  obtain ⟨⟨v1, t9, rfl, va1, vb1⟩, t8, rfl⟩ := hP9
  (try dsimp only)
  (try dsimp only)
  (try k_sweep)
  repeat' ((fail_if_success (with_reducible show wpAny _ _ (call (Value.ref 146) _) _ _ _)); (fail_if_success (with_reducible show wpAny _ _ (getMethod (Value.ref _) (Str.ofString "update") _) _ _ _)); first | (k_unfold; (try dsimp only)) | (k_end; wrow_close) | walk1 | (dsimp only; walk1))
  refine' FnL.use ?k1 ?k2 ?k3 ?k4 ?k5 ?kK (c_take0 _ _ _ (0 + 1) _ _ _ _ _ _ ?q1 ?q2 ?q3 ?q4 ?q5 _ _ ?q6 ?q7) ?kd ?ku ?_
  (case k1 => k_asm)
  (case k2 => k_asm)
  (case k3 => k_asm)
  (case k4 => k_asm)
  (case k5 => k_asm)
  (case kK => exact rfl)
  (case q1 => assumption)
  (case q2 => (simp only [List.length_take] at *; omega))
  (case q3 => (intro p9 hp9; simp only [List.mem_cons, List.not_mem_nil, or_false] at hp9; rcases hp9 with rfl | rfl | rfl | rfl <;> (refine neN ?_; omega)))
  (case q4 => omega)
  (case q5 => omega)
  (case q6 => omega)
  (case q7 => omega)
  (case kd => ktr_room)
  (case ku => ktr_units)
  intro r9 n9 h9 tk9 F9 N9 hP9
  obtain ⟨⟨v2, t9, rfl, va2, vb2⟩, t8, rfl⟩ := hP9
  (try dsimp only)
  (try dsimp only)
  (try k_sweep)
  repeat' ((fail_if_success (with_reducible show wpAny _ _ (call (Value.ref 146) _) _ _ _)); (fail_if_success (with_reducible show wpAny _ _ (getMethod (Value.ref _) (Str.ofString "update") _) _ _ _)); first | (k_unfold; (try dsimp only)) | (k_end; wrow_close) | walk1 | (dsimp only; walk1))
  refine' FnL.use ?k1 ?k2 ?k3 ?k4 ?k5 ?kK (c_take0 _ _ _ (0 + 1 + 1) _ _ _ _ _ _ ?q1 ?q2 ?q3 ?q4 ?q5 _ _ ?q6 ?q7) ?kd ?ku ?_
  (case k1 => k_asm)
  (case k2 => k_asm)
  (case k3 => k_asm)
  (case k4 => exact rot3 (by k_asm))
  (case k5 => k_asm)
  (case kK => exact rfl)
  (case q1 => assumption)
  (case q2 => (simp only [List.length_take] at *; omega))
  (case q3 => (intro p9 hp9; simp only [List.mem_cons, List.not_mem_nil, or_false] at hp9; rcases hp9 with rfl | rfl | rfl | rfl | rfl <;> (refine neN ?_; omega)))
  (case q4 => omega)
  (case q5 => omega)
  (case q6 => omega)
  (case q7 => omega)
  (case kd => ktr_room)
  (case ku => ktr_units)
  intro r9 n9 h9 tk9 F9 N9 hP9
  obtain ⟨⟨v3, t9, rfl, va3, vb3⟩, t8, rfl⟩ := hP9
  (try dsimp only)
  (try dsimp only)
  (try k_sweep)
  repeat' ((fail_if_success (with_reducible show wpAny _ _ (call (Value.ref 146) _) _ _ _)); (fail_if_success (with_reducible show wpAny _ _ (getMethod (Value.ref _) (Str.ofString "update") _) _ _ _)); first | (k_unfold; (try dsimp only)) | (k_end; wrow_close) | walk1 | (dsimp only; walk1))
  refine' FnL.use ?k1 ?k2 ?k3 ?k4 ?k5 ?kK (c_take0 _ _ _ (0 + 1 + 1 + 1) _ _ _ _ _ _ ?q1 ?q2 ?q3 ?q4 ?q5 _ _ ?q6 ?q7) ?kd ?ku ?_
  (case k1 => k_asm)
  (case k2 => k_asm)
  (case k3 => k_asm)
  (case k4 => k_asm)
  (case k5 => k_asm)
  (case kK => exact rfl)
  (case q1 => assumption)
  (case q2 => (simp only [List.length_take] at *; omega))
  (case q3 => (intro p9 hp9; simp only [List.mem_cons, List.not_mem_nil, or_false] at hp9; rcases hp9 with rfl | rfl | rfl | rfl | rfl <;> (refine neN ?_; omega)))
  (case q4 => omega)
  (case q5 => omega)
  (case q6 => omega)
  (case q7 => omega)
  (case kd => ktr_room)
  (case ku => ktr_units)
  intro r9 n9 h9 tk9 F9 N9 hP9
  obtain ⟨⟨v4, t9, rfl, va4, vb4⟩, t8, rfl⟩ := hP9
  (try dsimp only)
  replace N9 := unrot3 N9
  (try dsimp only)
  (try k_sweep)
  repeat' ((fail_if_success (with_reducible show wpAny _ _ (call (Value.ref 135) _) _ _ _)); first | (k_unfold; (try dsimp only)) | (k_end; wrow_close) | walk1 | (dsimp only; walk1))
  obtain ⟨NN, DD⟩ := with_dec (by k_asm : News _ _ _ (_ :: _)) (by
    refine DecL.mk (LtC.all (by assumption)) ?_
    repeat (first | exact DecL.two (Nat.lt_succ_self _) | refine DecL.mk (LtC.all (by assumption)) ?_ | refine DecL.mk (allLt_up (by assumption) (LtC.all (by assumption))) ?_)
    all_goals trace_state)
  replace DD : Ds (_ :: _ :: _ :: _ :: _ :: _ :: _ :: _ :: []) := DD
  refine' FnL.use ?k1 ?k2 ?k3 ?k4 ?k5 ?kK (c_new _ _ _ _ _ _ _ _ _ _ _ _ _ _ _ _ ?q1 ?q2 ?q3) ?kd ?ku ?_
  (case k1 => k_asm)
  (case k2 => k_asm)
  (case k3 => k_asm)
  (case k4 => exact NN)
  (case k5 => k_asm)
  (case kK => exact rfl)
  (case q1 => k_mem)
  (case q2 => k_mem)
  (case q3 => exact DD)
  (case kd => ktr_room)
  (case ku => ktr_units)
  clear NN DD
  intro r9 n9 h9 tk9 F9 N9 hP9
  obtain ⟨xA, dA, a1, a2, a3, a4, a5, a6, _, _, _, _, _, _, _, _, _, _, _, _, _, _, _, _, _, _, _, _, _, rfl, rfl, DD⟩ := hP9
  (try dsimp only)
  (try dsimp only)
  (try k_sweep)
  repeat' ((fail_if_success (with_reducible show wpAny _ _ (call (Value.ref 135) _) _ _ _)); first | (k_unfold; (try dsimp only)) | (k_end; wrow_close) | walk1 | (dsimp only; walk1))
  refine' FnL.use ?k1 ?k2 ?k3 ?k4 ?k5 ?kK (c_new _ _ _ _ _ _ _ _ _ _ _ _ _ _ _ _ ?q1 ?q2 ?q3) ?kd ?ku ?_
  (case k1 => k_asm)
  (case k2 => k_asm)
  (case k3 => k_asm)
  (case k4 => exact N9)
  (case k5 => k_asm)
  (case kK => exact rfl)
  (case q1 => k_mem)
  (case q2 => k_mem)
  (case q3 => exact DD)
  (case kd => ktr_room)
  (case ku => ktr_units)
  clear N9 DD
  intro r9 n9 h9 tk9 F9 N9 hP9
  obtain ⟨xB, dB, b1, b2, b3, b4, b5, b6, _, _, _, _, _, _, _, _, _, _, _, _, _, _, _, _, _, _, _, _, _, rfl, rfl, DD⟩ := hP9
  (try dsimp only)
  (try dsimp only)
  (try k_sweep)
  repeat' ((fail_if_success (with_reducible show wpAny _ _ (newTuple _) _ _ _)); first | (k_unfold; (try dsimp only)) | (k_end; wrow_close) | walk1 | (dsimp only; walk1))
  refine newTup_D F9 N9 DD (Nat.le_of_ble_eq_true rfl) ?_
  intro tE h9 F9 N9 DD
  (try dsimp only)
  (try k_sweep)
  repeat' ((fail_if_success (with_reducible show wpAny _ _ (storeName _ _ _) _ _ _)); first | (k_unfold; (try dsimp only)) | (k_end; wrow_close) | walk1 | (dsimp only; walk1))
  k_dflt (refine' storeX_C ?F ?N ?c ?U ?d ?_ ?hk ?hx; (case F => k_asm); (case N => k_asm); (case c => rfl); (case U => exact updF_of _ 24 DD rfl); (case d => assumption); (case hk => rfl); (case hx => rfl); k_whole)
  intro h9 oE F9 N9 hE
  (try dsimp only [List.set_cons_zero, List.set_cons_succ] at N9)
  (try dsimp only)
  (try k_sweep)
  obtain ⟨N8, D8⟩ := reorder25 N9 DD
  clear N9 DD
  repeat' ((fail_if_success (with_reducible show wpAny _ _ (execs (Stmt.Assign _ (Expr.Dict _ _ _) _ :: _) _) _ _ _)); first | (k_unfold; (try dsimp only)) | (k_end; wrow_close) | walk1 | (dsimp only; walk1))
  (try dsimp only)
  rename World => w9
  have key := law_net w9 (by k_is)
  refine' key _ _ _ _ _ _ _ _ _ _ _ _ _ _ _ { heap := _, gens := _, drawn := _, toks := _, os := _ } _ _ _ _ _ _ _ _ _ _ _ _ _ _ _ _ _ _ ?B ?F ?X N8 D8 ?T ?kd ?ku ?hN ?hm ?ret
  case B => k_asm
  case F => k_asm
  case X => k_asm
  case T => k_asm
  case kd => ktr_room
  case ku => ktr_units
  case hN => assumption
  case hm => exact if_pos rfl
  clear key N8 D8
  intros
  rename_i F9 N9 D9 hd9 hN9
  (try dsimp only)
  obtain ⟨lay, W, O, S, hl, R, K, hsp, N7, cN, cE, hbx⟩ := start_rel N9 D9 hd9 hN9 hE (by assumption) va1 vb1 va2 vb2 va3 vb3 va4 vb4
  clear N9 D9 hd9 hN9 hE
  refine wpAny_noRaise ?_
  have key := law_six w9 lay W O hl S R K hsp (by k_is)
  refine' key _ _ _ _ _ _ _ _ _ _ _ _ _ _ _ { heap := _, gens := _, drawn := _, toks := _, os := _ } _ ?B2 F9 ?X2 N7 ?T2 ?XB ?TB ?kd2 ?ku2 cN cE ?hbox ?ret2
  case B2 => k_asm
  case X2 => k_asm
  case T2 => k_asm
  case XB => k_asm
  case TB => k_asm
  case kd2 => ktr_room
  case ku2 => ktr_units
  case hbox => rw [← hbx]; rfl
  case ret2 =>
    intro h9 tk9 m9 news9 F9 N8
    clear key N7 cN cE N8
    exact goodW_bool F9 (by assumption) (fun _ => rfl) (law_post _))⟩
end

end Mine
theorem PySem.Challenge.cw_tk0090_01_holds : PySem.Challenge.rw_tk0090_01.Holds :=
  Mine.law_holds
