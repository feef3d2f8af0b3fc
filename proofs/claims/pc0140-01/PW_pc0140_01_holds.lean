import PyProof.Rows.All
import Wide.All
import OpenK.AllK
import Wide.FinOn
import PySem.Challenge.RW_pc0140_01
set_option Elab.async false
set_option compiler.extract_closed false
set_option linter.unusedVariables false
set_option linter.unusedSimpArgs false
set_option maxRecDepth 100000
set_option maxHeartbeats 8000000
open PySem PySem.W PySem.Calls PyProof.Rows PyProof.V PySem.Spec
namespace Mine
-- Said
theorem nrNil (lk : Look) : noRoadLSs lk [] = true := rfl
theorem nrCons (lk : Look) (s : Stmt) (l : List Stmt) : noRoadLSs lk (s :: l) = (noRoadLS lk s && noRoadLSs lk l) := rfl
theorem roadSplit (lk : Look) : ∀ (l r : List Stmt), noRoadLSs lk (l ++ r) = (noRoadLSs lk l && noRoadLSs lk r)
  | [], r => by rw [nrNil, Bool.true_and]; rfl
  | s :: l, r => by rw [List.cons_append, nrCons, nrCons, roadSplit lk l r, Bool.and_assoc]

theorem road_at (lk : Look) (l : List Stmt) (n : Nat) (s : Stmt) (hs : l.drop n = s :: l.drop (n + 1)) (h1 : noRoadLSs lk (l.take n) = true) (h2 : noRoadLS lk s = true) (h3 : noRoadLSs lk (l.drop (n + 1)) = true) : noRoadLSs lk l = true := by
  rw [← List.take_append_drop n l, roadSplit, hs, nrCons]
  rw [h1, h2, h3]; rfl

theorem contains_first {x : Str} {a : Nat} (hx : x.cps[0]? = some a) {l : List Str} (h : (l.all fun y => y.cps[0]? != some a) = true) : l.contains x = false := by
  cases hc : l.contains x with
  | false => rfl
  | true =>
    have := List.all_eq_true.mp h x (by simpa using hc)
    rw [hx] at this
    simp at this


theorem opens_first {x p : Str} {a b : Nat} (hx : x.cps[0]? = some a) (hp : p.cps[0]? = some b) (hab : a ≠ b) : x.opensWith p = false := by
  unfold Str.opensWith
  rw [beq_eq_false_iff_ne]
  intro h
  have hs : 0 < p.cps.size := by
    cases hq : p.cps.size with
    | zero => rw [Array.getElem?_eq_none (by omega)] at hp; cases hp
    | succ n => omega
  have h1 : (x.cps.extract 0 p.cps.size)[0]? = p.cps[0]? := by rw [h]
  rw [Array.getElem?_extract, if_pos (by have := Array.getElem?_eq_some_iff.mp hx; obtain ⟨q, _⟩ := this; omega), Nat.add_zero, hx, hp] at h1
  exact hab (Option.some.inj h1)

theorem word_ok {lk : Look} {x : Str} (hf : lk.foot = none) (hb : lk.but = none) (h0 : x.cps[0]? = some 32) : lk.word x = true := by
  unfold Look.word attrL
  rw [hf, hb, opens_first h0 (p := "__") (b := 95) (by decide +kernel) (by decide),
    contains_first h0 (l := frameAttrs) (by decide +kernel),
    contains_first h0 (l := ["__dict__", "__getstate__", "__getattribute__", "__reduce__", "__reduce_ex__"]) (by decide +kernel)]
  simp
theorem str_ok {lk : Look} {x : Str} (hf : lk.foot = none) (hb : lk.but = none) (h0 : x.cps[0]? = some 32) (hr : roadStr x = false) : lk.str x = true := by
  unfold Look.str
  rw [word_ok hf hb h0, hr]
  simp
theorem assign_ok {lk : Look} {ts : List PySem.Expr} {x : Str} {k : Nat} {p q : Pos} (h1 : (lk.stores ts && noRoadLs lk ts) = true) (h2 : lk.str x = true) : noRoadLS lk (.Assign ts (.Constant (.str x) k p) q) = true := by
  show (lk.stores ts && noRoadLs lk ts && lk.str x) = true
  rw [h1, h2]; rfl


def strOf : Stmt → Str
  | .Assign _ (.Constant (.str x) _ _) _ => x
  | _ => default
/-- the letters of the one long text -/
inductive IsL (l : List Char) : Prop
  | mk (h : Str.ofString (String.ofList l) = strOf (PySem.Challenge.pw_pc0140_01.main.body.getD 48 default)) : IsL l
noncomputable abbrev LX : {l : List Char // IsL l} := ⟨_, ⟨rfl⟩⟩
inductive IsN (l : List Nat) : Prop
  | mk (h : l = LX.1.map Char.toNat) : IsN l
noncomputable def NX : {l : List Nat // IsN l} := by
  refine ⟨?x, ⟨?h⟩⟩
  case h =>
    conv => rhs; reduce
/-- the program with its texts written out, the one long text left open -/
inductive IsF (F : Str → Program) : Prop
  | mk (h : F (Str.ofString (String.ofList LX.1)) = PySem.Challenge.pw_pc0140_01) : IsF F
noncomputable def FX : {F : Str → Program // IsF F} := by
  refine ⟨?F, ⟨?h⟩⟩
  case h =>
    delta PySem.Challenge.pw_pc0140_01
    generalize Str.ofString (String.ofList LX.1) = x
    conv => rhs; reduce
    try exact rfl
inductive IsG (G : Program → OpenLaw) : Prop
  | mk (h : G PySem.Challenge.pw_pc0140_01 = PySem.Challenge.rw_pc0140_01) : IsG G
noncomputable def GX : {G : Program → OpenLaw // IsG G} := by
  refine ⟨?F, ⟨?h⟩⟩
  case h =>
    delta PySem.Challenge.rw_pc0140_01
    generalize PySem.Challenge.pw_pc0140_01 = p
    exact rfl
noncomputable abbrev zp : Program := FX.1 ⟨⟨NX.1⟩⟩
noncomputable abbrev rz : OpenLaw := GX.1 zp
theorem zp_is : zp = PySem.Challenge.pw_pc0140_01 := by
  have h := match FX.2 with | ⟨h⟩ => h
  have n := match NX.2 with | ⟨n⟩ => n
  have e : Str.ofString (String.ofList LX.1) = ⟨⟨NX.1⟩⟩ := by rw [n]; exact PySem.W.Fast.ofString_ofList _
  rw [e] at h; exact h
theorem rz_is : rz = PySem.Challenge.rw_pc0140_01 := by
  have h := match GX.2 with | ⟨h⟩ => h
  rw [← zp_is] at h; exact h
noncomputable def body : List Stmt := rz.row.prog.main.body
def isRes : Stmt → Bool
  | .Assign [.Name n _] (.Constant (.str _) _ _) _ => n == ("RESERVED" : Str)
  | _ => false
noncomputable def resIx : Nat := body.findIdx isRes

noncomputable def lk : Look := { strict := !(importedModules rz.row.prog.main.body).all cThrough.contains, foot := none, bare := (["vars", "dir", "locals"] : List Str).filter (readsOut rz.row.prog rz.row.prog.main.body) }
noncomputable def resStmt : Stmt := (body.drop 48).headD default
noncomputable def resCps : List Nat := (strOf resStmt).cps.toList
theorem long_is : Str.ofString (String.ofList LX.1) = ⟨⟨NX.1⟩⟩ := by
  have n := match NX.2 with | ⟨n⟩ => n
  rw [n]; exact PySem.W.Fast.ofString_ofList _
theorem resCps_is : resCps = NX.1 := by kernel_rfl
theorem res_text : (Str.ofString (String.ofList LX.1)).cps.toList = resCps := by rw [long_is, resCps_is]
theorem res1 : (resCps.any (fun c => c == 123 || c == 125)) = false := by
  have h : (!resCps.any (fun c => c == 123 || c == 125)) = true := by k_qdec
  simpa using h
theorem res2 : resCps.any (· == 46) = false := by
  have h : (!resCps.any (· == 46)) = true := by k_qdec
  simpa using h
theorem res3 : resCps.head? = some 32 := by
  have h : (resCps.head? == some 32) = true := by k_qdec
  simpa using h
theorem res_first : (strOf resStmt).cps[0]? = some 32 := by
  rw [← Array.getElem?_toList, ← List.head?_eq_getElem?]; exact res3
theorem res_road : roadStr (strOf resStmt) = false := by
  unfold roadStr
  rw [← Array.any_toList, ← Array.any_toList]
  show (resCps.any (fun c => c == 123 || c == 125) || (resCps.any (· == 46) && _)) = false
  rw [res1, res2]; rfl
theorem road1 : noRoadLSs lk (body.take 48) = true := by k_qdec
theorem road3 : noRoadLSs lk (body.drop 49) = true := by k_qdec
theorem stores1 : (lk.stores [Expr.Name "RESERVED" ⟨270, 0, 270, 8⟩] && noRoadLs lk [Expr.Name "RESERVED" ⟨270, 0, 270, 8⟩]) = true := by k_qdec
theorem assign_ok' {lk : Look} {st : Stmt} {ts : List PySem.Expr} {x : Str} {k : Nat} {p q : Pos} (e : st = .Assign ts (.Constant (.str x) k p) q) (h1 : (lk.stores ts && noRoadLs lk ts) = true) (h2 : lk.str x = true) : noRoadLS lk st = true := by
  subst e
  exact assign_ok h1 h2
theorem resStmt_is : resStmt = .Assign [Expr.Name "RESERVED" ⟨270, 0, 270, 8⟩] (.Constant (.str (strOf resStmt)) 0 ⟨270, 11, 270, 1873⟩) ⟨270, 0, 270, 1873⟩ := by kernel_rfl
theorem road2 : noRoadLS lk resStmt = true :=
  assign_ok' resStmt_is stores1 (str_ok (by unfold lk; exact Eq.refl none) (by unfold lk; exact Eq.refl none) res_first res_road)
theorem body_drop : body.drop 48 = resStmt :: body.drop (48 + 1) := by kernel_rfl
theorem road : noRoadLSs lk body = true := road_at lk body 48 resStmt body_drop road1 road2 road3
theorem said : OpenLaw.wellSaid PySem.Challenge.rw_pc0140_01 = true := by
  rw [← rz_is]
  unfold OpenLaw.wellSaid
  iterate 18 (refine look_both ?_ (by first | k_qdec | decide +kernel))
  unfold OpenRow.wellSaid
  iterate 2 (refine look_both ?_ (by first | k_qdec | decide +kernel))
  unfold OpenRow.partSaid
  iterate 13 (refine look_both ?_ (by first | k_qdec | decide +kernel))
  unfold looksOpen
  refine look_both (look_both ?_ road) (by k_qdec)
  iterate 3 (refine look_both ?_ (by first | k_qdec | decide +kernel))
  k_qdec
-- HeadZ0
section
local macro_rules | `(tactic| o_head $_) => `(tactic| assumption)
theorem kMake (_h : PySem.Challenge.rw_pc0140_01.row.Holds) : PySem.Challenge.rw_pc0140_01.row.Holds := by
  k_head
end
def asL : List Addr := [2, 3, 15, 17, 18, 20, 21, 22, 23, 25, 26, 28, 29, 30, 32, 33, 35, 36, 37, 39, 40, 42, 43, 44, 46, 47, 49, 50, 51, 53, 54, 56, 57, 58, 60, 61, 63, 64, 65, 67, 68, 70, 71, 72, 79,
  80, 81, 83, 84, 86, 87, 88, 90, 91, 93, 94, 95, 96, 97, 98, 101, 108, 109, 110, 113, 120, 121, 122, 125, 127, 128, 130, 131, 132, 133, 135, 136, 138, 139, 140, 142, 143, 145, 146,
  147, 149, 150, 152, 153, 154, 156, 157, 159, 160, 161, 163, 164, 166, 167, 168, 170, 171, 173, 174, 175, 177, 178, 180, 181, 182, 184, 185, 187, 188, 189, 191, 192, 194, 195, 196,
  198, 199, 201, 202, 203, 205, 206, 208, 209, 210, 212, 213, 215, 216, 217, 219, 220, 222, 223, 224, 226, 227, 229, 230, 231, 233, 234, 236, 237, 238, 240, 241, 243, 244, 245, 247,
  248, 250, 251, 252, 254, 255, 257, 258, 259, 261, 262, 264, 265, 266, 268, 269, 271, 272, 273, 275, 276, 278, 279, 280, 282, 283, 285, 286, 294, 295, 296, 298, 299, 301, 302, 303,
  305, 306, 308, 309, 310, 311, 312, 313, 314, 317, 319, 320, 322, 323, 324, 327, 328, 336, 337, 339, 340, 342, 343, 344, 345, 347, 348, 350, 351, 352, 354, 355, 357, 358, 359, 361,
  362, 364, 365, 366, 368, 369, 371, 372, 373, 374, 376, 377, 379, 380, 381, 383, 384, 386, 387, 388, 390, 391, 393, 394, 395, 397, 398, 400, 401, 402, 404, 405, 407, 408, 409, 411,
  412, 414, 415, 416, 417, 419, 420, 422, 423, 424, 426, 427, 429, 430, 431, 433, 434, 436, 437, 438, 439, 441, 442, 444, 445, 446, 448, 449, 451, 452, 453, 455, 456, 458, 459, 460,
  462, 463, 465, 466, 467, 469, 470, 472, 473, 474, 476, 477, 479, 480, 481, 483, 484, 486, 487, 488, 490, 491, 493, 494, 495, 496, 497, 498, 499, 502, 504, 505, 507, 508, 509, 512,
  513, 514, 515, 516, 517, 518, 519, 520, 521, 522, 523, 524, 527, 529, 530, 532, 533, 541, 543, 544, 546, 547, 548, 550, 551, 553, 554, 555, 557, 558, 560, 561, 562, 564, 565, 567,
  568, 569, 570, 571, 572, 573, 574, 575, 576, 577, 578, 579, 580, 581, 582, 583, 584, 585, 586, 587, 588, 589, 590, 591, 592, 593, 594, 595, 596, 597, 598, 599, 600, 601, 602, 603,
  604, 605, 606, 607, 608, 609, 610, 611, 613, 614, 616, 617, 618, 620, 621, 623, 624]
theorem as_is (P : Params) : asL = (Mine.kMake.heap_1 P).map (fun p => p.1) := by kernel_rfl

/-- a hook over what stands at written addresses; nothing in it hangs on how V was made -/
def vHook (V : Params → List (Option Obj)) (as : List Addr) : Hook where
  α := List (Option Obj)
  obs := fun s => as.map s.heap.get?
  val := fun w => V w.params
  says := fun w h => ∀ (i : Nat) a o, as[i]? = some a → (V w.params)[i]? = some (some o) → h.get? a = some o
  of := fun w s x i a o ha hv => by
    rw [← x, List.getElem?_map, ha] at hv
    exact Option.some.inj hv
  keeps := fun w h h' x k i a o ha hv => k _ _ (x i a o ha hv)

theorem frag_in {K : Frag} {h : Heap} {as : List Addr} {vs : List (Option Obj)} (e1 : as = K.map (fun p => p.1)) (e2 : vs = K.map fun p => some p.2)
    (Y : ∀ (i : Nat) a o, as[i]? = some a → vs[i]? = some (some o) → h.get? a = some o) : K.In h := by
  refine Frag.in_of (as := as) e1 ?_
  subst e1 e2
  apply List.ext_getElem?
  intro i
  simp only [List.getElem?_map]
  cases hk : K[i]? with
  | none => rfl
  | some p =>
    have := Y i p.1 p.2 (by simp [hk]) (by simp [hk])
    simp [this]
/-- the one long text, and the object that bears it -/
def fixE (x : Str) (e : DictEntry) : DictEntry := if e.key.isStr "RESERVED" then (match e.val with | .str _ t => ⟨e.hash, e.key, .str x t⟩ | _ => e) else e
def fixO (x : Str) (o : Obj) : Obj := match o with
  | ⟨c, d, .dict es n, sl⟩ => ⟨c, d, .dict (es.toList.map (fixE x)).toArray n, sl⟩
  | o => o
def fixP (x : Str) (p : Addr × Obj) : Option Obj := match Nat.beq p.1 3 with | true => some (fixO x p.2) | false => some p.2
def resOf (p : Program) : Str := strOf (p.main.body.getD 48 default)
noncomputable def VV (x : Str) (P : Params) : List (Option Obj) := some (tabObj #[]) :: (Mine.kMake.heap_1 P).map (fixP x)
def as' : List Addr := 232 :: asL
theorem VV_raw (P : Params) : VV (resOf PySem.Challenge.pw_pc0140_01) P = some (tabObj #[]) :: (Mine.kMake.heap_1 P).map fun p => some p.2 := by kernel_rfl
noncomputable abbrev hook (p : Program) : Hook := vHook (VV (resOf p)) as'
theorem says_in {w : World} {h : Heap} (Y : (hook PySem.Challenge.pw_pc0140_01).says w h) : (Mine.kMake.heap_1 w.params).In h ∧ h.get? 232 = some (tabObj #[]) := by
  have Y' : ∀ (i : Nat) a o, as'[i]? = some a → (VV (resOf PySem.Challenge.pw_pc0140_01) w.params)[i]? = some (some o) → h.get? a = some o := Y
  rw [VV_raw] at Y'
  exact ⟨frag_in (as_is _) rfl fun i a o ha hv => Y' (i + 1) a o ha hv, Y' 0 232 _ rfl rfl⟩

/-! the top's run, at once, over a tree -/
noncomputable abbrev zStep := @PySem.W.Fast.tw10156331382660048174
noncomputable abbrev zDenote := @PySem.W.Fast.tw11892475500146522536
noncomputable abbrev zTable := @PySem.W.Fast.tw14364793385576792824
noncomputable abbrev zProg := zp
noncomputable abbrev zOk := @PySem.W.Fast.tw6613529449190102663
noncomputable abbrev zSeen := @PySem.W.Fast.tw4187177175401517315
noncomputable def runZ (stp : SharedT → Thread → Option (SharedT × Thread)) (ok : Thread → Bool) (n : Nat) : SharedT → Thread → Option SharedT :=
  @Nat.rec (fun _ => SharedT → Thread → Option SharedT) (fun _ _ => none)
    (fun _ ih s t => match through t with
      | true => some s
      | false => match ok t with
        | false => none
        | true => match stp s t with
          | some (s', t') => ih s' t'
          | none => none) n
theorem runZ_top {tb : String → Option Builtin} {p : Program} {w : World} {n₀ : Nat} {ann : Option Value} : ∀ (n : Nat) (s : SharedT) (t : Thread) (r : SharedT),
    runZ (stepT (denote tb) p w) (stepOk n₀ ann) n s t = some r → topRun tb p w n₀ ann n s.abs t = some r.abs
  | 0, _, _, _, h => by cases h
  | n + 1, s, t, r, h => by
    have e : runZ (stepT (denote tb) p w) (stepOk n₀ ann) (n + 1) s t = (match through t with
      | true => some s
      | false => match stepOk n₀ ann t with
        | false => none
        | true => match stepT (denote tb) p w s t with
          | some (s', t') => runZ (stepT (denote tb) p w) (stepOk n₀ ann) n s' t'
          | none => none) := rfl
    rw [e] at h
    unfold topRun
    cases ht : through t with
    | true => rw [ht] at h; cases h; rfl
    | false =>
      rw [ht] at h
      cases hk : stepOk n₀ ann t with
      | false => rw [hk] at h; cases h
      | true =>
        rw [hk] at h
        cases hs : stepT (denote tb) p w s t with
        | none => rw [hs] at h; cases h
        | some q => obtain ⟨s₂, t₂⟩ := q; rw [hs] at h; rw [stepT_spec hs]; exact runZ_top n s₂ t₂ r h
noncomputable def T0 (P : Params) : BT := ((((((((((BT.nil.ins 0 (boot_o_0 P)).ins 1 (boot_o_1 P)).ins 2 (boot_o_2 P)).ins 3 (boot_o_3 P)).ins 4 (boot_o_4 P)).ins 5 (boot_o_5 P)).ins 6 (boot_o_6 P)).ins 7 (boot_o_7 P)).ins 8 (boot_o_8 P)).ins 9 (boot_o_9 P)).ins 10 (boot_o_10 P)
noncomputable def S0 (w : World) (os : OsState) : SharedT := ⟨T0 w.params, 11, (boot_heap w.params).life, #[], boot_drawn, boot_toks, os⟩
theorem S0_abs (w : World) (os : OsState) : (S0 w os).abs = ⟨boot_heap w.params, #[], boot_drawn, boot_toks, os⟩ := by kernel_rfl

def qOf (p : Program) : Program := { p with main := { p.main with body := p.main.body.drop 68 } }
def looseOf (p : Program) : List Str := p.boundNames.filter fun n => n != ("law" : Str)
noncomputable def XtOf (p : Program) : Shared → Bool := fun s => xlAt (qOf p) [] s && recOk [] s
/-- what is asked of the end of the top -/
noncomputable def lookZ {β : Type} (seenF : Program → List Str → List Str → (Shared → Bool) → Bool → Shared → β) (p : Program) (w : World) (s : Shared) :=
  (staticsOk (importedModules p.main.body) (boot_heap w.params) s.heap && namesBound p s.heap && gensDone s && laidKept (boot_heap w.params) s.heap,
   seenF (qOf p) (looseOf p) (importedModules p.main.body) (XtOf p) true s, as'.map s.heap.get?)
/-- an object of the tree, read off the tree -/
noncomputable def getZ (s : SharedT) (a : Addr) : Option Obj := match Nat.blt a s.n with
  | true => (match s.tree.get a with
    | some o => alive o
    | none => s.abs.heap.get? a)
  | false => none
theorem getZ_is (s : SharedT) (a : Addr) : getZ s a = s.abs.heap.get? a := by
  unfold getZ
  cases h : Nat.blt a s.n with
  | false => exact (abs_get_none (t := s.tree) (n := s.n) (life := s.life) (fun q => by rw [Nat.blt_eq.mpr q] at h; cases h)).symm
  | true =>
    cases g : s.tree.get a with
    | some o => exact (abs_get (Nat.blt_eq.mp h) g).symm
    | none => rfl
noncomputable def lookT {β : Type} (seenF : Program → List Str → List Str → (Shared → Bool) → Bool → Shared → β) (p : Program) (w : World) (s : SharedT) :=
  (staticsOk (importedModules p.main.body) (boot_heap w.params) s.abs.heap && namesBound p s.abs.heap && gensDone s.abs && laidKept (boot_heap w.params) s.abs.heap,
   seenF (qOf p) (looseOf p) (importedModules p.main.body) (XtOf p) true s.abs, as'.map (getZ s))
theorem lookT_is {β : Type} (seenF : Program → List Str → List Str → (Shared → Bool) → Bool → Shared → β) (p : Program) (w : World) (s : SharedT) : lookT seenF p w s = lookZ seenF p w s.abs := by
  unfold lookT lookZ
  rw [show getZ s = s.abs.heap.get? from funext (getZ_is s)]
noncomputable def goodZ (p : Program) (w : World) := (true, openGood (qOf p) (looseOf p), VV (resOf p) w.params)
-- HeadZ2
theorem endsF (w : World) (os : OsState) : ((runZ (zStep (zDenote zTable) zProg (w.withFollow "special-get-raises" false)) (zOk 11 (some (.ref 6))) 4000 (S0 w os) (topStub zProg)).map fun s => lookT zSeen zProg w s) = some (goodZ zProg w) := by kernel_rfl
theorem endsT (w : World) (os : OsState) : ((runZ (zStep (zDenote zTable) zProg (w.withFollow "special-get-raises" true)) (zOk 11 (some (.ref 6))) 4000 (S0 w os) (topStub zProg)).map fun s => lookT zSeen zProg w s) = some (goodZ zProg w) := by kernel_rfl
-- HeadZ3
theorem zStep_is : zStep (zDenote zTable) = stepT (denote treeTable) := by
  show PySem.W.Fast.tw10156331382660048174 (PySem.W.Fast.tw11892475500146522536 PySem.W.Fast.tw14364793385576792824) = _
  rw [← PySem.W.Fast.te10156331382660048174, ← PySem.W.Fast.te11892475500146522536, ← PySem.W.Fast.te14364793385576792824]
theorem params_follow (w : World) (r : String) (b : Bool) : S0 (w.withFollow r b) = S0 w := rfl
theorem ends_at (w : World) (os : OsState) : ((runZ (stepT (denote treeTable) PySem.Challenge.pw_pc0140_01 w) (stepOk 11 (some (.ref 6))) 4000 (S0 w os) (topStub PySem.Challenge.pw_pc0140_01)).map fun s => lookZ openSeen PySem.Challenge.pw_pc0140_01 w s.abs) = some (goodZ PySem.Challenge.pw_pc0140_01 w) := by
  have hF := fun w os => endsF w os
  have hT := fun w os => endsT w os
  simp only [lookT_is] at hF hT
  rw [zStep_is] at hF hT
  rw [show zOk = @stepOk from PySem.W.Fast.te6613529449190102663.symm, show zSeen = @openSeen from PySem.W.Fast.te4187177175401517315.symm, show zProg = PySem.Challenge.pw_pc0140_01 from zp_is] at hF hT
  have e := World.withFollow_self w "special-get-raises"
  cases hb : w.params.followText "special-get-raises" <;> rw [hb] at e
  · have := hF w os
    rwa [e] at this
  · have := hT w os
    rwa [e] at this
theorem left : LeftO PySem.Challenge.pw_pc0140_01 (qOf PySem.Challenge.pw_pc0140_01) (looseOf PySem.Challenge.pw_pc0140_01) (XtOf PySem.Challenge.pw_pc0140_01) (hook PySem.Challenge.pw_pc0140_01).obs (hook PySem.Challenge.pw_pc0140_01).val 4000 := fun w => by
  have o := boot_open (p := PySem.Challenge.pw_pc0140_01) (N := 4000) (by kernel_rfl) (by decide +kernel) (fun s => by kernel_rfl) w
  obtain ⟨⟨h, gs, d, k, os⟩, e, e'⟩ := Option.map_eq_some_iff.mp o
  obtain ⟨rfl, rfl, rfl, rfl⟩ : h = boot_heap w.params ∧ gs = #[] ∧ d = boot_drawn ∧ k = boot_toks := by simpa using e'
  obtain ⟨sT, r, l⟩ := Option.map_eq_some_iff.mp (ends_at w os)
  have r' := runZ_top _ _ _ _ r
  rw [S0_abs] at r'
  have z1 : ((boot_heap w.params).isNs mainGlobals && (#[] : Array GenState).size == 0) = true := by kernel_rfl
  have z2 : (boot_heap w.params).objs.size = 11 := by kernel_rfl
  have z3 : (boot_heap w.params).nsMap mainGlobals "__annotations__" = some (.ref 6) := by kernel_rfl
  unfold lookZ goodZ at l
  obtain ⟨l1, l2, l3⟩ : _ ∧ _ ∧ _ := by simpa only [Prod.mk.injEq] using l
  have t : topFrom treeTable PySem.Challenge.pw_pc0140_01 w 4000 ⟨boot_heap w.params, #[], boot_drawn, boot_toks, os⟩ = some sT.abs := by
    unfold topFrom
    dsimp only
    rw [z1, z2, z3, r']
    show (match staticsOk (importedModules PySem.Challenge.pw_pc0140_01.main.body) (boot_heap w.params) sT.abs.heap && namesBound PySem.Challenge.pw_pc0140_01 sT.abs.heap && gensDone sT.abs && laidKept (boot_heap w.params) sT.abs.heap with | true => _ | false => _) = _
    rw [l1]
  unfold openEnds
  rw [e]
  show (topFrom treeTable PySem.Challenge.pw_pc0140_01 w 4000 _).map _ = _
  rw [t]
  exact congrArg some (Prod.ext l2 l3)
theorem hd {d : DefRec} {kwd : List (Str × PySem.Expr)} (hdef : defOf (qOf PySem.Challenge.pw_pc0140_01) PySem.Challenge.rw_pc0140_01.row.name = some (d, kwd))
    (hp : PySem.Challenge.rw_pc0140_01.row.prog.theDef PySem.Challenge.rw_pc0140_01.row.name = some (d.params, d.body, d.scope)) (hk : kwWritten? d.params.kwonlyargs d.params.kw_defaults = some kwd)
    (walk : WalkO (qOf PySem.Challenge.pw_pc0140_01) (looseOf PySem.Challenge.pw_pc0140_01) (XL (qOf PySem.Challenge.pw_pc0140_01) []) (hook PySem.Challenge.pw_pc0140_01).says PySem.Challenge.rw_pc0140_01.row.toRowW d kwd fun f vs => PySem.call f vs) : PySem.Challenge.rw_pc0140_01.Holds := by
  w_on
  refine holds_law said fun s => ?_
  refine holds_open (q := qOf PySem.Challenge.pw_pc0140_01) (loose := looseOf PySem.Challenge.pw_pc0140_01) (Xt := XtOf PySem.Challenge.pw_pc0140_01) (XP := XL (qOf PySem.Challenge.pw_pc0140_01) []) (YP := (hook PySem.Challenge.pw_pc0140_01).says) (N := 4000) left
    (hook PySem.Challenge.pw_pc0140_01).of (hook PySem.Challenge.pw_pc0140_01).keeps (fun s e => xl_of s (Bool.and_eq_true_iff.mp e).1) XL.keeps hdef hp hk (fun s e => recFacts_of (Bool.and_eq_true_iff.mp e).2) (by rfl) (by assumption) (by decide +kernel) ⟨rfl, rfl, rfl, rfl, rfl, by decide +kernel⟩ ?hw walk
  w_witness2
-- C0
/-- a token as it lies: its object, its dict, the pair that says its place -/
structure TR where
  a : Addr
  d : Addr
  p : Addr
  k : Str
  w : Str
  i : Int
  t0 : Tok
  t1 : Tok
  t2 : Tok
  t3 : Tok
  t4 : Tok
  t5 : Tok
  t6 : Tok
  t7 : Tok
abbrev TR.es (P : Params) (t : TR) : List DictEntry :=
  [⟨PyData.keyHash P "kind", .str "kind" t.t0, .str t.k t.t1⟩, ⟨PyData.keyHash P "worth", .str "worth" t.t2, .str t.w t.t3⟩, ⟨PyData.keyHash P "at", .str "at" t.t4, .ref t.p⟩, ⟨PyData.keyHash P "is_in_a", .str "is_in_a" t.t5, .bool false⟩]
abbrev TR.pair (t : TR) : Obj := { cls := .type "tuple", data := .seq #[.int 3 t.t6, .int t.i t.t7] }
structure TIn (P : Params) (news : List (Addr × Obj)) (t : TR) : Prop where
  ia : (t.a, instObj 312 t.d) ∈ news
  id : (t.d, dictOf (t.es P) 4) ∈ news
  ip : (t.p, t.pair) ∈ news

/-- the reader's own letters: key tokens, its tokens' list, its table of names -/
structure RR where
  x : Addr
  dx : Addr
  tl : Addr
  nd : Addr
  k0 : Tok
  k1 : Tok
  k2 : Tok
  toks : List TR
  tn : Nat
abbrev RR.D (r : RR) (P : Params) (pos : Int) (ta : Tok) : Obj :=
  dictOf [⟨PyData.keyHash P "tokens", .str "tokens" r.k0, .ref r.tl⟩, ⟨PyData.keyHash P "at", .str "at" r.k1, .int pos ta⟩, ⟨PyData.keyHash P "named", .str "named" r.k2, .ref r.nd⟩] 3
abbrev RR.lst (r : RR) : Obj := W.listOf (r.toks.map fun t => Value.ref t.a).toArray r.tn
/-- the reader lies in the ledger, at a place -/
structure RIn (P : Params) (news : List (Addr × Obj)) (r : RR) (pos : Int) (ta : Tok) : Prop where
  ix : (r.x, instObj 497 r.dx) ∈ news
  id : (r.dx, r.D P pos ta) ∈ news
  il : (r.tl, r.lst) ∈ news
  it : ∀ t ∈ r.toks, TIn P news t
  le : r.toks.length ≤ 64
  lo : 0 ≤ pos
theorem TIn.sub {P : Params} {news news' : List (Addr × Obj)} {t : TR} (h : TIn P news t) (hs : ∀ p ∈ news, p ∈ news') : TIn P news' t := ⟨hs _ h.ia, hs _ h.id, hs _ h.ip⟩
theorem RIn.cons {P : Params} {news : List (Addr × Obj)} {r : RR} {pos : Int} {ta : Tok} {q : Addr × Obj} (h : RIn P news r pos ta) : RIn P (q :: news) r pos ta :=
  ⟨.tail _ h.ix, .tail _ h.id, .tail _ h.il, fun t ht => (h.it t ht).sub fun _ hp => .tail _ hp, h.le, h.lo⟩
theorem upd_mem {d : Addr} {o o' : Obj} : ∀ {news news' : List (Addr × Obj)}, Upd d o o' news news' → (d, o') ∈ news' ∧ (∀ p ∈ news, p = (d, o) ∨ (p.1 ≠ d ∧ p ∈ news'))
  | _, _, .head h => ⟨.head _, fun p hp => by
    rcases List.mem_cons.mp hp with rfl | hp
    · exact .inl rfl
    · exact .inr ⟨h p hp, .tail _ hp⟩⟩
  | _, _, .tail h r => ⟨.tail _ (upd_mem r).1, fun p hp => by
    rcases List.mem_cons.mp hp with rfl | hp
    · exact .inr ⟨h, .head _⟩
    · rcases (upd_mem r).2 p hp with e | ⟨a, b⟩
      · exact .inl e
      · exact .inr ⟨a, .tail _ b⟩⟩
theorem upd_keep {d b : Addr} {o o' ob : Obj} {news news' : List (Addr × Obj)} (U : Upd d o o' news news') (h : (b, ob) ∈ news) (hn : ob ≠ o) : (b, ob) ∈ news' := by
  rcases (upd_mem U).2 _ h with e | ⟨_, h⟩
  · exact absurd (Prod.mk.inj e).2 hn
  · exact h
theorem upd_ne {d b : Addr} {o o' ob : Obj} {news news' : List (Addr × Obj)} (U : Upd d o o' news news') (h : (b, ob) ∈ news) (hn : ob ≠ o) : b ≠ d := by
  rcases (upd_mem U).2 _ h with e | ⟨h, _⟩
  · exact absurd (Prod.mk.inj e).2 hn
  · exact h
theorem RIn.upd {P : Params} {news news' : List (Addr × Obj)} {r : RR} {pos pos' : Int} {ta ta' : Tok} (h : RIn P news r pos ta) (U : Upd r.dx (r.D P pos ta) (r.D P pos' ta') news news') (h0 : 0 ≤ pos') : RIn P news' r pos' ta' :=
  ⟨upd_keep U h.ix (fun e => by have := congrArg Obj.cls e; simp at this), (upd_mem U).1, upd_keep U h.il (fun e => by have := congrArg Obj.cls e; simp at this),
   fun t ht => ⟨upd_keep U (h.it t ht).ia (fun e => by have := congrArg Obj.cls e; simp at this), upd_keep U (h.it t ht).id (fun e => by injection e with _ _ e; injection e with e; injection e with e; injection e with e1 e2; injection e1 with _ e1; injection e1 with e1; exact absurd e1 (by decide)), upd_keep U (h.it t ht).ip (fun e => by have := congrArg Obj.cls e; simp at this)⟩, h.le, h0⟩
/-- a ledger with two holes: the reader's dict (place, token number) and the table 232 of a def's lambdas -/
structure Hole (P : Params) (r : RR) (W : Int → Tok → Obj → List (Addr × Obj)) : Prop where
  upd : ∀ pos ta pos' ta' o, Upd r.dx (r.D P pos ta) (r.D P pos' ta') (W pos ta o) (W pos' ta' o)
  tab : ∀ pos ta o, UpdF 232 o (W pos ta o) (W pos ta)
  rin : ∀ pos ta o, 0 ≤ pos → RIn P (W pos ta o) r pos ta
theorem updF_adr {d : Addr} {o o' : Obj} {news : List (Addr × Obj)} {g : Obj → List (Addr × Obj)} (U : UpdF d o news g) : ∀ q ∈ g o', ∃ q' ∈ news, q'.1 = q.1 := by
  obtain ⟨pre, post, e1, e2, _, _⟩ := U.split
  rw [e1, e2]
  intro q hq
  rcases List.mem_append.mp hq with h | h
  · exact ⟨q, List.mem_append_left _ h, rfl⟩
  · rcases List.mem_cons.mp h with rfl | h
    · exact ⟨(d, o), List.mem_append_right _ (.head _), rfl⟩
    · exact ⟨q, List.mem_append_right _ (.tail _ h), rfl⟩
theorem upd_adr {d : Addr} {o o' : Obj} {news news' : List (Addr × Obj)} (U : Upd d o o' news news') : ∀ q ∈ news', ∃ q' ∈ news, q'.1 = q.1 := by
  obtain ⟨pre, post, e1, e2, _, _⟩ := U.split
  rw [e1, e2]
  intro q hq
  rcases List.mem_append.mp hq with h | h
  · exact ⟨q, List.mem_append_left _ h, rfl⟩
  · rcases List.mem_cons.mp h with rfl | h
    · exact ⟨(d, o), List.mem_append_right _ (.head _), rfl⟩
    · exact ⟨q, List.mem_append_right _ (.tail _ h), rfl⟩
theorem Hole.lt {P : Params} {r : RR} {W : Int → Tok → Obj → List (Addr × Obj)} (H : Hole P r W) {q : Addr} {pos pos' : Int} {ta ta' : Tok} {o o' : Obj} (h : ∀ p ∈ W pos ta o, p.1 < q) : ∀ p ∈ W pos' ta' o', p.1 < q := by
  intro p hp
  obtain ⟨p1, h1, e1⟩ := upd_adr (H.upd pos ta pos' ta' o') p hp
  obtain ⟨p2, h2, e2⟩ := updF_adr (H.tab pos ta o) p1 h1
  rw [← e1, ← e2]; exact h p2 h2
theorem Hole.ne {P : Params} {r : RR} {W : Int → Tok → Obj → List (Addr × Obj)} (H : Hole P r W) {q : Addr} {pos : Int} {ta : Tok} {o : Obj} (h : ∀ p ∈ W pos ta o, p.1 < q) : q ≠ r.dx :=
  Nat.ne_of_gt (h _ (upd_mem (H.upd pos ta pos ta o)).1)
theorem Hole.neT {P : Params} {r : RR} {W : Int → Tok → Obj → List (Addr × Obj)} (H : Hole P r W) {q : Addr} {pos : Int} {ta : Tok} {o : Obj} (h : ∀ p ∈ W pos ta o, p.1 < q) : q ≠ 232 := by
  obtain ⟨pre, post, e1, _, _, _⟩ := (H.tab pos ta o).split
  exact Nat.ne_of_gt (h (232, o) (by rw [e1]; exact List.mem_append_right _ (.head _)))
theorem allLt_all {q : Nat} {l : List (Addr × Obj)} (h : AllLt q l) : ∀ p ∈ l, p.1 < q := by
  induction l with
  | nil => intro p hp; exact absurd hp List.not_mem_nil
  | cons x l ih =>
    have h1 : x.1 < q ∧ AllLt q l := h
    intro p hp
    rcases List.mem_cons.mp hp with rfl | hp
    · exact h1.1
    · exact ih h1.2 p hp
theorem ltTail {q : Addr} {x : Addr × Obj} {l : List (Addr × Obj)} (h : ∀ p ∈ x :: l, p.1 < q) : ∀ p ∈ l, p.1 < q := fun p hp => h p (.tail _ hp)
theorem ne_mem {d b : Addr} {o : Obj} : ∀ {news : List (Addr × Obj)}, AllLt d news → (b, o) ∈ news → d ≠ b
  | q :: r, h, hm => by
    rcases List.mem_cons.mp hm with e | hm
    · have h1 : q.1 < d := h.1
      rw [← e] at h1
      exact Nat.ne_of_gt h1
    · exact ne_mem h.2 hm

theorem ne_mem2 {d b : Addr} {o : Obj} {news : List (Addr × Obj)} (h : ∀ p ∈ news, p.1 < d) (hm : (b, o) ∈ news) : d ≠ b := Nat.ne_of_gt (h _ hm)
local macro_rules | `(tactic| k_intsEnd) => `(tactic| first | assumption | exact Hole.rin (by assumption) _ _ _ (by first | assumption | omega) | (apply RIn.cons; k_intsEnd) | fail "no reader")
local macro_rules | `(tactic| k_mem) => `(tactic| assumption)
local macro_rules | `(tactic| k_ne) => `(tactic| first | exact ne_mem2 (by assumption) (by assumption) | exact ne_mem2 (by assumption) (List.Mem.tail _ (by assumption)) | exact ne_mem2 (by assumption) (List.Mem.tail _ (List.Mem.tail _ (by assumption))) | exact ne_mem (by assumption) (by assumption) | exact Hole.ne (by assumption) (by assumption) | exact Hole.ne (by assumption) (ltTail (by assumption)) | exact Hole.ne (by assumption) (ltTail (ltTail (by assumption))) | exact Hole.ne (by assumption) (allLt_all (by assumption)) | exact Hole.ne (by assumption) (allLt_all (And.right (by assumption))) | exact Hole.neT (by assumption) (by assumption) | exact Hole.neT (by assumption) (ltTail (by assumption)) | exact Hole.neT (by assumption) (ltTail (ltTail (by assumption))))
local macro_rules | `(tactic| k_upd) => `(tactic| ((rename ∀ _, Upd _ _ _ _ _ => hU9); exact hU9 _))
local macro_rules | `(tactic| k_upd) => `(tactic| exact Hole.upd (by assumption) _ _ _ _ _)
local macro_rules | `(tactic| k_updF) => `(tactic| exact Hole.tab (by assumption) _ _ _)
/-- the token that stands k behind the place -/
def tokAt (toks : List TR) (pos k : Int) : Option TR := toks[(pos + k).toNat]?
theorem tokAt_none {toks : List TR} {pos k : Int} (h : ¬ pos + k < (toks.length : Int)) : tokAt toks pos k = none := by
  unfold tokAt; rw [List.getElem?_eq_none]; omega
theorem tokAt_mem {toks : List TR} {pos k : Int} {t : TR} (h : tokAt toks pos k = some t) : t ∈ toks := List.mem_of_getElem? h

section
variable {prog : Program} {w : World} {p : Program} {loose : List Str} {mean : ExcName → Option Value} {mg mb : Str → Option Value}
  {dp un : Nat} {gd : Option (List Code)} {cn : Str} {cs : Scope} {a : Addr} {ccd : Value} {cl : List (Str × Addr)} {outer : List Env} {A₀ : Around} {base h₀ : Heap} {L : Addr} {m : Str → Option Value} {s : Shared} {Q E : Value → Shared → Prop}
  {r : RR} {pos : Int} {ta : Tok} {news : List (Addr × Obj)} {news' : Tok → List (Addr × Obj)} {k : Int} {u : Tok}
theorem tok_len {A : Around} (N : News h₀ L s.heap news) (hm : (r.tl, r.lst) ∈ news) (hle : r.toks.length ≤ 64)
    (h : Q (.int (r.toks.length : Int) (s.toks + 1)) { s with toks := s.toks + 1 + 1 }) : wpAny (model prog w) A (call (.builtin "len") [.ref r.tl]) Q E s := by
  have e : (r.toks.map fun t => Value.ref t.a).toArray.size = r.toks.length := by simp
  refine call_len_list (N.isList hm) (by rw [e]; omega) ?_
  rw [e]; exact h
theorem tok_item {A : Around} {value slice : PySem.Expr} (N : News h₀ L s.heap news) (hm : (r.tl, r.lst) ∈ news) (hle : r.toks.length ≤ 64)
    (h0 : 0 ≤ k) (hi : k < (r.toks.length : Int)) (h : ∀ t, r.toks[k.toNat]? = some t → Q (.ref t.a) s)
    (hs : subscripted slice false (.ref r.tl) (.int k u) = operate [.ref r.tl, .int k u] (getItem (.ref r.tl) (.int k u)) := by with_unfolding_all rfl) :
    wpAny (model prog w) A (subscriptTail value slice (.ref r.tl) (.int k u)) Q E s := by
  have hk : k.toNat < r.toks.length := by omega
  exact tail_any (N.isList hm).typeIs slot_list_getitem.lookup (wpAny_getItem_list (N.isList hm) h0 (by omega) (x := .ref (r.toks[k.toNat]).a) (by simp [hk]) (h _ (List.getElem?_eq_getElem hk))) hs
end
-- C1
section
variable {prog : Program} {w : World} {p : Program} {loose : List Str} {mean : ExcName → Option Value} {mg mb : Str → Option Value}
  {dp un : Nat} {gd : Option (List Code)} {cn : Str} {cs : Scope} {a : Addr} {ccd : Value} {cl : List (Str × Addr)} {outer : List Env} {A₀ : Around} {base h₀ : Heap} {L : Addr} {m : Str → Option Value} {s : Shared} {Q E : Value → Shared → Prop}
  {r : RR} {pos : Int} {ta : Tok} {news : List (Addr × Obj)} {news' : Tok → List (Addr × Obj)} {k : Int} {u : Tok}
variable (B : Below A₀ base outer h₀) (F : Fr h₀ L s.heap m) (X : (Mine.kMake.heap_1 w.params).In h₀) (T : Top p loose mean mg mb h₀) (hk : cs.kind = .function) (N : News h₀ L s.heap news) (R : RIn w.params news r pos ta)
include B F X T hk N R
theorem peek1 (hd : dp + 1 < recursionLimit) (hk0 : 0 ≤ k)
    (hret0 : tokAt r.toks pos k = none → ∀ h' tk', Fr h₀ L h' m → News h₀ L h' news → Q (.none) { s with heap := h', toks := tk' })
    (hret1 : ∀ t, tokAt r.toks pos k = some t → (t.a, instObj 312 t.d) ∈ news → (t.d, dictOf (t.es w.params) 4) ∈ news → (t.p, t.pair) ∈ news → ∀ h' tk', Fr h₀ L h' m → News h₀ L h' news → Q (.ref t.a) { s with heap := h', toks := tk' }) :
    wpAny (model prog w) (ktrTop dp un gd cn cs L a ccd cl outer) (call (.ref 351) [.ref r.x, .int k u]) Q E s := by
  w_top off
  have ⟨ix, id, il, it, le, lo⟩ := R
  refine wpAny_call ?_
  k_dflt (refine' code_def ?zk1 ?zk2 ?zk3 ?zk4 ?zk5 ?zkA ?zkF ?zkK ?zk6 ?zk7 ?zk8 ?zk9 ?zkB ?_ ?zc2 ?zc3 ?zc4 ?zc5; (case zkA => exact rfl); (case zkF => exact rfl); (case zkK => assumption); (case zk1 => k_asm); (case zk2 => k_asm); (case zk3 => k_asm); (case zk4 => k_asm); (case zk5 => k_asm); (case zk6 => k_is); (case zk7 => k_is); (case zk8 => ktr_room); (case zk9 => first | exact BindsTo.of_eq rfl | exact binds_K (by k_in) rfl (by k_is) rfl rfl rfl); (case zc5 => decide); (case zkB => exact locs rfl); (case zc2 => exact rfl); (case zc3 => exact rfl); (case zc4 => exact rfl); k_whole; intro _ _ _ _ _ _ _ _ _; (try dsimp only); (try k_fold))
  repeat' (first | (((with_reducible show wpAny _ _ (call (Value.builtin _) [Value.ref _]) _ _ _); k_dflt (refine' tok_len ?zk1 ?zk2 ?zk3 ?_; (case zk1 => k_asm); (case zk2 => k_mem); (case zk3 => assumption); k_whole))) | (((with_reducible show wpAny _ _ (subscriptTail _ _ (Value.ref _) (Value.int _ _)) _ _ _); k_dflt (refine' tok_item ?zk1 ?zk2 ?zk3 ?zk4 ?zk5 ?_ ?zk6; (case zk1 => k_asm); (case zk2 => k_mem); (case zk3 => assumption); (case zk4 => omega); (case zk5 => (simp only [decide_eq_true_eq] at *; omega)); (case zk6 => with_unfolding_all rfl); k_whole); intro t9ζ ht9ζ)) | (k_unfold; (try dsimp only)) | (k_end; kc_close) | walk1 | (dsimp only; walk1) | (leave1; (try dsimp only)))
  · (rename (tokAt _ _ _ = some _) => ht9)
    have ti := it _ (tokAt_mem ht9)
    exact hret1 _ ht9 ti.ia ti.id ti.ip _ _ (by k_asm) (by k_asm)
  · exact hret0 (tokAt_none (by assumption)) _ _ (by k_asm) (by k_asm)


theorem peek0 (hd : dp + 1 < recursionLimit)
    (hret0 : tokAt r.toks pos 0 = none → ∀ h' tk', Fr h₀ L h' m → News h₀ L h' news → Q (.none) { s with heap := h', toks := tk' })
    (hret1 : ∀ t, tokAt r.toks pos 0 = some t → (t.a, instObj 312 t.d) ∈ news → (t.d, dictOf (t.es w.params) 4) ∈ news → (t.p, t.pair) ∈ news → ∀ h' tk', Fr h₀ L h' m → News h₀ L h' news → Q (.ref t.a) { s with heap := h', toks := tk' }) :
    wpAny (model prog w) (ktrTop dp un gd cn cs L a ccd cl outer) (call (.ref 351) [.ref r.x]) Q E s := by
  w_top off
  have ⟨ix, id, il, it, le, lo⟩ := R
  refine wpAny_call ?_
  k_dflt (refine' code_def ?zk1 ?zk2 ?zk3 ?zk4 ?zk5 ?zkA ?zkF ?zkK ?zk6 ?zk7 ?zk8 ?zk9 ?zkB ?_ ?zc2 ?zc3 ?zc4 ?zc5; (case zkA => exact rfl); (case zkF => exact rfl); (case zkK => assumption); (case zk1 => k_asm); (case zk2 => k_asm); (case zk3 => k_asm); (case zk4 => k_asm); (case zk5 => k_asm); (case zk6 => k_is); (case zk7 => k_is); (case zk8 => ktr_room); (case zk9 => first | exact BindsTo.of_eq rfl | exact binds_K (by k_in) rfl (by k_is) rfl rfl rfl); (case zc5 => decide); (case zkB => exact locs rfl); (case zc2 => exact rfl); (case zc3 => exact rfl); (case zc4 => exact rfl); k_whole; intro _ _ _ _ _ _ _ _ _; (try dsimp only); (try k_fold))
  repeat' (first | (((with_reducible show wpAny _ _ (call (Value.builtin _) [Value.ref _]) _ _ _); k_dflt (refine' tok_len ?zk1 ?zk2 ?zk3 ?_; (case zk1 => k_asm); (case zk2 => k_mem); (case zk3 => assumption); k_whole))) | (((with_reducible show wpAny _ _ (subscriptTail _ _ (Value.ref _) (Value.int _ _)) _ _ _); k_dflt (refine' tok_item ?zk1 ?zk2 ?zk3 ?zk4 ?zk5 ?_ ?zk6; (case zk1 => k_asm); (case zk2 => k_mem); (case zk3 => assumption); (case zk4 => omega); (case zk5 => (simp only [decide_eq_true_eq] at *; omega)); (case zk6 => with_unfolding_all rfl); k_whole); intro t9ζ ht9ζ)) | (k_unfold; (try dsimp only)) | (k_end; kc_close) | walk1 | (dsimp only; walk1) | (leave1; (try dsimp only)))
  · (rename (tokAt _ _ _ = some _) => ht9)
    have ti := it _ (tokAt_mem ht9)
    exact hret1 _ ht9 ti.ia ti.id ti.ip _ _ (by k_asm) (by k_asm)
  · exact hret0 (tokAt_none (by assumption)) _ _ (by k_asm) (by k_asm)


theorem peek0k {t : TR} (hd : dp + 1 < recursionLimit) (ht : tokAt r.toks pos 0 = some t)
    (hret1 : (t.a, instObj 312 t.d) ∈ news → (t.d, dictOf (t.es w.params) 4) ∈ news → (t.p, t.pair) ∈ news → ∀ h' tk', Fr h₀ L h' m → News h₀ L h' news → Q (.ref t.a) { s with heap := h', toks := tk' }) :
    wpAny (model prog w) (ktrTop dp un gd cn cs L a ccd cl outer) (call (.ref 351) [.ref r.x]) Q E s :=
  peek0 B F X T hk N R hd (fun h => by rw [h] at ht; cases ht) (fun t' h => by cases ht.symm.trans h; exact hret1)
theorem peek1k {t : TR} (hd : dp + 1 < recursionLimit) (hk0 : 0 ≤ k) (ht : tokAt r.toks pos k = some t)
    (hret1 : (t.a, instObj 312 t.d) ∈ news → (t.d, dictOf (t.es w.params) 4) ∈ news → (t.p, t.pair) ∈ news → ∀ h' tk', Fr h₀ L h' m → News h₀ L h' news → Q (.ref t.a) { s with heap := h', toks := tk' }) :
    wpAny (model prog w) (ktrTop dp un gd cn cs L a ccd cl outer) (call (.ref 351) [.ref r.x, .int k u]) Q E s :=
  peek1 B F X T hk N R hd hk0 (fun h => by rw [h] at ht; cases ht) (fun t' h => by cases ht.symm.trans h; exact hret1)

end
-- X1
abbrev bm122 : List Value := [.ref 97, .type "Exception", .type "BaseException", .type "object"]
theorem cls122 {P : Params} {h : Heap} (X : (Mine.kMake.heap_1 P).In h) : ∃ nm q bs hdct sn sub ab col dd k0 k1 k2 k3 k5, h.get? 122 = some (excClassObj nm q 122 121 bs bm122 hdct sn sub ab col dd k0 k1 k2 k3 k5 "Exception.__new__") :=
  ⟨_, _, _, _, _, _, _, _, _, _, _, _, _, _, X _ _ rfl⟩
abbrev excNew (t : Addr) : Obj := { cls := .ref 122, data := .fields #[.ref t, .none, .none, .none, .bool false, .none] }
abbrev tupObj (vs : List Value) : Obj := { cls := .type "tuple", data := .seq vs.toArray }
section
variable {prog : Program} {w : World} {A : Around} {R : Result → Shared → Prop} {h : Heap} {g : Array GenState} {d : Drawn} {t : Nat} {os : OsState}
variable {nm q : Str} {bs : List Value} {hdct : Bool} {sn : List Str} {sub : List Value} {ab : Bool} {col : Option Bool} {dd : Option Addr} {k0 k1 k2 k3 k5 : Option Value}
theorem check122 {M : Model} {E : Value → Shared → Prop} {rest : List Value} {Q : Unit → Shared → Prop} (hC : h.get? 122 = some (excClassObj nm q 122 121 bs bm122 hdct sn sub ab col dd k0 k1 k2 k3 k5 "Exception.__new__")) (hq : Q () ⟨h, g, d, t, os⟩) :
    wpAny M A (checkBuiltinCall "Exception.__new__" ⟨.ref 122 :: rest, []⟩) Q E ⟨h, g, d, t, os⟩ := by
  have Fn := PySem.F.excBase_Exception
  have hcont : (Value.ref 122 :: bm122).contains (.type "Exception") = true := by decide +kernel
  have hstar := Fn.noStar
  simp only [checkBuiltinCall, Fn.newKind, Fn.newSplit, Fn.newRow]
  repeat (first | refine wpAny_loadPart_at hC ?_ | (refine wpAny_isSubtype_exc hC ?_; rw [hcont]) | refine wpAny_staticBase_exc hC ?_ | refine wpAny_madeBy_exc hC ?_ | simp only [bne_self_eq_false, Bool.false_eq_true, if_false] | wp_step)
  exact hq
theorem new122 {rest : List Value} (hC : h.get? 122 = some (excClassObj nm q 122 121 bs bm122 hdct sn sub ab col dd k0 k1 k2 k3 k5 "Exception.__new__"))
    (hq : R (.ok (.ret (.ref (h.objs.size + 1)))) ⟨(h.push (tupObj rest)).push (excNew h.objs.size), g, d, t, os⟩) (hrest : rest.length ≤ sizeLine) :
    codeAny (model prog w) A (.builtin "Exception.__new__" ⟨.ref 122 :: rest, []⟩) R ⟨h, g, d, t, os⟩ := by
  have Fn := PySem.F.excBase_Exception
  have hends := Fn.ends
  have hcB : (Value.ref 122 :: bm122).contains (.type "Exception") = true := by decide +kernel
  have hcA : (Value.ref 122 :: bm122).contains (.type "AttributeError") = false := by decide +kernel
  have hcN : (Value.ref 122 :: bm122).contains (.type "NameError") = false := by decide +kernel
  refine codeAny_builtinAt Fn.entry ?_
  unfold Builtin.«BaseException.__new__»
  refine PySem.wpAt_bind ?_
  show PySem.wpAt _ _ _ (stack >>= _) _ _ _
  refine PySem.wpAt_bind (PySem.wpAt_stack fun p below => PySem.wpAt_of_wpAny ?_)
  wp_walk
  refine PySem.wpAt_of_wpAny ?_
  rw [Fn.owner]
  repeat (first | with_reducible refine wpAny_madeHere_exc Fn.canon hC ?_ | with_reducible refine wpAny_loadPart_at hC ?_ | (with_reducible refine wpAny_isSubtype_exc hC ?_; first | rw [hcB] | rw [hcA] | rw [hcN]) | wp_step)
  show R _ _
  rw [Heap.size_push]
  exact hq
end
section
variable {prog : Program} {w : World} {A : Around} {s : Shared} {h₀ : Heap} {L : Addr} {m : Str → Option Value} {news : List (Addr × Obj)} {R : Result → Shared → Prop}
theorem exc_make {rest : List Value} (F : Fr h₀ L s.heap m) (N : News h₀ L s.heap news) (X : (Mine.kMake.heap_1 w.params).In s.heap) (hrest : rest.length ≤ sizeLine)
    (h : ∀ e t h', Fr h₀ L h' m → News h₀ L h' ((e, excNew t) :: (t, tupObj rest) :: news) → (∀ p ∈ news, p.1 < t) → t < e →
      codeAny (model prog w) (A.under (.builtin "type.__call__" ⟨.ref 122 :: rest, []⟩)) (.call (.ref 87) ⟨.ref e :: rest, []⟩) (InitBack e R) { s with heap := h' }) :
    codeAny (model prog w) A (.call (.ref 122) ⟨rest, []⟩) R s := by
  obtain ⟨hh, g, d, t, os⟩ := s
  obtain ⟨nm, q, bs, hdct, sn, sub, ab, col, dd, k0, k1, k2, k3, k5, hC⟩ := cls122 X
  have N' := (N.push F (tupObj rest)).push (F.push _) (excNew hh.objs.size)
  rw [Heap.size_push] at N'
  have z := h _ hh.objs.size _ ((F.push _).push _) N' (fun p hp => Heap.lt_size (N p hp).1) (Nat.lt_succ_self _)
  have Fn := PySem.F.excBase_Exception
  have f1 := tc_lookup
  have f2 := tc_bind (.ref 122)
  have hT : (⟨hh, g, d, t, os⟩ : Shared).TypeIs (.ref 122) "type" := ⟨_, hC, rfl⟩
  refine codeAny_of_tree ?_
  show wpAny _ _ (callAny (.ref 122) _) _ _ _
  repeat (any_goals (first | assumption | with_reducible refine wpAny_loadPart_at hC ?_ | wp_step))
  refine ⟨rfl, ?_⟩
  refine codeAny_call_builtin_at (Code.quiet_builtin _ (by decide +kernel)) entry_typeCall (wpAny_check_type_call_sub hC ?_)
  repeat (first | with_reducible refine wpAny_loadPart_at hC ?_ | with_reducible refine wpAny_madeBy_exc hC ?_ | wp_step)
  refine codeAny_call_builtin_code (Code.quiet_builtin _ Fn.quiet) (check122 hC ?_)
  refine new122 hC ?_ hrest
  have k : ∀ b o, hh.get? b = some o → ((hh.push (tupObj rest)).push (excNew hh.objs.size)).get? b = some o := fun b o e => Heap.get?_push_of_some _ (Heap.get?_push_of_some _ e)
  have hC₁ := k _ _ hC
  have hget : ((hh.push (tupObj rest)).push (excNew hh.objs.size)).get? (hh.objs.size + 1) = some (excNew hh.objs.size) := by heap_get
  have t1 : Looks (model prog w) ((hh.push (tupObj rest)).push (excNew hh.objs.size)) (typeOf (.ref (hh.objs.size + 1))) (.ref 122) := (Looks.ld hget).andThen .now
  have X' : (Mine.kMake.heap_1 w.params).In ((hh.push (tupObj rest)).push (excNew hh.objs.size)) := fun a o e => k _ _ (X a o e)
  have s1 : Looks (model prog w) ((hh.push (tupObj rest)).push (excNew hh.objs.size)) (isSubtype (.ref 122) (.ref 122)) true := looks_mroIn X' (by rfl)
  have i1 : Looks (model prog w) ((hh.push (tupObj rest)).push (excNew hh.objs.size)) (typeLookup (.ref 122) "__init__") (some (.ref 87)) := looks_findIn X' (by kernel_rfl)
  have b1 : Looks (model prog w) ((hh.push (tupObj rest)).push (excNew hh.objs.size)) (bindSpecial (.ref 87) (.ref (hh.objs.size + 1))) (.ref 87, [.ref (hh.objs.size + 1)]) := bind_fn X' _ (by rfl)
  unfold isInstance callSpecial? specialOf
  show wpAny _ _ _ _ _ ⟨(hh.push (tupObj rest)).push (excNew hh.objs.size), g, d, t, os⟩
  repeat (first | with_reducible refine wpAny_call ?_ | lk)
  refine codeAny_mono z fun r s' z => ?_
  rcases r with e | (v | _ | _ | _) <;> first | exact z | exact z.elim | skip
  obtain ⟨rfl, z⟩ := z
  exact wpAny_pure (wpAny_pure z)
end
-- X2
section
open Builtin Builtin.ObjectAttr
noncomputable abbrev K1 (P : Params) : Frag := Mine.kMake.heap_1 P
theorem meta_Exception : typeOf (.type "Exception") = pure (.type "type") := by kernel_rfl
theorem stub_Exception : opaqueClassAbove (.type "Exception") = pure none := by kernel_rfl
section
variable {prog : Program} {w : World} {A : Around} {E : Value → Shared → Prop} {s : Shared} {h₀ : Heap} {L : Addr} {m : Str → Option Value} {news : List (Addr × Obj)}
theorem attr_init {expr : Bool} {Q : Value → Shared → Prop} (X : (K1 w.params).In s.heap) (h : Q (.builtin "Exception.__init__") { s with toks := s.toks + 1 }) :
    wpAny (model prog w) A (getAttr (.type "Exception") "__init__" expr) Q E s := by
  have L0 : Looks (model prog w) s.heap (typeOf (.type "Exception")) (.type "type") := Looks.of_pure meta_Exception
  have LO : Looks (model prog w) s.heap (opaqueClassAbove (.type "Exception")) none := Looks.of_pure stub_Exception
  have hg : findIn (K1 w.params) (.type "type") "__getattribute__" = some (some (.builtin "type.__getattribute__")) := type_tga
  refine cls_open (r := .val (.builtin "Exception.__init__")) X LO L0 hg (looks_hook X (r := none) (by rfl)) (by show subIn (K1 w.params) _ _ = _; rfl) (by kernel_rfl) ?_
  exact wpAny_pure (handed_on rfl h)
theorem method_init {pl : Sem Bool} {Q : Value × List Value → Shared → Prop} (X : (K1 w.params).In s.heap) (h : Q (.builtin "Exception.__init__", []) { s with toks := s.toks + 1 }) :
    wpAny (model prog w) A (getMethod (.type "Exception") "__init__" pl) Q E s := by
  have hg : typeLookup (.type "type") "__getattribute__" = pure (some (.builtin "type.__getattribute__")) := by rw [typeLookup_type, builtinLookup_eq_fast]; kernel_rfl
  unfold getMethod specialOf
  rw [meta_Exception]
  refine wpAny_bind (wpAny_bind (wpAny_pure ?_))
  rw [hg]
  refine wpAny_pure ?_
  dsimp only
  rw [if_pos canon_tga]
  exact wpAny_bind (wpAny_mono (attr_init X h) (fun _ _ z => wpAny_pure z) fun _ _ z => z)

theorem exc_init {e t : Addr} {v : Value} {Q : Value → Shared → Prop} (F : Fr h₀ L s.heap m) (N : News h₀ L s.heap ((e, excNew t) :: news)) (X : (K1 w.params).In s.heap) (hne : ∀ p ∈ news, p.1 ≠ e)
    (h : ∀ t1 h', Fr h₀ L h' m → News h₀ L h' ((t1, tupObj [v]) :: (e, excNew t1) :: news) → (∀ p ∈ (e, excNew t1) :: news, p.1 < t1) → Q .none { s with heap := h' }) :
    wpAny (model prog w) A (call (.builtin "Exception.__init__") [.ref e, v]) Q E s := by
  obtain ⟨hh, g, d, tk, os⟩ := s
  have Fn := PySem.F.excBase_Exception
  obtain ⟨nm, q, bs, hdct, sn, sub, ab, col, dd, k0, k1, k2, k3, k5, hC⟩ := cls122 X
  have he : hh.get? e = some (excNew t) := (N _ (.head _)).1
  have hcont : (Value.ref 122 :: bm122).contains (.type "Exception") = true := by decide +kernel
  have hstar := Fn.noStar
  have N1 := N.push F (tupObj [v])
  have F1 := F.push (tupObj [v])
  have hl : ∀ p ∈ (e, excNew t) :: news, p.1 < hh.objs.size := fun p hp => Heap.lt_size (N p hp).1
  have he1 := (N1 (e, excNew t) (.tail _ (.head _))).1
  obtain ⟨F2, N2⟩ := news_upd (pre := [(hh.objs.size, tupObj [v])]) (post := news) (f := Obj.mapFields (·.setIfInBounds 0 (Value.ref hh.objs.size))) (o' := excNew hh.objs.size) F1 N1
    (fun p hp => by rw [List.mem_singleton.mp hp]; exact Nat.ne_of_gt (hl _ (.head _))) hne rfl rfl
  have z := h hh.objs.size _ F2 N2 (fun p hp => by
    rcases List.mem_cons.mp hp with rfl | hp
    · exact hl (e, excNew t) (.head _)
    · exact hl p (.tail _ hp))
  refine wpAny_call (codeAny_call_builtin Fn.init.plain Fn.initEntry ?_)
  refine (show wpAny _ _ (checkBuiltinCall "Exception.__init__" ⟨.ref e :: [v], []⟩) _ _ _ from ?_)
  simp only [checkBuiltinCall, Fn.initKind, Fn.initSplit, Fn.initRow]
  repeat (first | (with_reducible refine wpAny_loadPart_at he ?_) | with_reducible refine wpAny_loadPart_at hC ?_ | (with_reducible refine wpAny_isSubtype_exc hC ?_; rw [hcont]) | wp_step)
  exact z
end
end
-- X3
section
open Builtin Builtin.ObjectAttr
abbrev excD (t d : Addr) : Obj := { cls := .ref 122, dict := some d, data := .fields #[.ref t, .none, .none, .none, .bool false, .none] }
theorem refuse122 (self : Value) : refuseLoop self "__setattr__" (.ref 122 :: bm122) = pure () := by
  rw [refuseLoop_ref, refuseLoop_ref]
  kernel_rfl
section
variable {prog : Program} {w : World} {A : Around} {E : Value → Shared → Prop} {s : Shared} {h₀ : Heap} {L : Addr} {m : Str → Option Value} {news : List (Addr × Obj)} {R : Result → Shared → Prop} {e : Addr}
theorem osa_exc {ox : Obj} {od : Option Obj} {name : Str} {tk : Tok} {v : Value} (X : (K1 w.params).In s.heap) (I : InstAt s.heap e ox 122 od) (ht : findIn (K1 w.params) (.ref 122) name = some none)
    (h : wpAny (model prog w) A.in1 (storeInOwnDict (.ref e) (.ref 122) (.str name tk) name v false)
      (fun fin s' => match fin with | .done f => R (.ok f) s' | .again c' => c'.quiet = true ∧ codeAny (model prog w) A c' R s') (fun e s' => R (.error e) s') s) :
    codeAny (model prog w) A (.call (.builtin "object.__setattr__") ⟨[.ref e, .str name tk, v], []⟩) R s := by
  have SF := PySem.F.store_object
  obtain ⟨nm, q, bs, hdct, sn, sub, ab, col, dd, k0, k1, k2, k3, k5, hC⟩ := cls122 X
  have sub : Looks (model prog w) s.heap (isInstance (.ref e) (.type "object")) true := I.type.andThen (looks_mroIn X (by kernel_rfl))
  refine codeAny_call_builtin SF.slot.plain SF.entry (@check_slot (model prog w) _ _ s "object.__setattr__" "object" "__setattr__" (.ref e) [.str name tk, v] [] _ SF.kind SF.split sub (SF.args (.ref e) (.str name tk) v) ?_)
  rw [osa_eq, refuse_eq]
  have hm : Looks (model prog w) s.heap (mroOf (.ref 122)) (.ref 122 :: bm122) := (looks_clsIn (K := K1 w.params) X rfl).andThen .now
  refine wpAny_bind (wpAny_bind (I.type.here (wpAny_bind (hm.here ?_))))
  rw [refuse122]
  exact wpAny_pure (wpAny_bind (I.type.here (wpAny_bind ((looks_findIn X ht).here (wpAny_bind (wpAny_pure h))))))
theorem set_exc0 {t1 : Addr} {name : Str} {v : Value} {Q : Unit → Shared → Prop} {pre post : List (Addr × Obj)} (F : Fr h₀ L s.heap m) (N : News h₀ L s.heap (pre ++ (e, excNew t1) :: post)) (X : (K1 w.params).In s.heap) (ht : findIn (K1 w.params) (.ref 122) name = some none)
    (h1 : ∀ p ∈ pre, p.1 ≠ e) (h2 : ∀ p ∈ post, p.1 ≠ e)
    (h : ∀ d tk h', Fr h₀ L h' m → News h₀ L h' ((d, dictOf [⟨PyData.keyHash w.params name, .str name tk, v⟩] 1) :: (pre ++ (e, excD t1 d) :: post)) → (∀ p ∈ pre ++ (e, excD t1 d) :: post, p.1 < d) → Q () { s with heap := h', toks := s.toks + 1 + 1 }) :
    wpAny (model prog w) A (setAttr (.ref e) name v) Q E s := by
  have he := (N (e, excNew t1) (by simp)).1
  have I : InstAt s.heap e (excNew t1) 122 none := ⟨he, rfl, rfl, trivial⟩
  refine set_plain X I (by kernel_rfl) ?_
  obtain ⟨hh, g, dr, tk, os⟩ := s
  refine osa_exc (s := ⟨hh, g, dr, tk + 1, os⟩) X I ht ?_
  have hl : ∀ p ∈ pre ++ (e, excNew t1) :: post, p.1 < hh.objs.size := fun p hp => Heap.lt_size (N p hp).1
  have N1 := N.push F emptyDict
  have F1 := F.push emptyDict
  obtain ⟨F2, N2⟩ := news_upd (pre := (hh.objs.size, emptyDict) :: pre) (post := post) (f := fun o => { o with dict := some hh.objs.size }) (o' := excD t1 hh.objs.size) F1 N1
    (fun p hp => by
      rcases List.mem_cons.mp hp with rfl | hp
      · exact Nat.ne_of_gt (hl (e, excNew t1) (by simp))
      · exact h1 p hp) h2 rfl rfl
  have hl' : ∀ p ∈ pre ++ (e, excD t1 hh.objs.size) :: post, p.1 < hh.objs.size := fun p hp => by
    rcases List.mem_append.mp hp with hp | hp
    · exact hl p (List.mem_append_left _ hp)
    · rcases List.mem_cons.mp hp with rfl | hp
      · exact hl (e, excNew t1) (by simp)
      · exact hl p (List.mem_append_right _ (.tail _ hp))
  obtain ⟨F3, N3⟩ := news_upd (pre := []) (d := hh.objs.size) (o := emptyDict) (post := pre ++ (e, excD t1 hh.objs.size) :: post) (f := Obj.putName name (PyData.keyHash w.params name) (.str name (tk + 1)) v)
    (o' := dictOf [⟨PyData.keyHash w.params name, .str name (tk + 1), v⟩] 1) F2 N2 (fun p hp => nomatch hp) (fun p hp => Nat.ne_of_lt (hl' p hp)) (by rfl) rfl
  have z := h _ _ _ F3 N3 hl'
  have he1 := (N1 (e, excNew t1) (by simp)).1
  have hc : clsIn (K1 w.params) 122 = some _ := rfl
  have L1 := looks_clsIn (M := model prog w) X hc
  have hd2 := (N2 (hh.objs.size, emptyDict) (.head _)).1
  have hd3 := (N3 (hh.objs.size, _) (.head _)).1
  unfold storeInOwnDict ownDictForStores instanceDict
  refine wpAny_bind (wpAny_pure ?_)
  repeat lk
  refine wpAny_update (o := excNew t1) he1 ?_
  refine wpAny_pure (a := some hh.objs.size) ?_
  show wpAny _ _ (storeInDict hh.objs.size (.str name tk) name v) _ _ _
  refine wpAny_bind (wpAny_pure (wpAny_bind ?_))
  unfold nsSet
  refine wpAny_bind (wpAny_bind (wpAny_askSetting (wpAny_pure (wpAny_bind (wpAny_mkText (wpAny_bind (wpAny_loadPart hd2 ?_)))))))
  dsimp only
  have c0 : aRefKeyMayBeTheName name (#[] : Array DictEntry) = false := by rw [aRefKeyMayBeTheName_at]; simp
  rw [c0, if_neg (by decide)]
  refine wpAny_updatePart hd2 ?_
  refine wpAny_bind (wpAny_lookBehind hd3 (pastItsLine_dict (by rw [sizeLine_eq]; show (1 : Nat) ≤ _; decide)) ?_)
  exact wpAny_pure z
theorem set_exc1 {t1 d : Addr} {name : Str} {v : Value} {Q : Unit → Shared → Prop} {pre post : List (Addr × Obj)} {e0 : DictEntry} (F : Fr h₀ L s.heap m) (N : News h₀ L s.heap (pre ++ (d, dictOf [e0] 1) :: post)) (X : (K1 w.params).In s.heap) (hin : (e, excD t1 d) ∈ post) (ht : findIn (K1 w.params) (.ref 122) name = some none)
    (h1 : ∀ p ∈ pre, p.1 ≠ d) (h2 : ∀ p ∈ post, p.1 ≠ d) (hk : e0.key.isStr name = false) (hr : e0.refKey = false)
    (h : ∀ tk h', Fr h₀ L h' m → News h₀ L h' (pre ++ (d, dictOf [e0, ⟨PyData.keyHash w.params name, .str name tk, v⟩] 2) :: post) → Q () { s with heap := h', toks := s.toks + 1 + 1 }) :
    wpAny (model prog w) A (setAttr (.ref e) name v) Q E s := by
  have he := (N (e, excD t1 d) (by simp [hin])).1
  have hd := (N (d, dictOf [e0] 1) (by simp)).1
  have I : InstAt s.heap e (excD t1 d) 122 (some (dictOf [e0] 1)) := ⟨he, rfl, rfl, hd⟩
  refine set_plain X I (by kernel_rfl) ?_
  obtain ⟨hh, g, dr, tk, os⟩ := s
  refine osa_exc (s := ⟨hh, g, dr, tk + 1, os⟩) X I ht ?_
  have ep : Obj.putName name (PyData.keyHash w.params name) (.str name (tk + 1)) v (dictOf [e0] 1) = dictOf [e0, ⟨PyData.keyHash w.params name, .str name (tk + 1), v⟩] 2 := by
    rw [putName_eq]
    simp [PySem.putIn, hk, dictOf]
  obtain ⟨F3, N3⟩ := news_upd (pre := pre) (d := d) (o := dictOf [e0] 1) (post := post) (f := Obj.putName name (PyData.keyHash w.params name) (.str name (tk + 1)) v)
    (o' := dictOf [e0, ⟨PyData.keyHash w.params name, .str name (tk + 1), v⟩] 2) F N h1 h2 ep rfl
  have z := h _ _ F3 N3
  have hc : clsIn (K1 w.params) 122 = some _ := rfl
  have L1 := looks_clsIn (M := model prog w) X hc
  have hd3 := (N3 (d, dictOf [e0, ⟨PyData.keyHash w.params name, .str name (tk + 1), v⟩] 2) (by simp)).1
  unfold storeInOwnDict ownDictForStores instanceDict
  refine wpAny_bind (wpAny_pure ?_)
  refine wpAny_bind (wpAny_bind (wpAny_loadPart he ?_))
  refine wpAny_bind (L1.at ?_)
  refine wpAny_pure (a := some d) ?_
  show wpAny _ _ (storeInDict d (.str name tk) name v) _ _ _
  refine wpAny_bind (wpAny_pure (wpAny_bind ?_))
  unfold nsSet
  refine wpAny_bind (wpAny_bind (wpAny_askSetting (wpAny_pure (wpAny_bind (wpAny_mkText (wpAny_bind (wpAny_loadPart hd ?_)))))))
  dsimp only
  have c0 : aRefKeyMayBeTheName name ([e0] : List DictEntry).toArray = false := by rw [aRefKeyMayBeTheName_at]; simp [hr]
  rw [c0, if_neg (by decide)]
  refine wpAny_updatePart hd ?_
  refine wpAny_bind (wpAny_lookBehind hd3 (pastItsLine_dict (by rw [sizeLine_eq]; show (2 : Nat) ≤ _; decide)) ?_)
  exact wpAny_pure z
end
end
-- Y1
/-- the own exception in flight: its class, its table of fields d, a traceback whose flight mark is fl -/
def TrD (h base : Heap) (e d : Addr) (fl : Value) : Prop :=
  ∃ oe vs T oT ts, h.get? e = some oe ∧ oe.cls = .ref 122 ∧ oe.dict = some d ∧ oe.data = .fields vs ∧ vs[1]? = some (.ref T) ∧ base.get? T = none ∧ T ≠ e ∧ h.get? T = some oT ∧ oT.data = .fields ts ∧ ts[3]? = some fl
def NotedD (base : Heap) (l : List Env) (e d : Addr) (fl : Value) (h h' : Heap) : Prop :=
  base.StaysIn h' ∧ h'.FunFrames base l ∧ TrD h' base e d fl ∧ h.UpToSlots h'
def FlyD (base : Heap) (l : List Env) (e d : Addr) (fl : Value) (h : Heap) : Prop :=
  base.StaysIn h ∧ base.get? e = none ∧ h.FunFrames base l ∧ TrD h base e d fl
theorem TrD.there {h base : Heap} {e d : Addr} {fl : Value} (x : TrD h base e d fl) : ∃ ob, h.get? e = some ob ∧ ob.cls = .ref 122 := by
  obtain ⟨oe, _, _, _, _, he, hc, _⟩ := x
  exact ⟨oe, he, hc⟩
section
variable {M : Model} {A : Around} {E : Value → Shared → Prop} {s : Shared} {base : Heap} {env : Env} {outer : List Env} {L e d : Addr} {Q : Unit → Shared → Prop}
theorem entryD {oe : Obj} {vs : Array Value} {head : Value} {hadNext : Bool}
    (hfr : A.frames = some (env :: outer)) (hl : s.heap.FunFrames base (env :: outer)) (hf : env.frame = some L) (hkb : base.StaysIn s.heap) (hen : base.get? e = none)
    (he : s.heap.get? e = some oe) (hc : oe.cls = .ref 122) (hdd : oe.dict = some d) (hd : oe.data = .fields vs) (hsz : 1 < vs.size)
    (h : ∀ h', NotedD base (env :: outer) e d (rawInt L) s.heap h' → Q () { s with heap := h' }) :
    wpAny M A (do let a ← frameOf env; let pl ← entryPlaceOf L hadNext; let b ← EntryCells.newEntry head a .none (rawInt L) .none pl; setField (.ref e) 1 b) Q E s := by
  have off : e ∉ (env :: outer).filterMap (·.frame) := fun hm => by
    obtain ⟨_, o, ho, hnf⟩ := hl.mem hm
    rw [he] at ho
    cases ho
    exact hnf vs hd
  refine wpAny_bind (wpAny_frameOf_fun hfr hl hf fun g hg => wpAny_bind (wpAny_entryPlaceOf fun pl hpl => ?_))
  obtain ⟨T, hT⟩ : ∃ T, g.objs.size = T := ⟨_, rfl⟩
  have eg : g.get? e = some oe := (hg.2.1 e off).trans he
  have bg : base.StaysIn g := fun b o hb => (hg.2.1 b fun hm => by rw [(hl.mem hm).1] at hb; cases hb).trans (hkb b o hb)
  have Te : T ≠ e := by rw [← hT]; exact Nat.ne_of_gt (Heap.lt_size eg)
  unfold EntryCells.newEntry newFields
  refine wpAny_bind (wpAny_newObj_type ?_ (hpl.sizeOk5 _ _ _ _ _))
  generalize hcell : ([head, Value.ref L, Value.none, rawInt L, Value.none] ++ (if pl.isEmpty then List.replicate 6 Value.none else pl)).toArray = cells
  have h3 : cells[3]? = some (rawInt L) := by
    rw [← hcell]
    first | (simp; done) | (rcases hpl with rfl | ⟨_, _, _, _, _, _, _, rfl⟩ <;> simp)
  have e2 : (g.push { cls := .type "traceback", dict := none, data := .fields cells }).get? e = some oe := Heap.get?_push_of_some _ eg
  have T2 : (g.push { cls := .type "traceback", dict := none, data := .fields cells }).get? T = some { cls := .type "traceback", dict := none, data := .fields cells } := by
    rw [← hT]; exact Heap.get?_push_size g rfl
  refine wpAny_setField e2 hd hsz (h _ ?_)
  rw [hT]
  have kept : ∀ b o, b ≠ e → g.get? b = some o → ((g.push { cls := .type "traceback", dict := none, data := .fields cells }).update e (Obj.mapFields (·.setIfInBounds 1 (Value.ref T)))).get? b = some o := fun b o hbe hb => by
    rw [Heap.get?_update_other _ _ (Ne.symm hbe)]
    exact Heap.get?_push_of_some _ hb
  have notE : ∀ b o, s.heap.get? b = some o → (∀ vs, o.data ≠ .fields vs) → b ≠ e := fun b o hb hn q => by
    rw [q, he] at hb
    cases hb
    exact hn vs hd
  have d3 := Obj.data_mapFields hd (·.setIfInBounds 1 (Value.ref T))
  have e3 := Heap.get?_update_self (Obj.mapFields (·.setIfInBounds 1 (Value.ref T))) e2 (Obj.isFreed_of_fields d3)
  refine ⟨fun b o hb => kept b o (fun q => by rw [q, hen] at hb; cases hb) (bg b o hb), hl.of_keeps fun b o hb hn => ?_, ?_, fun b o hb hn => ?_⟩
  · obtain ⟨sl, hs⟩ := hg.2.2 b o hb
    exact ⟨_, kept b _ (notE b o hb hn) hs, rfl⟩
  · refine ⟨_, _, T, _, _, e3, ?_, ?_, d3, by simp [hsz], ?_, Te, (Heap.get?_update_other _ _ (Ne.symm Te)).trans T2, rfl, h3⟩
    · rw [Obj.cls_mapFields]; exact hc
    · obtain ⟨oc, od, oda, osl⟩ := oe
      dsimp only at hd hdd
      subst hd hdd
      rfl
    · rw [← hT]; exact bg.fresh
  · obtain ⟨sl, hs⟩ := hg.2.2 b o hb
    exact ⟨sl, kept b _ (notE b o hb hn) hs⟩
theorem note_firstD {oe : Obj} {vs : Array Value}
    (hfr : A.frames = some (env :: outer)) (hl : s.heap.FunFrames base (env :: outer)) (hf : env.frame = some L) (hkb : base.StaysIn s.heap) (hen : base.get? e = none)
    (he : s.heap.get? e = some oe) (hc : oe.cls = .ref 122) (hdd : oe.dict = some d) (hd : oe.data = .fields vs) (h1 : vs[1]? = some .none)
    (h : ∀ h', NotedD base (env :: outer) e d (rawInt L) s.heap h' → Q () { s with heap := h' }) : wpAny M A (noteFrame (.ref e) env) Q E s := by
  unfold noteFrame
  simp only [hf]
  refine wpAny_bind (wpAny_field he hd h1 ?_)
  rw [if_neg (by decide)]
  exact entryD hfr hl hf hkb hen he hc hdd hd (Array.getElem?_eq_some_iff.mp h1).1 h
theorem note_onD (hfr : A.frames = some (env :: outer)) (hf : env.frame = some L) (x : FlyD base (env :: outer) e d .none s.heap)
    (h : ∀ h', NotedD base (env :: outer) e d (rawInt L) s.heap h' → Q () { s with heap := h' }) : wpAny M A (noteFrame (.ref e) env) Q E s := by
  obtain ⟨hkb, hen, hl, oe, vs, T, oT, ts, he, hc, hdd, hd, h1, hnT, hTe, hT, hdT, h3⟩ := x
  unfold noteFrame
  simp only [hf]
  refine wpAny_bind (wpAny_field he hd h1 ?_)
  rw [if_pos (show (Value.ref T != Value.none) = true from by simp)]
  refine wpAny_bind (wpAny_field hT hdT h3 ?_)
  rw [if_neg (show ¬ ((Value.none == rawInt L) = true) from by simp [rawInt])]
  refine wpAny_bind (wpAny_setField hT hdT (Array.getElem?_eq_some_iff.mp h3).1 ?_)
  have other : ∀ b, b ≠ T → (s.heap.update T (Obj.mapFields (·.setIfInBounds 3 Value.none))).get? b = s.heap.get? b := fun b hb => Heap.get?_update_other _ _ (Ne.symm hb)
  have notT : ∀ b o, s.heap.get? b = some o → (∀ vs, o.data ≠ .fields vs) → b ≠ T := fun b o hb hn q => by
    rw [q, hT] at hb
    cases hb
    exact hn ts hdT
  refine entryD hfr (hl.of_keeps fun b o hb hn => ⟨o, (other b (notT b o hb hn)).trans hb, rfl⟩) hf (fun b o hb => (other b fun q => by rw [q, hnT] at hb; cases hb).trans (hkb b o hb)) hen ((other e (Ne.symm hTe)).trans he) hc hdd hd (Array.getElem?_eq_some_iff.mp h1).1
    fun h' ⟨x1, x2, x3, x4⟩ => h h' ⟨x1, x2, x3, fun b o hb hn => x4 b o ((other b (notT b o hb hn)).trans hb) hn⟩
theorem note_againD {fl : Value} (hf : env.frame = some L) (x : TrD s.heap base e d (rawInt L)) (h : Q () s) : wpAny M A (noteFrame (.ref e) env) Q E s := by
  obtain ⟨oe, vs, T, oT, ts, he, hc, hdd, hd, h1, hnT, hTe, hT, hdT, h3⟩ := x
  unfold noteFrame
  simp only [hf]
  refine wpAny_bind (wpAny_field he hd h1 ?_)
  rw [if_pos (show (Value.ref T != Value.none) = true from by simp)]
  refine wpAny_bind (wpAny_field hT hdT h3 ?_)
  rw [if_pos (show (rawInt L == rawInt L) = true from by simp)]
  exact wpAny_pure h
theorem flight_noneD {l : List Env} {fl : Value} (x : FlyD base l e d fl s.heap) (h : ∀ h', FlyD base l e d .none h' → s.heap.UpToSlots h' → Q () { s with heap := h' }) : wpAny M A (setFlight (.ref e) none) Q E s := by
  obtain ⟨hkb, hen, hl, oe, vs, T, oT, ts, he, hc, hdd, hd, h1, hnT, hTe, hT, hdT, h3⟩ := x
  have h3s : 3 < ts.size := (Array.getElem?_eq_some_iff.mp h3).1
  have other : ∀ b, b ≠ T → (s.heap.update T (Obj.mapFields (·.setIfInBounds 3 ((none : Option Addr).elim Value.none fun f => rawInt f)))).get? b = s.heap.get? b := fun b hb => Heap.get?_update_other _ _ (Ne.symm hb)
  have notT : ∀ b o, s.heap.get? b = some o → (∀ vs, o.data ≠ .fields vs) → b ≠ T := fun b o hb hn q => by
    rw [q, hT] at hb
    cases hb
    exact hn ts hdT
  unfold setFlight
  refine wpAny_bind (wpAny_field he hd h1 ?_)
  rw [if_pos (show (Value.ref T != Value.none) = true from by simp)]
  refine wpAny_setField hT hdT h3s (h _ ⟨fun b o hb => (other b fun q => by rw [q, hnT] at hb; cases hb).trans (hkb b o hb), hen,
    hl.of_keeps fun b o hb hn => ⟨o, (other b (notT b o hb hn)).trans hb, rfl⟩, ?_⟩ fun b o hb hn => ⟨o.slots, (other b (notT b o hb hn)).trans hb⟩)
  exact ⟨oe, vs, T, _, _, (other e (Ne.symm hTe)).trans he, hc, hdd, hd, h1, hnT, hTe, Heap.get?_update_self _ hT (Obj.isFreed_of_fields (Obj.data_mapFields hdT _)), Obj.data_mapFields hdT _, by simp [h3s]⟩
/-- the first frame is left -/
theorem leaves_firstD {oe : Obj} {vs : Array Value}
    (hfr : A.frames = some (env :: outer)) (hl : s.heap.FunFrames base (env :: outer)) (hf : env.frame = some L) (hkb : base.StaysIn s.heap) (hen : base.get? e = none)
    (he : s.heap.get? e = some oe) (hc : oe.cls = .ref 122) (hdd : oe.dict = some d) (hd : oe.data = .fields vs) (h1 : vs[1]? = some .none)
    (h : ∀ h', FlyD base outer e d .none h' → s.heap.UpToSlots h' → Q () { s with heap := h' }) : wpAny M A (leaving env (.ref e)) Q E s := by
  unfold leaving
  refine wpAny_bind (note_firstD hfr hl hf hkb hen he hc hdd hd h1 fun h₁ ⟨x1, x2, x3, x4⟩ => flight_noneD (s := { s with heap := h₁ }) (l := env :: outer) ⟨x1, hen, x2, x3⟩ fun h₂ y z => ?_)
  obtain ⟨y1, y2, ⟨_, _, y3⟩, y4⟩ := y
  exact h h₂ ⟨y1, y2, y3, y4⟩ (x4.trans z)
theorem leaves_onD (hfr : A.frames = some (env :: outer)) (hf : env.frame = some L) (x : FlyD base (env :: outer) e d .none s.heap)
    (h : ∀ h', FlyD base outer e d .none h' → s.heap.UpToSlots h' → Q () { s with heap := h' }) : wpAny M A (leaving env (.ref e)) Q E s := by
  have hen := x.2.1
  unfold leaving
  refine wpAny_bind (note_onD hfr hf x fun h₁ ⟨x1, x2, x3, x4⟩ => flight_noneD (s := { s with heap := h₁ }) (l := env :: outer) ⟨x1, hen, x2, x3⟩ fun h₂ y z => ?_)
  obtain ⟨y1, y2, ⟨_, _, y3⟩, y4⟩ := y
  exact h h₂ ⟨y1, y2, y3, y4⟩ (x4.trans z)
end
-- Y2
def RaisedD (base G : Heap) (l : List Env) (e d : Addr) (kept : List (Addr × Obj)) (h : Heap) : Prop :=
  ∃ B, base.StaysIn B ∧ (∀ b o, G.get? b = some o → b ∉ l.filterMap (·.frame) → B.get? b = some o) ∧ (∀ q ∈ kept, B.get? q.1 = some q.2 ∧ G.get? q.1 = none ∧ base.get? q.1 = none) ∧ FlyD B l e d .none h
theorem RaisedD.less {base G h : Heap} {l : List Env} {e d : Addr} {kept kept' : List (Addr × Obj)} (R : RaisedD base G l e d kept h) (hs : ∀ q ∈ kept', q ∈ kept) : RaisedD base G l e d kept' h := by
  obtain ⟨B, a, b, c, f⟩ := R
  exact ⟨B, a, b, fun q hq => c q (hs q hq), f⟩
section
variable {M : Model} {A : Around} {E : Value → Shared → Prop} {s' : Shared} {base g g₂ : Heap} {outer : List Env} {L a e d t : Addr} {m : Str → Option Value} {name : Str} {scope : Scope} {cd : Value} {Q : Unit → Shared → Prop} {news kept : List (Addr × Obj)}
theorem leave_raiseD (K : Below A base outer g) (F : Fr g L s'.heap m) (N : News g L s'.heap news) (he : (e, excD t d) ∈ news) (hs : ∀ q ∈ kept, q ∈ news ∧ q.1 ≠ e)
    (hQ : ∀ h', RaisedD base g outer e d kept h' → g.UpToSlots h' → Q () { s' with heap := h' }) (hk : scope.kind = .function := by rfl) :
    wpAny M (A.deeper (envOf name scope L a cd)) (leaving (envOf name scope L a cd) (.ref e)) Q E s' := by
  have K' := K.push (name := name) (a := a) (cd := cd) F hk
  obtain ⟨fs, hfs⟩ : ∃ fs, fs = (envOf name scope L a cd :: outer).filterMap (·.frame) := ⟨_, rfl⟩
  have hin : ∀ env ∈ (envOf name scope L a cd :: outer), ∀ b, env.frame = some b → b ∈ fs := fun env h b hb => by rw [hfs]; exact List.mem_filterMap.mpr ⟨env, h, hb⟩
  have E1 := N _ he
  have eb : base.get? e = none := fresh_of_stays K.stays E1.2.2
  have ef : e ∉ fs := fun hm => by
    rw [hfs] at hm
    rcases kts_mem hm with z | z
    · exact E1.2.1 z
    · obtain ⟨o, ho, _⟩ := (K.frames.mem z).2
      rw [E1.2.2] at ho
      cases ho
  have st : base.StaysIn (hideAll s'.heap (e :: fs)) := fun b o q => hideAll_get _ (K'.stays b o q) fun hm => by
    rcases List.mem_cons.mp hm with z | z
    · rw [z, eb] at q; cases q
    · rw [hfs] at z; rw [(K'.frames.mem z).1] at q; cases q
  have sg : ∀ b o, g.get? b = some o → b ∉ outer.filterMap (·.frame) → (hideAll s'.heap (e :: fs)).get? b = some o := fun b o q nm => hideAll_get _ (F.keep b o q) fun hm => by
    rcases List.mem_cons.mp hm with z | z
    · rw [z, E1.2.2] at q; cases q
    · rw [hfs] at z
      rcases kts_mem z with z | z
      · rw [z, kts_self F] at q; cases q
      · exact nm z
  have hl : ∀ q ∈ kept, (hideAll s'.heap (e :: fs)).get? q.1 = some q.2 ∧ g.get? q.1 = none ∧ base.get? q.1 = none := fun q hq => by
    have Nq := N q (hs q hq).1
    refine ⟨hideAll_get _ Nq.1 fun hm => ?_, Nq.2.2, fresh_of_stays K.stays Nq.2.2⟩
    rcases List.mem_cons.mp hm with z | z
    · exact (hs q hq).2 z
    · rw [hfs] at z
      rcases kts_mem z with z | z
      · exact Nq.2.1 z
      · obtain ⟨o, ho, _⟩ := (K.frames.mem z).2
        rw [Nq.2.2] at ho
        cases ho
  have fr : s'.heap.FunFrames (hideAll s'.heap (e :: fs)) (envOf name scope L a cd :: outer) := funFrames_hide K'.frames fun env h b hb => .tail _ (hin env h b hb)
  exact leaves_firstD K'.stack fr rfl (fun b o q => of_hideAll _ q) (hideAll_none _ (.head _)) E1.1 rfl rfl rfl rfl fun h' y z =>
    hQ h' ⟨_, st, sg, hl, y⟩ ((Heap.UpToSlots.of_keeps F.keep).trans z)
theorem leave_onD (K : Below A base outer g) (F : Fr g L g₂ m) (R : RaisedD base g₂ (envOf name scope L a cd :: outer) e d kept s'.heap) (hsm : g₂.UpToSlots s'.heap)
    (hQ : ∀ h', RaisedD base g outer e d kept h' → g.UpToSlots h' → Q () { s' with heap := h' }) :
    wpAny M (A.deeper (envOf name scope L a cd)) (leaving (envOf name scope L a cd) (.ref e)) Q E s' := by
  obtain ⟨B, st, sg, hl, fly⟩ := R
  exact leaves_onD (Around.frames_deeper K.stack) rfl fly fun h' y z =>
    hQ h' ⟨B, st, fun b o q nm => sg b o (F.keep b o q) (fun hm => by
      rcases kts_mem hm with x | x
      · rw [x, kts_self F] at q; cases q
      · exact nm x), fun q hq => ⟨(hl q hq).1, kts_none F.keep (hl q hq).2.1, (hl q hq).2.2⟩, y⟩ ((Heap.UpToSlots.of_keeps F.keep).trans (hsm.trans z))
end
section
variable {prog : Program} {w : World} {A₀ : Around} {E : Value → Shared → Prop} {s' : Shared} {base g g₀ G : Heap} {outer : List Env} {L a e d : Addr} {m : Str → Option Value} {name : Str} {scope : Scope} {cd : Value}
  {n : Str} {b₀ : Stmt} {suite : List Stmt} {pos np : Pos} {rest : List ExceptHandler} {Q : Flow → Shared → Prop} {kept : List (Addr × Obj)}
  {p : Program} {loose : List Str} {mean : ExcName → Option Value} {mg mb : Str → Option Value}
theorem caught_D (R : RaisedD base G (envOf name scope L a cd :: outer) e d kept s'.heap) (F : Fr g L G m) (K : Below A₀ base outer g) (hsm : G.UpToSlots s'.heap) (XB : (K1 w.params).In base) (TB : Top p loose mean mg mb base)
    (D : KtsDicts (outer.filterMap (·.frame)) g)
    (k : ∀ h' g' oe tk, KtsTurn (outer.filterMap (·.frame)) g g' → Fr g' L h' (fun y => if y = n then some (.ref e) else m y) → News g' L h' ((e, oe) :: kept) → oe.cls = .ref 122 → oe.dict = some d → (∃ vs, oe.data = .fields vs) → Below A₀ base outer g' → (K1 w.params).In g' → Top p loose mean mg mb g' → KtsDicts (outer.filterMap (·.frame)) g' →
      wpAny (model prog w) ((A₀.deeper (envOf name scope L a cd)).mark (some (.ref e))) (execs (b₀ :: suite) (envOf name scope L a cd))
        (fun f s₄ => wpAny (model prog w) (A₀.deeper (envOf name scope L a cd)) (do bindName (envOf name scope L a cd) n .none; unbindBehindTheSuite (envOf name scope L a cd) n pos) (fun _ s₅ => Q f s₅) E s₄)
        (AsSuiteRaised (model prog w) ((A₀.deeper (envOf name scope L a cd)).mark (some (.ref e))) (envOf name scope L a cd) n pos (notedBy (model prog w) ((A₀.deeper (envOf name scope L a cd)).mark (some (.ref e))) (envOf name scope L a cd) (cameBackBy (model prog w) (A₀.deeper (envOf name scope L a cd)) (envOf name scope L a cd) E)))
        { s' with heap := h', toks := tk })
    (hk : scope.kind = .function := by rfl) (hlo : (envOf name scope L a cd).kindOf n = some .local := by rfl) (hx : (envOf name scope L a cd).kindOf "GrammarFault" = some .globalImplicit := by rfl) :
    wpAny (model prog w) (A₀.deeper (envOf name scope L a cd)) (noteFrame (.ref e) (envOf name scope L a cd))
      (fun _ s₂ => wpAny (model prog w) (A₀.deeper (envOf name scope L a cd)) (setFlight (.ref e) none) (fun _ s₃ =>
        wpAny (model prog w) (A₀.deeper (envOf name scope L a cd)) (handleBy (.ref e) (envOf name scope L a cd) (.ExceptHandler (some (.Name "GrammarFault" np)) (some n) (b₀ :: suite) pos :: rest)) Q E s₃) E s₂) E s' := by
  obtain ⟨B, st, sg, hl, fly⟩ := R
  have hL : B.get? L = none := by
    obtain ⟨_, _, ⟨_, ⟨L', _, hf, hn', _⟩, _⟩, _⟩ := fly
    obtain rfl : L = L' := Option.some.inj hf
    exact hn'
  have hen := fly.2.1
  refine note_onD (Around.frames_deeper K.stack) rfl fly fun h₁ ⟨x1, x2, x3, x4⟩ => ?_
  refine flight_noneD (s := { s' with heap := h₁ }) (l := envOf name scope L a cd :: outer) ⟨x1, hen, x2, x3⟩ fun h₂ y z => ?_
  have u₂ := x4.trans z
  obtain ⟨g₂, T₂, F₂, K₂⟩ := kts_ground K F sg y.1 (hsm.trans u₂)
  have X₂ : (K1 w.params).In g₂ := XB.keeps K₂.stays
  have P₂ : TopRead p loose mg mb g₂ := topRead_of (TB.keeps K₂.stays)
  obtain ⟨ob, hob, hobc⟩ := y.2.2.2.there
  obtain ⟨nm, q', bs, hdct, sn, sub, ab, col, dd, k0, k1, k2, k3, k5, hC⟩ := cls122 X₂
  have hC₂ := F₂.keep _ _ hC
  refine wpAny_handleBy_cons (codeAny_handlers_test (name_K (v := .ref 122) F₂ X₂ P₂ (by kernel_rfl) ?_ hk hx (by decide))) (by intro q; cases q)
  refine wpAny_excMatches_sub_self hC₂ hob hobc (by decide +kernel) (codeAny_handlers_suite_as ?_)
  refine flight_noneD (l := envOf name scope L a cd :: outer) (fl := .none) y fun h₃ y3 z3 => ?_
  obtain ⟨g₃, T₃, F₃, K₃⟩ := kts_ground K F sg y3.1 ((hsm.trans u₂).trans z3)
  obtain ⟨f1, f2, f3, oe, vs, T, oT, ts, he, hc, hdd, hd, h1, hnT, hTe, hT, hdT, h3⟩ := y3
  have ne₃ : g₃.get? e = none := T₃.none_ _ (kts_fresh F sg f2 fun o ho mm => by
    obtain ⟨o', es, n', ho', hd'⟩ := D _ mm
    rw [ho] at ho'
    cases ho'
    obtain ⟨sl, hs⟩ := ((hsm.trans u₂).trans z3) _ _ (F.keep _ _ ho) (fun vs q => by rw [hd'] at q; cases q)
    rw [he] at hs
    cases hs
    have z := hd'.symm.trans hd
    cases z)
  have N₃ : News g₃ L h₃ ((e, oe) :: kept) := fun q hq => by
    rcases List.mem_cons.mp hq with rfl | hq
    · exact ⟨he, fun z => by
        have nz : (envOf name scope L a cd).frame = some L := rfl
        obtain ⟨_, ⟨L', o', hf', _, ho', hnf⟩, _⟩ := f3
        obtain rfl : L = L' := Option.some.inj hf'
        have z' : e = L := z
        rw [← z', he] at ho'
        cases ho'
        exact hnf vs hd, ne₃⟩
    · exact ⟨f1 _ _ (hl q hq).1, (fun z => by have := (hl q hq).1; rw [z, hL] at this; cases this), T₃.none_ _ (kts_none F.keep (hl q hq).2.1)⟩
  have X₃ : (K1 w.params).In g₃ := XB.keeps K₃.stays
  have P₃ : Top p loose mean mg mb g₃ := TB.keeps K₃.stays
  have D₃ : KtsDicts (outer.filterMap (·.frame)) g₃ := D.turn T₃
  refine stN F₃ N₃ (fun h₇ F₇ N₇ => ?_) hk hlo
  exact k h₇ g₃ oe _ T₃ F₇ N₇ hc hdd ⟨vs, hd⟩ K₃ X₃ P₃ D₃
end
-- C2
def isKind (toks : List TR) (pos k : Int) (kd : Str) : Bool := match tokAt toks pos k with
  | some t => t.k == kd
  | none => false
theorem isKind_none {toks : List TR} {pos k : Int} {kd : Str} (h : tokAt toks pos k = none) : isKind toks pos k kd = false := by unfold isKind; rw [h]
theorem isKind_some {toks : List TR} {pos k : Int} {kd : Str} {t : TR} (h : tokAt toks pos k = some t) : isKind toks pos k kd = (t.k == kd) := by unfold isKind; rw [h]
def isWordK (toks : List TR) (pos k : Int) (wd : Str) : Bool := match tokAt toks pos k with
  | some t => t.k == ("word" : Str) && t.w == wd
  | none => false
def isWord (toks : List TR) (pos : Int) (wd : Str) : Bool := isWordK toks pos 0 wd
theorem isWord_no1 {toks : List TR} {pos : Int} {wd : Str} (h : isKind toks pos 0 "word" = false) : isWord toks pos wd = false := by
  unfold isWord isWordK
  unfold isKind at h
  split <;> simp_all
theorem isWord_no2 {toks : List TR} {pos : Int} {wd : Str} {t : TR} (h : tokAt toks pos 0 = some t) (hw : (t.w != wd) = true) : isWord toks pos wd = false := by
  unfold isWord isWordK
  rw [h]; simp_all
theorem isWord_yes {toks : List TR} {pos : Int} {wd : Str} {t : TR} (hk : isKind toks pos 0 "word" = true) (h : tokAt toks pos 0 = some t) (hw : (t.w != wd) = false) : isWord toks pos wd = true := by
  unfold isWord isWordK
  unfold isKind at hk
  rw [h] at hk ⊢; simp_all
/-- the text has no blank: it is one word -/
def OneWord (wd : Str) : Prop := Txt.split wd " " = [wd] ∧ wd.length ≤ 1000
theorem one_of_map {l : List (Str × Tok)} {x : Str} (h : l.map (·.1) = [x]) : ∃ t, l = [(x, t)] := by
  match l, h with
  | [(y, t)], h => exact ⟨t, by simpa using h⟩
section
variable {prog : Program} {w : World} {p : Program} {loose : List Str} {mean : ExcName → Option Value} {mg mb : Str → Option Value}
  {dp un : Nat} {gd : Option (List Code)} {cn : Str} {cs : Scope} {a : Addr} {ccd : Value} {cl : List (Str × Addr)} {outer : List Env} {A₀ : Around} {base h₀ : Heap} {L : Addr} {m : Str → Option Value} {s : Shared} {Q E : Value → Shared → Prop}
  {r : RR} {pos : Int} {ta : Tok} {news : List (Addr × Obj)} {news' : Tok → List (Addr × Obj)} {k : Int} {u : Tok}
variable (B : Below A₀ base outer h₀) (F : Fr h₀ L s.heap m) (X : (Mine.kMake.heap_1 w.params).In h₀) (T : Top p loose mean mg mb h₀) (hk : cs.kind = .function) (N : News h₀ L s.heap news) (R : RIn w.params news r pos ta)
include B F X T hk N R
omit B X T hk R in
theorem split_word {A : Around} {wd : Str} {t u : Tok} (hw : OneWord wd)
    (h : ∀ D t' h' k, Fr h₀ L h' m → News h₀ L h' ((D, W.listOf #[.str wd t'] 0) :: news) → (∀ p ∈ news, p.1 < D) → Q (.ref D) { s with heap := h', toks := k }) :
    wpAny (model prog w) A (call (.builtin "str.split") [.str wd t, .str " " u]) Q E s := by
  refine KSpl.split1 F N (by decide) (fun D l h' k e _ F' N' l1 => ?_) (by have := hw.2; rw [sizeLine_eq]; omega)
  rw [hw.1] at e
  obtain ⟨t', rfl⟩ := one_of_map e
  exact h D t' h' k F' N' l1
theorem is_kind2 {kd : Str} {v : Tok} (hd : dp + 2 < recursionLimit) (hk0 : 0 ≤ k)
    (hret0 : ∀ h' tk', Fr h₀ L h' m → News h₀ L h' news → Q (.bool (isKind r.toks pos k kd)) { s with heap := h', toks := tk' }) :
    wpAny (model prog w) (ktrTop dp un gd cn cs L a ccd cl outer) (call (.ref 380) [.ref r.x, .str kd v, .int k u]) Q E s := by
  w_top off
  have ⟨ix, id, il, it, le, lo⟩ := R
  refine wpAny_call ?_
  k_dflt (refine' code_def ?zk1 ?zk2 ?zk3 ?zk4 ?zk5 ?zkA ?zkF ?zkK ?zk6 ?zk7 ?zk8 ?zk9 ?zkB ?_ ?zc2 ?zc3 ?zc4 ?zc5; (case zkA => exact rfl); (case zkF => exact rfl); (case zkK => assumption); (case zk1 => k_asm); (case zk2 => k_asm); (case zk3 => k_asm); (case zk4 => k_asm); (case zk5 => k_asm); (case zk6 => k_is); (case zk7 => k_is); (case zk8 => ktr_room); (case zk9 => first | exact BindsTo.of_eq rfl | exact binds_K (by k_in) rfl (by k_is) rfl rfl rfl); (case zc5 => decide); (case zkB => exact locs rfl); (case zc2 => exact rfl); (case zc3 => exact rfl); (case zc4 => exact rfl); k_whole; intro _ _ _ _ _ _ _ _ _; (try dsimp only); (try k_fold))
  repeat' (first | (((with_reducible show wpAny _ _ (call (Value.ref 351) [Value.ref _, _]) _ _ _); k_dflt (refine' peek1 ?zb ?zf ?zx ?zt ?zhk ?zn ?zr ?zd ?zz ?_ ?_; (case zb => k_asm); (case zf => k_asm); (case zx => k_asm); (case zt => k_asm); (case zhk => first | exact rfl | assumption); (case zn => k_asm); (case zr => k_intsEnd); (case zd => ktr_room); (case zz => first | decide | omega); k_whole); (all_goals intros); (all_goals (try k_sweep)))) | (k_unfold; (try dsimp only)) | (k_end; kc_close) | walk1 | (dsimp only; walk1) | (leave1; (try dsimp only)))
  · rw [isKind_none (by assumption)] at hret0; exact hret0 _ _ (by k_asm) (by k_asm)
  · rw [isKind_some (by assumption)] at hret0; exact hret0 _ _ (by k_asm) (by k_asm)
theorem is_kind1 {kd : Str} {v : Tok} (hd : dp + 2 < recursionLimit)
    (hret0 : ∀ h' tk', Fr h₀ L h' m → News h₀ L h' news → Q (.bool (isKind r.toks pos 0 kd)) { s with heap := h', toks := tk' }) :
    wpAny (model prog w) (ktrTop dp un gd cn cs L a ccd cl outer) (call (.ref 380) [.ref r.x, .str kd v]) Q E s := by
  w_top off
  have ⟨ix, id, il, it, le, lo⟩ := R
  refine wpAny_call ?_
  k_dflt (refine' code_def ?zk1 ?zk2 ?zk3 ?zk4 ?zk5 ?zkA ?zkF ?zkK ?zk6 ?zk7 ?zk8 ?zk9 ?zkB ?_ ?zc2 ?zc3 ?zc4 ?zc5; (case zkA => exact rfl); (case zkF => exact rfl); (case zkK => assumption); (case zk1 => k_asm); (case zk2 => k_asm); (case zk3 => k_asm); (case zk4 => k_asm); (case zk5 => k_asm); (case zk6 => k_is); (case zk7 => k_is); (case zk8 => ktr_room); (case zk9 => first | exact BindsTo.of_eq rfl | exact binds_K (by k_in) rfl (by k_is) rfl rfl rfl); (case zc5 => decide); (case zkB => exact locs rfl); (case zc2 => exact rfl); (case zc3 => exact rfl); (case zc4 => exact rfl); k_whole; intro _ _ _ _ _ _ _ _ _; (try dsimp only); (try k_fold))
  repeat' (first | (((with_reducible show wpAny _ _ (call (Value.ref 351) [Value.ref _, _]) _ _ _); k_dflt (refine' peek1 ?zb ?zf ?zx ?zt ?zhk ?zn ?zr ?zd ?zz ?_ ?_; (case zb => k_asm); (case zf => k_asm); (case zx => k_asm); (case zt => k_asm); (case zhk => first | exact rfl | assumption); (case zn => k_asm); (case zr => k_intsEnd); (case zd => ktr_room); (case zz => first | decide | omega); k_whole); (all_goals intros); (all_goals (try k_sweep)))) | (k_unfold; (try dsimp only)) | (k_end; kc_close) | walk1 | (dsimp only; walk1) | (leave1; (try dsimp only)))
  · rw [isKind_none (by assumption)] at hret0; exact hret0 _ _ (by k_asm) (by k_asm)
  · rw [isKind_some (by assumption)] at hret0; exact hret0 _ _ (by k_asm) (by k_asm)
theorem is_word1 {wd : Str} {v : Tok} (hd : dp + 3 < recursionLimit) (hw : OneWord wd)
    (hret0 : ∀ h' tk', Fr h₀ L h' m → News h₀ L h' news → Q (.bool (isWord r.toks pos wd)) { s with heap := h', toks := tk' }) :
    wpAny (model prog w) (ktrTop dp un gd cn cs L a ccd cl outer) (call (.ref 387) [.ref r.x, .str wd v]) Q E s := by
  w_top off
  have ⟨ix, id, il, it, le, lo⟩ := R
  refine wpAny_call ?_
  k_dflt (refine' code_def ?zk1 ?zk2 ?zk3 ?zk4 ?zk5 ?zkA ?zkF ?zkK ?zk6 ?zk7 ?zk8 ?zk9 ?zkB ?_ ?zc2 ?zc3 ?zc4 ?zc5; (case zkA => exact rfl); (case zkF => exact rfl); (case zkK => assumption); (case zk1 => k_asm); (case zk2 => k_asm); (case zk3 => k_asm); (case zk4 => k_asm); (case zk5 => k_asm); (case zk6 => k_is); (case zk7 => k_is); (case zk8 => ktr_room); (case zk9 => first | exact BindsTo.of_eq rfl | exact binds_K (by k_in) rfl (by k_is) rfl rfl rfl); (case zc5 => decide); (case zkB => exact locs rfl); (case zc2 => exact rfl); (case zc3 => exact rfl); (case zc4 => exact rfl); k_whole; intro _ _ _ _ _ _ _ _ _; (try dsimp only); (try k_fold))
  repeat' (first | (((with_reducible show wpAny _ _ (call (Value.ref 380) [Value.ref _, _, _]) _ _ _); k_dflt (refine' is_kind2 ?zb ?zf ?zx ?zt ?zhk ?zn ?zr ?zd ?zz ?_; (case zb => k_asm); (case zf => k_asm); (case zx => k_asm); (case zt => k_asm); (case zhk => first | exact rfl | assumption); (case zn => k_asm); (case zr => k_intsEnd); (case zd => ktr_room); (case zz => first | decide | omega); k_whole); (all_goals intros); (all_goals (try k_sweep)))) | (((with_reducible show wpAny _ _ (pyIter (Value.ref _)) (fun it s₂ => LoopAtV _ _ _ _ _ _ _ _ _ it s₂) _ _); (with_unfolding_all refine' iter_listUnr ?zhh ?zf ?zn ?zm ?zc ?zd ?_; (case zhh => exact rfl); (case zf => k_asm); (case zn => k_asm); (case zm => first | exact List.Mem.head _ | exact List.Mem.tail _ (List.Mem.head _)); (case zc => exact rfl); (case zd => exact rfl)); intro i9ζ l9ζ)) | (((with_reducible show wpAny _ _ (call (Value.builtin "str.split") _) _ _ _); k_dflt (refine' split_word ?zf ?zn ?zhw ?_; (case zf => k_asm); (case zn => k_asm); (case zhw => assumption); k_whole); (intro D9ζ t9ζ h9ζ k9ζ F9ζ N9ζ l9ζ); (try k_lt l9ζ); (try k_sweep))) | (((with_reducible show wpAny _ _ (call (Value.ref 351) [Value.ref _, _]) _ _ _); k_dflt (refine' peek1 ?zb ?zf ?zx ?zt ?zhk ?zn ?zr ?zd ?zz ?_ ?_; (case zb => k_asm); (case zf => k_asm); (case zx => k_asm); (case zt => k_asm); (case zhk => first | exact rfl | assumption); (case zn => k_asm); (case zr => k_intsEnd); (case zd => ktr_room); (case zz => first | decide | omega); k_whole); (all_goals intros); (all_goals (try k_sweep)))) | ((with_reducible show UnrEnd _ _ _ _ _ _ _); ((refine' UnrEnd.intro ?zf ?zn _ (fun _ hp => hp) ?zo ⟨?zm, ?_⟩; (case zf => k_asm); (case zn => k_asm); (case zo => intro p9ζ hp9ζ; exact Nat.ne_of_lt ((by assumption : ∀ p ∈ _, p.1 < _) p9ζ hp9ζ)); (case zm => first | exact List.Mem.head _ | exact List.Mem.tail _ (List.Mem.head _))))) | (k_unfold; (try dsimp only)) | (k_end; kc_close) | walk1 | (dsimp only; walk1) | (leave1; (try dsimp only)))
  · exact absurd (isKind_none (by assumption)) (by rw [(by assumption : isKind r.toks pos 0 _ = true)]; decide)
  · rw [isWord_no2 (by assumption) (by assumption)] at hret0; exact hret0 _ _ (by k_asm) (by first | k_asm | exact cb_drop (by k_asm) (fun _ hp => List.Mem.tail _ hp) | exact cb_drop (by k_asm) (fun _ hp => List.Mem.tail _ (List.Mem.tail _ hp)) | exact cb_drop (by k_asm) (fun _ hp => List.Mem.tail _ (List.Mem.tail _ (List.Mem.tail _ hp))))
  · rw [isWord_yes (by assumption) (by assumption) (by assumption)] at hret0; exact hret0 _ _ (by k_asm) (by first | k_asm | exact cb_drop (by k_asm) (fun _ hp => List.Mem.tail _ hp) | exact cb_drop (by k_asm) (fun _ hp => List.Mem.tail _ (List.Mem.tail _ hp)) | exact cb_drop (by k_asm) (fun _ hp => List.Mem.tail _ (List.Mem.tail _ (List.Mem.tail _ hp))))
  · rw [isWord_no1 (by assumption)] at hret0; exact hret0 _ _ (by k_asm) (by first | k_asm | exact cb_drop (by k_asm) (fun _ hp => List.Mem.tail _ hp) | exact cb_drop (by k_asm) (fun _ hp => List.Mem.tail _ (List.Mem.tail _ hp)) | exact cb_drop (by k_asm) (fun _ hp => List.Mem.tail _ (List.Mem.tail _ (List.Mem.tail _ hp))))
theorem skip1 {wd : Str} {v : Tok} (hd : dp + 4 < recursionLimit) (hw : OneWord wd) (U : ∀ ta', Upd r.dx (r.D w.params pos ta) (r.D w.params (pos + 1) ta') news (news' ta'))
    (hret0 : isWord r.toks pos wd = false → ∀ h' tk', Fr h₀ L h' m → News h₀ L h' news → Q (.bool false) { s with heap := h', toks := tk' })
    (hret1 : isWord r.toks pos wd = true → ∀ h' tk' ta', Fr h₀ L h' m → News h₀ L h' (news' ta') → RIn w.params (news' ta') r (pos + 1) ta' → Q (.bool true) { s with heap := h', toks := tk' }) :
    wpAny (model prog w) (ktrTop dp un gd cn cs L a ccd cl outer) (call (.ref 394) [.ref r.x, .str wd v]) Q E s := by
  w_top off
  have ⟨ix, id, il, it, le, lo⟩ := R
  refine wpAny_call ?_
  k_dflt (refine' code_def ?zk1 ?zk2 ?zk3 ?zk4 ?zk5 ?zkA ?zkF ?zkK ?zk6 ?zk7 ?zk8 ?zk9 ?zkB ?_ ?zc2 ?zc3 ?zc4 ?zc5; (case zkA => exact rfl); (case zkF => exact rfl); (case zkK => assumption); (case zk1 => k_asm); (case zk2 => k_asm); (case zk3 => k_asm); (case zk4 => k_asm); (case zk5 => k_asm); (case zk6 => k_is); (case zk7 => k_is); (case zk8 => ktr_room); (case zk9 => first | exact BindsTo.of_eq rfl | exact binds_K (by k_in) rfl (by k_is) rfl rfl rfl); (case zc5 => decide); (case zkB => exact locs rfl); (case zc2 => exact rfl); (case zc3 => exact rfl); (case zc4 => exact rfl); k_whole; intro _ _ _ _ _ _ _ _ _; (try dsimp only); (try k_fold))
  repeat' (first | (((with_reducible show wpAny _ _ (call (Value.ref 387) [Value.ref _, _]) _ _ _); k_dflt (refine' is_word1 ?zb ?zf ?zx ?zt ?zhk ?zn ?zr ?zd ?zo ?_; (case zb => k_asm); (case zf => k_asm); (case zx => k_asm); (case zt => k_asm); (case zhk => first | exact rfl | assumption); (case zn => k_asm); (case zr => k_intsEnd); (case zd => ktr_room); (case zo => first | assumption | exact ⟨by decide +kernel, by decide +kernel⟩); k_whole); (all_goals intros); (all_goals (try k_sweep)))) | (((with_reducible show wpAny _ _ (call (Value.builtin "str.split") _) _ _ _); k_dflt (refine' split_word ?zf ?zn ?zhw ?_; (case zf => k_asm); (case zn => k_asm); (case zhw => assumption); k_whole); (intro D9ζ t9ζ h9ζ k9ζ F9ζ N9ζ l9ζ); (try k_lt l9ζ); (try k_sweep))) | (k_unfold; (try dsimp only)) | (k_end; kc_close) | walk1 | (dsimp only; walk1) | (leave1; (try dsimp only)))
  · exact hret1 (by assumption) _ _ _ (by k_asm) (by first | k_asm | exact cb_drop (by k_asm) (fun _ hp => List.Mem.tail _ hp) | exact cb_drop (by k_asm) (fun _ hp => List.Mem.tail _ (List.Mem.tail _ hp)) | exact cb_drop (by k_asm) (fun _ hp => List.Mem.tail _ (List.Mem.tail _ (List.Mem.tail _ hp)))) (R.upd (U _) (by omega))
  · exact hret0 (by assumption) _ _ (by k_asm) (by first | k_asm | exact cb_drop (by k_asm) (fun _ hp => List.Mem.tail _ hp) | exact cb_drop (by k_asm) (fun _ hp => List.Mem.tail _ (List.Mem.tail _ hp)) | exact cb_drop (by k_asm) (fun _ hp => List.Mem.tail _ (List.Mem.tail _ (List.Mem.tail _ hp))))
end
-- C3
def isSign (toks : List TR) (pos k : Int) (sg : Str) : Bool := match tokAt toks pos k with
  | some t => t.k == ("sign" : Str) && t.w == sg
  | none => false
theorem isSign_no {toks : List TR} {pos k : Int} {sg : Str} (h : isKind toks pos k "sign" = false) : isSign toks pos k sg = false := by
  unfold isSign
  unfold isKind at h
  split <;> simp_all
theorem isSign_yes {toks : List TR} {pos k : Int} {sg : Str} {t : TR} (hk : isKind toks pos k "sign" = true) (h : tokAt toks pos k = some t) : isSign toks pos k sg = (t.w == sg) := by
  unfold isSign
  unfold isKind at hk
  rw [h] at hk ⊢; simp_all
theorem need_no {toks : List TR} {pos : Int} {wd : Str} (h : isWord toks pos wd = false) (h' : isWord toks pos wd = true) : False := by rw [h] at h'; cases h'
theorem kind_no {toks : List TR} {pos k : Int} {kd : Str} (h : isKind toks pos k kd = true) (h' : tokAt toks pos k = none) : False := by
  rw [isKind_none h'] at h; cases h
theorem kind_no2 {toks : List TR} {pos k : Int} {kd : Str} {t : TR} (h : isKind toks pos k kd = false) (ht : tokAt toks pos k = some t) (hk : t.k = kd) : False := by
  rw [isKind_some ht, hk] at h; simp at h
theorem at_none {toks : List TR} {pos k : Int} {t : TR} (h : tokAt toks pos k = none) (ht : tokAt toks pos k = some t) : False := by rw [h] at ht; cases ht
/-- no word of the list of reserved words -/
def NotRes (x : Str) : Prop := x = "F-A" ∨ x = "A" ∨ x = "B" ∨ x = "C" ∨ x = "T"
def preOf : List Nat → List Nat → Bool
  | [], _ => true
  | _ :: _, [] => false
  | a :: p, b :: l => Nat.beq a b && preOf p l
def noSub (p : List Nat) : List Nat → Bool
  | [] => !preOf p []
  | c :: l => !preOf p (c :: l) && noSub p l
theorem preOf_take : ∀ (p l : List Nat), l.take p.length = p → preOf p l = true
  | [], _, _ => rfl
  | a :: p, [], h => by simp at h
  | a :: p, b :: l, h => by
    simp only [List.length_cons, List.take_succ_cons, List.cons.injEq] at h
    unfold preOf
    rw [h.1, preOf_take p l h.2]
    simp [Nat.beq_refl]
theorem noSub_drop (p : List Nat) : ∀ (l : List Nat) (i : Nat), noSub p l = true → (l.drop i).take p.length = p → False
  | [], i, h, e => by
    rw [List.drop_nil] at e
    unfold noSub at h
    rw [preOf_take p [] e] at h; cases h
  | c :: l, 0, h, e => by
    unfold noSub at h
    rw [List.drop_zero] at e
    rw [preOf_take p _ e] at h; cases h
  | c :: l, i + 1, h, e => by
    unfold noSub at h
    rw [Bool.and_eq_true] at h
    exact noSub_drop p l i h.2 (by simpa using e)
theorem q_nores {Q : Value → Shared → Prop} {x y : Str} {s : Shared} (h1 : noSub y.cps.toList resCps = true) (h2 : x = Str.ofString (String.ofList LX.1)) (h : Q (.bool false) s) : Q (.bool (!(Builtin.Str.occurrences x y 0 x.length 1).isEmpty)) s := by
  have e : (!(Builtin.Str.occurrences x y 0 x.length 1).isEmpty) = false := by
    rw [Bool.eq_false_iff]
    intro hh
    obtain ⟨i, _, hs⟩ := (PySem.StrLaws.found_iff x y).mp hh
    unfold Builtin.Str.subAt at hs
    have hs := congrArg Array.toList (eq_of_beq hs)
    rw [Array.toList_extract] at hs
    have hl : y.length = y.cps.toList.length := by simp [Str.length]
    refine noSub_drop y.cps.toList resCps i h1 ?_
    rw [← res_text, ← h2, ← hl]
    simpa [List.extract_eq_take_drop] using hs
  rw [e]; exact h
theorem obj_ne {o o' : Obj} (h : o.cls ≠ o'.cls) : o ≠ o' := fun e => h (congrArg Obj.cls e)
theorem dict_ne {a b : Str} {h1 h2 : Int} {t1 t2 : Tok} {v1 v2 : Value} {l1 l2 : List DictEntry} {n1 n2 : Nat} (h : a ≠ b) : dictOf (⟨h1, .str a t1, v1⟩ :: l1) n1 ≠ dictOf (⟨h2, .str b t2, v2⟩ :: l2) n2 := by
  intro e
  injection e with _ _ e
  injection e with e
  injection e with e
  injection e with e1 e2
  injection e1 with _ e1
  injection e1 with e1
  exact h e1
theorem bool_no {b : Bool} (h : b = false) (h' : b = true) : False := by rw [h] at h'; cases h'
section
variable {prog : Program} {w : World} {p : Program} {loose : List Str} {mean : ExcName → Option Value} {mg mb : Str → Option Value}
  {dp un : Nat} {gd : Option (List Code)} {cn : Str} {cs : Scope} {a : Addr} {ccd : Value} {cl : List (Str × Addr)} {outer : List Env} {A₀ : Around} {base h₀ : Heap} {L : Addr} {m : Str → Option Value} {s : Shared} {Q E : Value → Shared → Prop}
  {r : RR} {pos : Int} {ta : Tok} {news : List (Addr × Obj)} {news' : Tok → List (Addr × Obj)} {k : Int} {u : Tok}
variable (B : Below A₀ base outer h₀) (F : Fr h₀ L s.heap m) (X : (Mine.kMake.heap_1 w.params).In h₀) (T : Top p loose mean mg mb h₀) (hk : cs.kind = .function) (N : News h₀ L s.heap news) (R : RIn w.params news r pos ta)
include B F X T hk N R
theorem need_ok {wd : Str} {v : Tok} (hd : dp + 5 < recursionLimit) (hw : OneWord wd) (U : ∀ ta', Upd r.dx (r.D w.params pos ta) (r.D w.params (pos + 1) ta') news (news' ta')) (hyes : isWord r.toks pos wd = true)
    (hret1 : ∀ h' tk' ta', Fr h₀ L h' m → News h₀ L h' (news' ta') → RIn w.params (news' ta') r (pos + 1) ta' → Q .none { s with heap := h', toks := tk' }) :
    wpAny (model prog w) (ktrTop dp un gd cn cs L a ccd cl outer) (call (.ref 401) [.ref r.x, .str wd v]) Q E s := by
  w_top off
  have ⟨ix, id, il, it, le, lo⟩ := R
  refine wpAny_call ?_
  k_dflt (refine' code_def ?zk1 ?zk2 ?zk3 ?zk4 ?zk5 ?zkA ?zkF ?zkK ?zk6 ?zk7 ?zk8 ?zk9 ?zkB ?_ ?zc2 ?zc3 ?zc4 ?zc5; (case zkA => exact rfl); (case zkF => exact rfl); (case zkK => assumption); (case zk1 => k_asm); (case zk2 => k_asm); (case zk3 => k_asm); (case zk4 => k_asm); (case zk5 => k_asm); (case zk6 => k_is); (case zk7 => k_is); (case zk8 => ktr_room); (case zk9 => first | exact BindsTo.of_eq rfl | exact binds_K (by k_in) rfl (by k_is) rfl rfl rfl); (case zc5 => decide); (case zkB => exact locs rfl); (case zc2 => exact rfl); (case zc3 => exact rfl); (case zc4 => exact rfl); k_whole; intro _ _ _ _ _ _ _ _ _; (try dsimp only); (try k_fold))
  repeat' (first | (((with_reducible show wpAny _ _ (call (Value.ref 394) [Value.ref _, _]) _ _ _); k_dflt (refine' skip1 ?zb ?zf ?zx ?zt ?zhk ?zn ?zr ?zd ?zo ?zu ?_ ?_; (case zb => k_asm); (case zf => k_asm); (case zx => k_asm); (case zt => k_asm); (case zhk => first | exact rfl | assumption); (case zn => k_asm); (case zr => k_intsEnd); (case zd => ktr_room); (case zo => first | assumption | exact ⟨by decide +kernel, by decide +kernel⟩); (case zu => intro ta9ζ; k_upd); k_whole); (all_goals intros); (all_goals (try k_sweep)))) | (k_unfold; (try dsimp only)) | (k_end; kc_close) | walk1 | (dsimp only; walk1) | (leave1; (try dsimp only)))
  · exact (need_no (by assumption) hyes).elim
  · exact hret1 _ _ _ (by k_asm) (by first | k_asm | exact cb_drop (by k_asm) (fun _ hp => List.Mem.tail _ hp) | exact cb_drop (by k_asm) (fun _ hp => List.Mem.tail _ (List.Mem.tail _ hp)) | exact cb_drop (by k_asm) (fun _ hp => List.Mem.tail _ (List.Mem.tail _ (List.Mem.tail _ hp)))) (by assumption)
theorem is_sign1 {sg : Str} {v : Tok} (hd : dp + 3 < recursionLimit)
    (hret0 : ∀ h' tk', Fr h₀ L h' m → News h₀ L h' news → Q (.bool (isSign r.toks pos 0 sg)) { s with heap := h', toks := tk' }) :
    wpAny (model prog w) (ktrTop dp un gd cn cs L a ccd cl outer) (call (.ref 445) [.ref r.x, .str sg v]) Q E s := by
  w_top off
  have ⟨ix, id, il, it, le, lo⟩ := R
  refine wpAny_call ?_
  k_dflt (refine' code_def ?zk1 ?zk2 ?zk3 ?zk4 ?zk5 ?zkA ?zkF ?zkK ?zk6 ?zk7 ?zk8 ?zk9 ?zkB ?_ ?zc2 ?zc3 ?zc4 ?zc5; (case zkA => exact rfl); (case zkF => exact rfl); (case zkK => assumption); (case zk1 => k_asm); (case zk2 => k_asm); (case zk3 => k_asm); (case zk4 => k_asm); (case zk5 => k_asm); (case zk6 => k_is); (case zk7 => k_is); (case zk8 => ktr_room); (case zk9 => first | exact BindsTo.of_eq rfl | exact binds_K (by k_in) rfl (by k_is) rfl rfl rfl); (case zc5 => decide); (case zkB => exact locs rfl); (case zc2 => exact rfl); (case zc3 => exact rfl); (case zc4 => exact rfl); k_whole; intro _ _ _ _ _ _ _ _ _; (try dsimp only); (try k_fold))
  repeat' (first | (((with_reducible show wpAny _ _ (call (Value.ref 380) [Value.ref _, _, _]) _ _ _); k_dflt (refine' is_kind2 ?zb ?zf ?zx ?zt ?zhk ?zn ?zr ?zd ?zz ?_; (case zb => k_asm); (case zf => k_asm); (case zx => k_asm); (case zt => k_asm); (case zhk => first | exact rfl | assumption); (case zn => k_asm); (case zr => k_intsEnd); (case zd => ktr_room); (case zz => first | decide | omega); k_whole); (all_goals intros); (all_goals (try k_sweep)))) | (((with_reducible show wpAny _ _ (call (Value.ref 351) [Value.ref _, _]) _ _ _); k_dflt (refine' peek1 ?zb ?zf ?zx ?zt ?zhk ?zn ?zr ?zd ?zz ?_ ?_; (case zb => k_asm); (case zf => k_asm); (case zx => k_asm); (case zt => k_asm); (case zhk => first | exact rfl | assumption); (case zn => k_asm); (case zr => k_intsEnd); (case zd => ktr_room); (case zz => first | decide | omega); k_whole); (all_goals intros); (all_goals (try k_sweep)))) | (k_unfold; (try dsimp only)) | (k_end; kc_close) | walk1 | (dsimp only; walk1) | (leave1; (try dsimp only)))
  · exact (kind_no (by assumption) (by assumption)).elim
  · rw [isSign_yes (by assumption) (by assumption)] at hret0; exact hret0 _ _ (by k_asm) (by first | k_asm | exact cb_drop (by k_asm) (fun _ hp => List.Mem.tail _ hp) | exact cb_drop (by k_asm) (fun _ hp => List.Mem.tail _ (List.Mem.tail _ hp)) | exact cb_drop (by k_asm) (fun _ hp => List.Mem.tail _ (List.Mem.tail _ (List.Mem.tail _ hp))))
  · rename_i h9 _ _ _ _
    rw [isSign_no h9] at hret0; rw [h9]; exact hret0 _ _ (by k_asm) (by first | k_asm | exact cb_drop (by k_asm) (fun _ hp => List.Mem.tail _ hp) | exact cb_drop (by k_asm) (fun _ hp => List.Mem.tail _ (List.Mem.tail _ hp)) | exact cb_drop (by k_asm) (fun _ hp => List.Mem.tail _ (List.Mem.tail _ (List.Mem.tail _ hp))))
theorem is_sign2 {sg : Str} {v : Tok} (hd : dp + 3 < recursionLimit) (hk0 : 0 ≤ k)
    (hret0 : ∀ h' tk', Fr h₀ L h' m → News h₀ L h' news → Q (.bool (isSign r.toks pos k sg)) { s with heap := h', toks := tk' }) :
    wpAny (model prog w) (ktrTop dp un gd cn cs L a ccd cl outer) (call (.ref 445) [.ref r.x, .str sg v, .int k u]) Q E s := by
  w_top off
  have ⟨ix, id, il, it, le, lo⟩ := R
  refine wpAny_call ?_
  k_dflt (refine' code_def ?zk1 ?zk2 ?zk3 ?zk4 ?zk5 ?zkA ?zkF ?zkK ?zk6 ?zk7 ?zk8 ?zk9 ?zkB ?_ ?zc2 ?zc3 ?zc4 ?zc5; (case zkA => exact rfl); (case zkF => exact rfl); (case zkK => assumption); (case zk1 => k_asm); (case zk2 => k_asm); (case zk3 => k_asm); (case zk4 => k_asm); (case zk5 => k_asm); (case zk6 => k_is); (case zk7 => k_is); (case zk8 => ktr_room); (case zk9 => first | exact BindsTo.of_eq rfl | exact binds_K (by k_in) rfl (by k_is) rfl rfl rfl); (case zc5 => decide); (case zkB => exact locs rfl); (case zc2 => exact rfl); (case zc3 => exact rfl); (case zc4 => exact rfl); k_whole; intro _ _ _ _ _ _ _ _ _; (try dsimp only); (try k_fold))
  repeat' (first | (((with_reducible show wpAny _ _ (call (Value.ref 380) [Value.ref _, _, _]) _ _ _); k_dflt (refine' is_kind2 ?zb ?zf ?zx ?zt ?zhk ?zn ?zr ?zd ?zz ?_; (case zb => k_asm); (case zf => k_asm); (case zx => k_asm); (case zt => k_asm); (case zhk => first | exact rfl | assumption); (case zn => k_asm); (case zr => k_intsEnd); (case zd => ktr_room); (case zz => first | decide | omega); k_whole); (all_goals intros); (all_goals (try k_sweep)))) | (((with_reducible show wpAny _ _ (call (Value.ref 351) [Value.ref _, _]) _ _ _); k_dflt (refine' peek1 ?zb ?zf ?zx ?zt ?zhk ?zn ?zr ?zd ?zz ?_ ?_; (case zb => k_asm); (case zf => k_asm); (case zx => k_asm); (case zt => k_asm); (case zhk => first | exact rfl | assumption); (case zn => k_asm); (case zr => k_intsEnd); (case zd => ktr_room); (case zz => first | decide | omega); k_whole); (all_goals intros); (all_goals (try k_sweep)))) | (k_unfold; (try dsimp only)) | (k_end; kc_close) | walk1 | (dsimp only; walk1) | (leave1; (try dsimp only)))
  · exact (kind_no (by assumption) (by assumption)).elim
  · rw [isSign_yes (by assumption) (by assumption)] at hret0; exact hret0 _ _ (by k_asm) (by first | k_asm | exact cb_drop (by k_asm) (fun _ hp => List.Mem.tail _ hp) | exact cb_drop (by k_asm) (fun _ hp => List.Mem.tail _ (List.Mem.tail _ hp)) | exact cb_drop (by k_asm) (fun _ hp => List.Mem.tail _ (List.Mem.tail _ (List.Mem.tail _ hp))))
  · rename_i h9 _ _ _ _
    rw [isSign_no h9] at hret0; rw [h9]; exact hret0 _ _ (by k_asm) (by first | k_asm | exact cb_drop (by k_asm) (fun _ hp => List.Mem.tail _ hp) | exact cb_drop (by k_asm) (fun _ hp => List.Mem.tail _ (List.Mem.tail _ hp)) | exact cb_drop (by k_asm) (fun _ hp => List.Mem.tail _ (List.Mem.tail _ (List.Mem.tail _ hp))))
theorem skip_sign1 {sg : Str} {v : Tok} (hd : dp + 4 < recursionLimit) (U : ∀ ta', Upd r.dx (r.D w.params pos ta) (r.D w.params (pos + 1) ta') news (news' ta'))
    (hret0 : isSign r.toks pos 0 sg = false → ∀ h' tk', Fr h₀ L h' m → News h₀ L h' news → Q (.bool false) { s with heap := h', toks := tk' })
    (hret1 : isSign r.toks pos 0 sg = true → ∀ h' tk' ta', Fr h₀ L h' m → News h₀ L h' (news' ta') → RIn w.params (news' ta') r (pos + 1) ta' → Q (.bool true) { s with heap := h', toks := tk' }) :
    wpAny (model prog w) (ktrTop dp un gd cn cs L a ccd cl outer) (call (.ref 452) [.ref r.x, .str sg v]) Q E s := by
  w_top off
  have ⟨ix, id, il, it, le, lo⟩ := R
  refine wpAny_call ?_
  k_dflt (refine' code_def ?zk1 ?zk2 ?zk3 ?zk4 ?zk5 ?zkA ?zkF ?zkK ?zk6 ?zk7 ?zk8 ?zk9 ?zkB ?_ ?zc2 ?zc3 ?zc4 ?zc5; (case zkA => exact rfl); (case zkF => exact rfl); (case zkK => assumption); (case zk1 => k_asm); (case zk2 => k_asm); (case zk3 => k_asm); (case zk4 => k_asm); (case zk5 => k_asm); (case zk6 => k_is); (case zk7 => k_is); (case zk8 => ktr_room); (case zk9 => first | exact BindsTo.of_eq rfl | exact binds_K (by k_in) rfl (by k_is) rfl rfl rfl); (case zc5 => decide); (case zkB => exact locs rfl); (case zc2 => exact rfl); (case zc3 => exact rfl); (case zc4 => exact rfl); k_whole; intro _ _ _ _ _ _ _ _ _; (try dsimp only); (try k_fold))
  repeat' (first | (((with_reducible show wpAny _ _ (call (Value.ref 445) [Value.ref _, _]) _ _ _); k_dflt (refine' is_sign1 ?zb ?zf ?zx ?zt ?zhk ?zn ?zr ?zd ?_; (case zb => k_asm); (case zf => k_asm); (case zx => k_asm); (case zt => k_asm); (case zhk => first | exact rfl | assumption); (case zn => k_asm); (case zr => k_intsEnd); (case zd => ktr_room); k_whole); (all_goals intros); (all_goals (try k_sweep)))) | (k_unfold; (try dsimp only)) | (k_end; kc_close) | walk1 | (dsimp only; walk1) | (leave1; (try dsimp only)))
  · exact hret1 (by assumption) _ _ _ (by k_asm) (by first | k_asm | exact cb_drop (by k_asm) (fun _ hp => List.Mem.tail _ hp) | exact cb_drop (by k_asm) (fun _ hp => List.Mem.tail _ (List.Mem.tail _ hp)) | exact cb_drop (by k_asm) (fun _ hp => List.Mem.tail _ (List.Mem.tail _ (List.Mem.tail _ hp)))) (R.upd (U _) (by omega))
  · exact hret0 (by assumption) _ _ (by k_asm) (by first | k_asm | exact cb_drop (by k_asm) (fun _ hp => List.Mem.tail _ hp) | exact cb_drop (by k_asm) (fun _ hp => List.Mem.tail _ (List.Mem.tail _ hp)) | exact cb_drop (by k_asm) (fun _ hp => List.Mem.tail _ (List.Mem.tail _ (List.Mem.tail _ hp))))
theorem take_ok {t : TR} (hd : dp + 2 < recursionLimit) (U : ∀ ta', Upd r.dx (r.D w.params pos ta) (r.D w.params (pos + 1) ta') news (news' ta')) (ht : tokAt r.toks pos 0 = some t)
    (hret1 : ∀ h' tk' ta', Fr h₀ L h' m → News h₀ L h' (news' ta') → RIn w.params (news' ta') r (pos + 1) ta' → (t.a, instObj 312 t.d) ∈ news' ta' → (t.d, dictOf (t.es w.params) 4) ∈ news' ta' → (t.p, t.pair) ∈ news' ta' → Q (.ref t.a) { s with heap := h', toks := tk' }) :
    wpAny (model prog w) (ktrTop dp un gd cn cs L a ccd cl outer) (call (.ref 372) [.ref r.x]) Q E s := by
  w_top off
  have ⟨ix, id, il, it, le, lo⟩ := R
  refine wpAny_call ?_
  k_dflt (refine' code_def ?zk1 ?zk2 ?zk3 ?zk4 ?zk5 ?zkA ?zkF ?zkK ?zk6 ?zk7 ?zk8 ?zk9 ?zkB ?_ ?zc2 ?zc3 ?zc4 ?zc5; (case zkA => exact rfl); (case zkF => exact rfl); (case zkK => assumption); (case zk1 => k_asm); (case zk2 => k_asm); (case zk3 => k_asm); (case zk4 => k_asm); (case zk5 => k_asm); (case zk6 => k_is); (case zk7 => k_is); (case zk8 => ktr_room); (case zk9 => first | exact BindsTo.of_eq rfl | exact binds_K (by k_in) rfl (by k_is) rfl rfl rfl); (case zc5 => decide); (case zkB => exact locs rfl); (case zc2 => exact rfl); (case zc3 => exact rfl); (case zc4 => exact rfl); k_whole; intro _ _ _ _ _ _ _ _ _; (try dsimp only); (try k_fold))
  repeat' (first | (((with_reducible show wpAny _ _ (call (Value.ref 351) _ _) _ _ _); (k_dflt show wpAny _ _ (call (Value.ref 351) [Value.ref _]) _ _ _); k_dflt (refine' peek0k ?zb ?zf ?zx ?zt ?zhk ?zn ?zr ?zd ?zht ?_; (case zb => k_asm); (case zf => k_asm); (case zx => k_asm); (case zt => k_asm); (case zhk => first | exact rfl | assumption); (case zn => k_asm); (case zr => k_intsEnd); (case zd => ktr_room); (case zht => assumption); k_whole); (all_goals intros); (all_goals (try k_sweep)))) | (k_unfold; (try dsimp only)) | (k_end; kc_close) | walk1 | (dsimp only; walk1) | (leave1; (try dsimp only)))
  · exact hret1 _ _ _ (by k_asm) (by first | k_asm | exact cb_drop (by k_asm) (fun _ hp => List.Mem.tail _ hp) | exact cb_drop (by k_asm) (fun _ hp => List.Mem.tail _ (List.Mem.tail _ hp)) | exact cb_drop (by k_asm) (fun _ hp => List.Mem.tail _ (List.Mem.tail _ (List.Mem.tail _ hp)))) (R.upd (U _) (by omega)) (upd_keep (U _) (by assumption : (_, instObj 312 _) ∈ news) (obj_ne (by simp))) (upd_keep (U _) (by assumption : (_, dictOf (TR.es w.params _) 4) ∈ news) (dict_ne (by decide +kernel))) (upd_keep (U _) (by assumption : (_, TR.pair _) ∈ news) (obj_ne (by simp)))
omit N R in
theorem not_res {x : Str} {v : Tok} (hd : dp + 1 < recursionLimit) (N : News h₀ L s.heap news) (hx : NotRes x) 
    (hret0 : ∀ h' tk', Fr h₀ L h' m → News h₀ L h' news → Q (.bool false) { s with heap := h', toks := tk' }) :
    wpAny (model prog w) (ktrTop dp un gd cn cs L a ccd cl outer) (call (.ref 323) [.str x v]) Q E s := by
  w_top off
  rcases hx with rfl | rfl | rfl | rfl | rfl
  all_goals (
    refine wpAny_call ?_
    k_dflt (refine' code_def ?zk1 ?zk2 ?zk3 ?zk4 ?zk5 ?zkA ?zkF ?zkK ?zk6 ?zk7 ?zk8 ?zk9 ?zkB ?_ ?zc2 ?zc3 ?zc4 ?zc5; (case zkA => exact rfl); (case zkF => exact rfl); (case zkK => assumption); (case zk1 => k_asm); (case zk2 => k_asm); (case zk3 => k_asm); (case zk4 => k_asm); (case zk5 => k_asm); (case zk6 => k_is); (case zk7 => k_is); (case zk8 => ktr_room); (case zk9 => first | exact BindsTo.of_eq rfl | exact binds_K (by k_in) rfl (by k_is) rfl rfl rfl); (case zc5 => decide); (case zkB => exact locs rfl); (case zc2 => exact rfl); (case zc3 => exact rfl); (case zc4 => exact rfl); k_whole; intro _ _ _ _ _ _ _ _ _; (try dsimp only); (try k_fold))
    repeat' (first | (k_unfold; (try dsimp only)) | (k_end; kc_close) | walk1 | (dsimp only; walk1) | (leave1; (try dsimp only)))
    refine q_nores (by k_qdec) (by exact rfl) (hret0 _ _ (by k_asm) (by first | k_asm | exact cb_drop (by k_asm) (fun _ hp => List.Mem.tail _ hp) | exact cb_drop (by k_asm) (fun _ hp => List.Mem.tail _ (List.Mem.tail _ hp)) | exact cb_drop (by k_asm) (fun _ hp => List.Mem.tail _ (List.Mem.tail _ (List.Mem.tail _ hp))))))
theorem is_name0 {t : TR} (hd : dp + 3 < recursionLimit) (ht : tokAt r.toks pos 0 = some t) (hkw : t.k = "word") (hw : NotRes t.w)
    (hret1 : ∀ h' tk', Fr h₀ L h' m → News h₀ L h' news → Q (.bool true) { s with heap := h', toks := tk' }) :
    wpAny (model prog w) (ktrTop dp un gd cn cs L a ccd cl outer) (call (.ref 423) [.ref r.x]) Q E s := by
  w_top off
  have ⟨ix, id, il, it, le, lo⟩ := R
  refine wpAny_call ?_
  k_dflt (refine' code_def ?zk1 ?zk2 ?zk3 ?zk4 ?zk5 ?zkA ?zkF ?zkK ?zk6 ?zk7 ?zk8 ?zk9 ?zkB ?_ ?zc2 ?zc3 ?zc4 ?zc5; (case zkA => exact rfl); (case zkF => exact rfl); (case zkK => assumption); (case zk1 => k_asm); (case zk2 => k_asm); (case zk3 => k_asm); (case zk4 => k_asm); (case zk5 => k_asm); (case zk6 => k_is); (case zk7 => k_is); (case zk8 => ktr_room); (case zk9 => first | exact BindsTo.of_eq rfl | exact binds_K (by k_in) rfl (by k_is) rfl rfl rfl); (case zc5 => decide); (case zkB => exact locs rfl); (case zc2 => exact rfl); (case zc3 => exact rfl); (case zc4 => exact rfl); k_whole; intro _ _ _ _ _ _ _ _ _; (try dsimp only); (try k_fold))
  repeat' (first | (((with_reducible show wpAny _ _ (call (Value.ref 323) _ _) _ _ _); (k_dflt show wpAny _ _ (call (Value.ref 323) [Value.str _ _]) _ _ _); k_dflt (refine' not_res ?zb ?zf ?zx ?zt ?zhk ?zd ?zn ?zy ?_; (case zb => k_asm); (case zf => k_asm); (case zx => k_asm); (case zt => k_asm); (case zhk => first | exact rfl | assumption); (case zn => k_asm); (case zd => ktr_room); (case zy => assumption); k_whole); (all_goals intros); (all_goals (try k_sweep)))) | (((with_reducible show wpAny _ _ (call (Value.ref 380) [Value.ref _, _, _]) _ _ _); k_dflt (refine' is_kind2 ?zb ?zf ?zx ?zt ?zhk ?zn ?zr ?zd ?zz ?_; (case zb => k_asm); (case zf => k_asm); (case zx => k_asm); (case zt => k_asm); (case zhk => first | exact rfl | assumption); (case zn => k_asm); (case zr => k_intsEnd); (case zd => ktr_room); (case zz => first | decide | omega); k_whole); (all_goals intros); (all_goals (try k_sweep)))) | (((with_reducible show wpAny _ _ (call (Value.ref 351) [Value.ref _, _]) _ _ _); k_dflt (refine' peek1k ?zb ?zf ?zx ?zt ?zhk ?zn ?zr ?zd ?zz ?zht ?_; (case zb => k_asm); (case zf => k_asm); (case zx => k_asm); (case zt => k_asm); (case zhk => first | exact rfl | assumption); (case zn => k_asm); (case zr => k_intsEnd); (case zd => ktr_room); (case zz => first | decide | omega); (case zht => assumption); k_whole); (all_goals intros); (all_goals (try k_sweep)))) | (k_unfold; (try dsimp only)) | (k_end; kc_close) | walk1 | (dsimp only; walk1) | (leave1; (try dsimp only)))
  · exact hret1 _ _ (by k_asm) (by first | k_asm | exact cb_drop (by k_asm) (fun _ hp => List.Mem.tail _ hp) | exact cb_drop (by k_asm) (fun _ hp => List.Mem.tail _ (List.Mem.tail _ hp)) | exact cb_drop (by k_asm) (fun _ hp => List.Mem.tail _ (List.Mem.tail _ (List.Mem.tail _ hp))))
  · exact (kind_no2 (by assumption) ht hkw).elim
end
-- C4
section
variable {prog : Program} {w : World} {p : Program} {loose : List Str} {mean : ExcName → Option Value} {mg mb : Str → Option Value}
  {dp un : Nat} {gd : Option (List Code)} {cn : Str} {cs : Scope} {a : Addr} {ccd : Value} {cl : List (Str × Addr)} {outer : List Env} {A₀ : Around} {base h₀ : Heap} {L : Addr} {m : Str → Option Value} {s : Shared} {Q E : Value → Shared → Prop}
  {r : RR} {pos : Int} {ta : Tok} {news : List (Addr × Obj)} {news' : Tok → List (Addr × Obj)} {k : Int} {u : Tok}
variable (B : Below A₀ base outer h₀) (F : Fr h₀ L s.heap m) (X : (Mine.kMake.heap_1 w.params).In h₀) (T : Top p loose mean mg mb h₀) (hk : cs.kind = .function) (N : News h₀ L s.heap news) (R : RIn w.params news r pos ta)
include B F X T hk N R
theorem name_ok {t : TR} (hd : dp + 4 < recursionLimit) (U : ∀ ta', Upd r.dx (r.D w.params pos ta) (r.D w.params (pos + 1) ta') news (news' ta')) (ht : tokAt r.toks pos 0 = some t) (hkw : t.k = "word") (hw : NotRes t.w)
    (hret1 : ∀ h' tk' ta', Fr h₀ L h' m → News h₀ L h' (news' ta') → RIn w.params (news' ta') r (pos + 1) ta' → Q (.str t.w t.t3) { s with heap := h', toks := tk' }) :
    wpAny (model prog w) (ktrTop dp un gd cn cs L a ccd cl outer) (call (.ref 430) [.ref r.x]) Q E s := by
  w_top off
  have ⟨ix, id, il, it, le, lo⟩ := R
  refine wpAny_call ?_
  k_dflt (refine' code_def ?zk1 ?zk2 ?zk3 ?zk4 ?zk5 ?zkA ?zkF ?zkK ?zk6 ?zk7 ?zk8 ?zk9 ?zkB ?_ ?zc2 ?zc3 ?zc4 ?zc5; (case zkA => exact rfl); (case zkF => exact rfl); (case zkK => assumption); (case zk1 => k_asm); (case zk2 => k_asm); (case zk3 => k_asm); (case zk4 => k_asm); (case zk5 => k_asm); (case zk6 => k_is); (case zk7 => k_is); (case zk8 => ktr_room); (case zk9 => first | exact BindsTo.of_eq rfl | exact binds_K (by k_in) rfl (by k_is) rfl rfl rfl); (case zc5 => decide); (case zkB => exact locs rfl); (case zc2 => exact rfl); (case zc3 => exact rfl); (case zc4 => exact rfl); k_whole; intro _ _ _ _ _ _ _ _ _; (try dsimp only); (try k_fold))
  repeat' (first | (((with_reducible show wpAny _ _ (call (Value.ref 372) _ _) _ _ _); (k_dflt show wpAny _ _ (call (Value.ref 372) [Value.ref _]) _ _ _); k_dflt (refine' take_ok ?zb ?zf ?zx ?zt ?zhk ?zn ?zr ?zd ?zu ?zq1 ?_; (case zb => k_asm); (case zf => k_asm); (case zx => k_asm); (case zt => k_asm); (case zhk => first | exact rfl | assumption); (case zn => k_asm); (case zr => k_intsEnd); (case zd => ktr_room); (case zu => intro ta9ζ; k_upd); (case zq1 => assumption); k_whole); (all_goals intros); (all_goals (try k_sweep)))) | (((with_reducible show wpAny _ _ (call (Value.ref 423) _ _) _ _ _); (k_dflt show wpAny _ _ (call (Value.ref 423) [Value.ref _]) _ _ _); k_dflt (refine' is_name0 ?zb ?zf ?zx ?zt ?zhk ?zn ?zr ?zd ?zq1 ?zq2 ?zq3 ?_; (case zb => k_asm); (case zf => k_asm); (case zx => k_asm); (case zt => k_asm); (case zhk => first | exact rfl | assumption); (case zn => k_asm); (case zr => k_intsEnd); (case zd => ktr_room); (case zq1 => assumption); (case zq2 => assumption); (case zq3 => assumption); k_whole); (all_goals intros); (all_goals (try k_sweep)))) | (k_unfold; (try dsimp only)) | (k_end; kc_close) | walk1 | (dsimp only; walk1) | (leave1; (try dsimp only)))
  · exact hret1 _ _ _ (by k_asm) (by first | k_asm | exact cb_drop (by k_asm) (fun _ hp => List.Mem.tail _ hp) | exact cb_drop (by k_asm) (fun _ hp => List.Mem.tail _ (List.Mem.tail _ hp)) | exact cb_drop (by k_asm) (fun _ hp => List.Mem.tail _ (List.Mem.tail _ (List.Mem.tail _ hp)))) (by assumption)
theorem need_sign_ok {sg : Str} {v : Tok} (hd : dp + 5 < recursionLimit) (U : ∀ ta', Upd r.dx (r.D w.params pos ta) (r.D w.params (pos + 1) ta') news (news' ta')) (hyes : isSign r.toks pos 0 sg = true)
    (hret1 : ∀ h' tk' ta', Fr h₀ L h' m → News h₀ L h' (news' ta') → RIn w.params (news' ta') r (pos + 1) ta' → Q .none { s with heap := h', toks := tk' }) :
    wpAny (model prog w) (ktrTop dp un gd cn cs L a ccd cl outer) (call (.ref 459) [.ref r.x, .str sg v]) Q E s := by
  w_top off
  have ⟨ix, id, il, it, le, lo⟩ := R
  refine wpAny_call ?_
  k_dflt (refine' code_def ?zk1 ?zk2 ?zk3 ?zk4 ?zk5 ?zkA ?zkF ?zkK ?zk6 ?zk7 ?zk8 ?zk9 ?zkB ?_ ?zc2 ?zc3 ?zc4 ?zc5; (case zkA => exact rfl); (case zkF => exact rfl); (case zkK => assumption); (case zk1 => k_asm); (case zk2 => k_asm); (case zk3 => k_asm); (case zk4 => k_asm); (case zk5 => k_asm); (case zk6 => k_is); (case zk7 => k_is); (case zk8 => ktr_room); (case zk9 => first | exact BindsTo.of_eq rfl | exact binds_K (by k_in) rfl (by k_is) rfl rfl rfl); (case zc5 => decide); (case zkB => exact locs rfl); (case zc2 => exact rfl); (case zc3 => exact rfl); (case zc4 => exact rfl); k_whole; intro _ _ _ _ _ _ _ _ _; (try dsimp only); (try k_fold))
  repeat' (first | (((with_reducible show wpAny _ _ (call (Value.ref 452) [Value.ref _, _]) _ _ _); k_dflt (refine' skip_sign1 ?zb ?zf ?zx ?zt ?zhk ?zn ?zr ?zd ?zu ?_ ?_; (case zb => k_asm); (case zf => k_asm); (case zx => k_asm); (case zt => k_asm); (case zhk => first | exact rfl | assumption); (case zn => k_asm); (case zr => k_intsEnd); (case zd => ktr_room); (case zu => intro ta9ζ; k_upd); k_whole); (all_goals intros); (all_goals (try k_sweep)))) | (k_unfold; (try dsimp only)) | (k_end; kc_close) | walk1 | (dsimp only; walk1) | (leave1; (try dsimp only)))
  · exact (bool_no (by assumption) hyes).elim
  · exact hret1 _ _ _ (by k_asm) (by first | k_asm | exact cb_drop (by k_asm) (fun _ hp => List.Mem.tail _ hp) | exact cb_drop (by k_asm) (fun _ hp => List.Mem.tail _ (List.Mem.tail _ hp)) | exact cb_drop (by k_asm) (fun _ hp => List.Mem.tail _ (List.Mem.tail _ (List.Mem.tail _ hp)))) (by assumption)
theorem one_of2 {v : Tok} (hd : dp + 5 < recursionLimit) (U : ∀ ta', Upd r.dx (r.D w.params pos ta) (r.D w.params (pos + 1) ta') news (news' ta'))
    (hret0 : isWord r.toks pos ⟨#[79, 70]⟩ = false → isWord r.toks pos ⟨#[73, 78]⟩ = false → ∀ h' tk' t', Fr h₀ L h' m → News h₀ L h' news → Q (.str "" t') { s with heap := h', toks := tk' })
    (hret1 : isWord r.toks pos ⟨#[79, 70]⟩ = true → ∀ h' tk' ta' t', Fr h₀ L h' m → News h₀ L h' (news' ta') → RIn w.params (news' ta') r (pos + 1) ta' → Q (.str ⟨#[79, 70]⟩ t') { s with heap := h', toks := tk' })
    (hret2 : isWord r.toks pos ⟨#[79, 70]⟩ = false → isWord r.toks pos ⟨#[73, 78]⟩ = true → ∀ h' tk' ta' t', Fr h₀ L h' m → News h₀ L h' (news' ta') → RIn w.params (news' ta') r (pos + 1) ta' → Q (.str ⟨#[73, 78]⟩ t') { s with heap := h', toks := tk' }) :
    wpAny (model prog w) (ktrTop dp un gd cn cs L a ccd cl outer) (call (.ref 408) [.ref r.x, .str "OF IN" v]) Q E s := by
  w_top off
  have ⟨ix, id, il, it, le, lo⟩ := R
  refine wpAny_call ?_
  k_dflt (refine' code_def ?zk1 ?zk2 ?zk3 ?zk4 ?zk5 ?zkA ?zkF ?zkK ?zk6 ?zk7 ?zk8 ?zk9 ?zkB ?_ ?zc2 ?zc3 ?zc4 ?zc5; (case zkA => exact rfl); (case zkF => exact rfl); (case zkK => assumption); (case zk1 => k_asm); (case zk2 => k_asm); (case zk3 => k_asm); (case zk4 => k_asm); (case zk5 => k_asm); (case zk6 => k_is); (case zk7 => k_is); (case zk8 => ktr_room); (case zk9 => first | exact BindsTo.of_eq rfl | exact binds_K (by k_in) rfl (by k_is) rfl rfl rfl); (case zc5 => decide); (case zkB => exact locs rfl); (case zc2 => exact rfl); (case zc3 => exact rfl); (case zc4 => exact rfl); k_whole; intro _ _ _ _ _ _ _ _ _; (try dsimp only); (try k_fold))
  repeat' (first | (((with_reducible show wpAny _ _ (pyIter (Value.ref _)) (fun it s₂ => LoopAtV _ _ _ _ _ _ _ _ _ it s₂) _ _); (with_unfolding_all refine' iter_listUnr ?zhh ?zf ?zn ?zm ?zc ?zd ?_; (case zhh => exact rfl); (case zf => k_asm); (case zn => k_asm); (case zm => first | exact List.Mem.head _ | exact List.Mem.tail _ (List.Mem.head _)); (case zc => exact rfl); (case zd => exact rfl)); intro i9ζ l9ζ)) | (((with_reducible show wpAny _ _ (call (Value.ref 394) [Value.ref _, _]) _ _ _); k_dflt (refine' skip1 ?zb ?zf ?zx ?zt ?zhk ?zn ?zr ?zd ?zo ?zu ?_ ?_; (case zb => k_asm); (case zf => k_asm); (case zx => k_asm); (case zt => k_asm); (case zhk => first | exact rfl | assumption); (case zn => k_asm); (case zr => k_intsEnd); (case zd => ktr_room); (case zo => first | assumption | exact ⟨by decide +kernel, by decide +kernel⟩); (case zu => intro ta9ζ; k_upd); k_whole); (all_goals intros); (all_goals (try k_sweep)))) | ((with_reducible show UnrEnd _ _ _ _ _ _ _); ((refine' UnrEnd.intro ?zf ?zn _ (fun _ hp => hp) ?zo ⟨?zm, ?_⟩; (case zf => k_asm); (case zn => k_asm); (case zo => intro p9ζ hp9ζ; exact Nat.ne_of_lt ((by assumption : ∀ p ∈ _, p.1 < _) p9ζ hp9ζ)); (case zm => first | exact List.Mem.head _ | exact List.Mem.tail _ (List.Mem.head _))))) | (k_unfold; (try dsimp only)) | (k_end; kc_close) | walk1 | (dsimp only; walk1) | (leave1; (try dsimp only)))
  · exact hret0 (by assumption) (by assumption) _ _ _ (by k_asm) (by first | k_asm | exact cb_drop (by k_asm) (fun _ hp => List.Mem.tail _ hp) | exact cb_drop (by k_asm) (fun _ hp => List.Mem.tail _ (List.Mem.tail _ hp)) | exact cb_drop (by k_asm) (fun _ hp => List.Mem.tail _ (List.Mem.tail _ (List.Mem.tail _ hp))))
  · exact hret2 (by assumption) (by assumption) _ _ _ _ (by k_asm) (by first | k_asm | exact cb_drop (by k_asm) (fun _ hp => List.Mem.tail _ hp) | exact cb_drop (by k_asm) (fun _ hp => List.Mem.tail _ (List.Mem.tail _ hp)) | exact cb_drop (by k_asm) (fun _ hp => List.Mem.tail _ (List.Mem.tail _ (List.Mem.tail _ hp)))) (R.upd (U _) (by omega))
  · exact hret1 (by assumption) _ _ _ _ (by k_asm) (by first | k_asm | exact cb_drop (by k_asm) (fun _ hp => List.Mem.tail _ hp) | exact cb_drop (by k_asm) (fun _ hp => List.Mem.tail _ (List.Mem.tail _ hp)) | exact cb_drop (by k_asm) (fun _ hp => List.Mem.tail _ (List.Mem.tail _ (List.Mem.tail _ hp)))) (R.upd (U _) (by omega))
end
-- C5
theorem lt1 : Txt.slice (Str.ofString "2") none (some 1) = Str.ofString "2" := by decide +kernel
theorem lt2 : Txt.slice (Str.ofString "2") (some 0) none = Str.ofString "2" := by decide +kernel
theorem lt3 : (Builtin.Str.occurrences (Str.ofString "2") (Str.ofString ".") 0 (Str.ofString "2").length 1).isEmpty = true := by decide +kernel
theorem lt3' : (Builtin.Str.occurrences (Str.ofString "2") (Str.ofString ".") 0 1 1).isEmpty = true := by decide +kernel
theorem lt4 : Str.ofString "2" ++ Str.ofString "" = Str.ofString "2" := by decide +kernel
theorem lt5 : (Str.ofString "2").length = 1 := by decide +kernel
theorem lt6 : (Str.ofString "").length = 0 := by decide +kernel
theorem lt7 : Txt.item (Str.ofString "2") (0 + ((0 : Nat) : Int)) = Str.ofString "2" := by decide +kernel
theorem lt7' : Txt.item (Str.ofString "2") 0 = Str.ofString "2" := by decide +kernel
theorem lt8 : (Builtin.Str.occurrences (Str.ofString "0123456789") (Str.ofString "2") 0 (Str.ofString "0123456789").length 1).isEmpty = false := by decide +kernel
theorem lt9 : (Str.ofString "2" == Str.ofString "+") = false := by decide +kernel
theorem lt10 : (Str.ofString "2" == Str.ofString "-") = false := by decide +kernel
theorem lt11 : (Str.ofString "2" == Str.ofString "") = false := by decide +kernel
theorem lt12 : (Str.ofString "2" = Str.ofString "-") = False := by simp; decide +kernel
theorem off_allLt {I : Addr} {l : List (Addr × Obj)} (h : AllLt I l) (p : Addr × Obj) (hp : p ∈ l) : p.1 ≠ I := Nat.ne_of_lt (ktn_ltOf h p hp)
theorem whl_split {b : Bool} {T F : Prop} (t : b = true → T) (f : b = false → F) : WhlIf b T F := by
  cases b
  · exact WhlIf.no rfl (f rfl)
  · exact WhlIf.yes rfl (t rfl)
theorem lt14 : (0 : Int) * 10 + Txt.find (Str.ofString "0123456789") (Str.ofString "2") = 2 := by decide +kernel
theorem drop_mid2 {q a b : Addr × Obj} {news : List (Addr × Obj)} : ∀ p ∈ q :: news, p ∈ q :: a :: b :: news := fun p hp => by
  rcases List.mem_cons.mp hp with rfl | hp
  · exact .head _
  · exact .tail _ (.tail _ (.tail _ hp))
theorem isSign_some {toks : List TR} {pos k : Int} {sg : Str} {t : TR} (h : tokAt toks pos k = some t) : isSign toks pos k sg = (t.k == ("sign" : Str) && t.w == sg) := by unfold isSign; rw [h]
theorem isWord_some {toks : List TR} {pos : Int} {wd : Str} {t : TR} (h : tokAt toks pos 0 = some t) : isWord toks pos wd = (t.k == ("word" : Str) && t.w == wd) := by unfold isWord isWordK; rw [h]
section
variable {prog : Program} {w : World} {p : Program} {loose : List Str} {mean : ExcName → Option Value} {mg mb : Str → Option Value}
  {dp un : Nat} {gd : Option (List Code)} {cn : Str} {cs : Scope} {a : Addr} {ccd : Value} {cl : List (Str × Addr)} {outer : List Env} {A₀ : Around} {base h₀ : Heap} {L : Addr} {m : Str → Option Value} {s : Shared} {Q E : Value → Shared → Prop}
  {r : RR} {pos : Int} {ta : Tok} {news : List (Addr × Obj)} {news' : Tok → List (Addr × Obj)} {k : Int} {u : Tok}
variable (B : Below A₀ base outer h₀) (F : Fr h₀ L s.heap m) (X : (Mine.kMake.heap_1 w.params).In h₀) (T : Top p loose mean mg mb h₀) (hk : cs.kind = .function) (N : News h₀ L s.heap news) (R : RIn w.params news r pos ta)
include B F X T hk N R
omit N R in
theorem decimal2 {u1 u2 : Tok} (hd : dp + 1 < recursionLimit) (N : News h₀ L s.heap news)
    (hret : ∀ q t1 t2 h' tk', Fr h₀ L h' m → News h₀ L h' ((q, { cls := .type "tuple", data := .seq #[.int 2 t1, .int 0 t2] }) :: news) → (∀ p ∈ news, p.1 < q) → Q (.ref q) { s with heap := h', toks := tk' }) :
    wpAny (model prog w) (ktrTop dp un gd cn cs L a ccd cl outer) (call (.ref 139) [.int 2 u1, .int 0 u2]) Q E s := by
  w_top off
  refine wpAny_call ?_
  k_dflt (refine' code_def ?zk1 ?zk2 ?zk3 ?zk4 ?zk5 ?zkA ?zkF ?zkK ?zk6 ?zk7 ?zk8 ?zk9 ?zkB ?_ ?zc2 ?zc3 ?zc4 ?zc5; (case zkA => exact rfl); (case zkF => exact rfl); (case zkK => assumption); (case zk1 => k_asm); (case zk2 => k_asm); (case zk3 => k_asm); (case zk4 => k_asm); (case zk5 => k_asm); (case zk6 => k_is); (case zk7 => k_is); (case zk8 => ktr_room); (case zk9 => first | exact BindsTo.of_eq rfl | exact binds_K (by k_in) rfl (by k_is) rfl rfl rfl); (case zc5 => decide); (case zkB => exact locs rfl); (case zc2 => exact rfl); (case zc3 => exact rfl); (case zc4 => exact rfl); k_whole; intro _ _ _ _ _ _ _ _ _; (try dsimp only); (try k_fold))
  repeat' (first | (skip; (((with_reducible show wpAny _ _ (pyIter (Value.str _ _)) (fun it s₂ => LoopAtV _ _ _ _ _ _ _ _ _ it s₂) _ _); k_strUnr))) | ((with_reducible show WhlIf _ _ _); ((first | (refine WhlIf.yes (by with_unfolding_all rfl) ?_) | (refine WhlIf.no (by with_unfolding_all rfl) ?_) | (refine WhlIf.yes (by assumption) ?_) | (refine WhlIf.no (by assumption) ?_) | (refine whl_split ?_ ?_ <;> intro)))) | ((with_reducible show wpAny _ _ (exec (Stmt.While _ _ _ _) _) _ _ _); ((k_dflt (refine whl_start 100 ?_)))) | (k_unfold; (try dsimp only)) | (k_end; kc_close) | walk1 | (dsimp only; walk1) | (leave1; (try dsimp only)))
  exact hret _ _ _ _ _ (by k_asm) (by k_asm) (by assumption)
omit N R in
theorem worth2 {u1 : Tok} (hd : dp + 1 < recursionLimit) (N : News h₀ L s.heap news)
    (hret : ∀ t h' tk', Fr h₀ L h' m → News h₀ L h' news → Q (.int 2 t) { s with heap := h', toks := tk' }) :
    wpAny (model prog w) (ktrTop dp un gd cn cs L a ccd cl outer) (call (.ref 174) [.str "2" u1]) Q E s := by
  w_top off
  refine wpAny_call ?_
  k_dflt (refine' code_def ?zk1 ?zk2 ?zk3 ?zk4 ?zk5 ?zkA ?zkF ?zkK ?zk6 ?zk7 ?zk8 ?zk9 ?zkB ?_ ?zc2 ?zc3 ?zc4 ?zc5; (case zkA => exact rfl); (case zkF => exact rfl); (case zkK => assumption); (case zk1 => k_asm); (case zk2 => k_asm); (case zk3 => k_asm); (case zk4 => k_asm); (case zk5 => k_asm); (case zk6 => k_is); (case zk7 => k_is); (case zk8 => ktr_room); (case zk9 => first | exact BindsTo.of_eq rfl | exact binds_K (by k_in) rfl (by k_is) rfl rfl rfl); (case zc5 => decide); (case zkB => exact locs rfl); (case zc2 => exact rfl); (case zc3 => exact rfl); (case zc4 => exact rfl); k_whole; intro _ _ _ _ _ _ _ _ _; (try dsimp only); (try k_fold))
  repeat' (first | (((with_reducible show wpAny _ _ (exec (Stmt.For _ _ _ [] _) _) _ _ _); k_strName; (rename Fr _ _ _ _ => lF'ζ); (with_unfolding_all refine' For_invVF lF'ζ ?zk1 ?zk2 ?_; (case zk1 => exact rfl); (case zk2 => exact rfl); k_whole))) | (skip; (((with_reducible show wpAny _ _ (pyIter (Value.str _ _)) (fun it s₂ => LoopAtV _ _ _ _ _ _ _ _ _ it s₂) _ _); k_strUnr))) | ((with_reducible show UnrEnd _ _ _ _ _ _ _); (first
  | (refine' UnrEnd.intro ?zf ?zn _ (fun _ hp => hp) ?zo ⟨?zm, ?_⟩; (case zf => k_asm); (case zn => k_asm); (case zo => first | exact off_allLt (by assumption) | (intro p9ζ hp9ζ; exact Nat.ne_of_lt ((by assumption : ∀ p ∈ _, p.1 < _) p9ζ hp9ζ))); (case zm => first | exact List.Mem.head _ | exact List.Mem.tail _ (List.Mem.head _)))
  | (refine' UnrEnd.intro ?zf ?zn _ (fun _ hp => hp) ?zo ?_; (case zf => k_asm); (case zn => k_asm); (case zo => first | exact off_allLt (by assumption) | (intro p9ζ hp9ζ; exact Nat.ne_of_lt ((by assumption : ∀ p ∈ _, p.1 < _) p9ζ hp9ζ)))))) | ((with_reducible show UnrEnd _ _ _ _ _ _ _); ((refine' UnrEnd.intro ?zf ?zn _ (fun _ hp => hp) ?zo ⟨?zm, ?_⟩; (case zf => k_asm); (case zn => k_asm); (case zo => intro p9ζ hp9ζ; exact Nat.ne_of_lt ((by assumption : ∀ p ∈ _, p.1 < _) p9ζ hp9ζ)); (case zm => first | exact List.Mem.head _ | exact List.Mem.tail _ (List.Mem.head _))))) | (simp only [lt8]) | (k_unfold; (try dsimp only)) | (k_end; wrow_close) | walk1 | (dsimp only; walk1) | (leave1; walk_say "STEP leave1"; try dsimp only) | fail "no step")
  · exact absurd (by assumption : (Builtin.Str.occurrences (Str.ofString "0123456789") (Str.ofString "2") 0 (Str.ofString "0123456789").length 1).isEmpty = true) (by rw [lt8]; decide)
  · rw [lt14]; exact hret _ _ _ (by k_asm) (by first | k_asm | exact cb_drop (by k_asm) (fun _ hp => List.Mem.tail _ hp) | exact cb_drop (by k_asm) (fun _ hp => List.Mem.tail _ (List.Mem.tail _ hp)) | exact cb_drop (by k_asm) (fun _ hp => List.Mem.tail _ (List.Mem.tail _ (List.Mem.tail _ hp))))
omit N R in
theorem read_dec2 {v : Tok} (hd : dp + 3 < recursionLimit) (N : News h₀ L s.heap news)
    (hret : ∀ q t1 t2 h' tk', Fr h₀ L h' m → News h₀ L h' ((q, { cls := .type "tuple", data := .seq #[.int 2 t1, .int 0 t2] }) :: news) → (∀ p ∈ news, p.1 < q) → Q (.ref q) { s with heap := h', toks := tk' }) :
    wpAny (model prog w) (ktrTop dp un gd cn cs L a ccd cl outer) (call (.ref 181) [.str "2" v]) Q E s := by
  w_top off
  refine wpAny_call ?_
  k_dflt (refine' code_def ?zk1 ?zk2 ?zk3 ?zk4 ?zk5 ?zkA ?zkF ?zkK ?zk6 ?zk7 ?zk8 ?zk9 ?zkB ?_ ?zc2 ?zc3 ?zc4 ?zc5; (case zkA => exact rfl); (case zkF => exact rfl); (case zkK => assumption); (case zk1 => k_asm); (case zk2 => k_asm); (case zk3 => k_asm); (case zk4 => k_asm); (case zk5 => k_asm); (case zk6 => k_is); (case zk7 => k_is); (case zk8 => ktr_room); (case zk9 => first | exact BindsTo.of_eq rfl | exact binds_K (by k_in) rfl (by k_is) rfl rfl rfl); (case zc5 => decide); (case zkB => exact locs rfl); (case zc2 => exact rfl); (case zc3 => exact rfl); (case zc4 => exact rfl); k_whole; intro _ _ _ _ _ _ _ _ _; (try dsimp only); (try k_fold))
  repeat' (first | (((with_reducible show wpAny _ _ (call (Value.ref 174) _ _) _ _ _); (k_dflt show wpAny _ _ (call (Value.ref 174) [_]) _ _ _); k_dflt (refine' worth2 ?zb ?zf ?zx ?zt ?zhk ?zd ?zn ?_; (case zb => k_asm); (case zf => k_asm); (case zx => k_asm); (case zt => k_asm); (case zhk => first | exact rfl | assumption); (case zn => k_asm); (case zd => ktr_room); k_whole); (all_goals intros); (all_goals (try k_sweep)))) | (((with_reducible show wpAny _ _ (call (Value.ref 139) [_, _]) _ _ _); k_dflt (refine' decimal2 ?zb ?zf ?zx ?zt ?zhk ?zd ?zn ?_; (case zb => k_asm); (case zf => k_asm); (case zx => k_asm); (case zt => k_asm); (case zhk => first | exact rfl | assumption); (case zn => k_asm); (case zd => ktr_room); k_whole); (all_goals intros); (all_goals (try k_sweep)))) | (((with_reducible show wpAny _ _ (exec (Stmt.For _ _ _ [] _) _) _ _ _); k_strName; (rename Fr _ _ _ _ => lF'ζ); (with_unfolding_all refine' For_invVF lF'ζ ?zk1 ?zk2 ?_; (case zk1 => exact rfl); (case zk2 => exact rfl); k_whole))) | (skip; (((with_reducible show wpAny _ _ (pyIter (Value.str _ _)) (fun it s₂ => LoopAtV _ _ _ _ _ _ _ _ _ it s₂) _ _); k_strUnr))) | ((with_reducible show UnrEnd _ _ _ _ _ _ _); (first
  | (refine' UnrEnd.intro ?zf ?zn _ (fun _ hp => hp) ?zo ⟨?zm, ?_⟩; (case zf => k_asm); (case zn => k_asm); (case zo => first | exact off_allLt (by assumption) | (intro p9ζ hp9ζ; exact Nat.ne_of_lt ((by assumption : ∀ p ∈ _, p.1 < _) p9ζ hp9ζ))); (case zm => first | exact List.Mem.head _ | exact List.Mem.tail _ (List.Mem.head _)))
  | (refine' UnrEnd.intro ?zf ?zn _ (fun _ hp => hp) ?zo ?_; (case zf => k_asm); (case zn => k_asm); (case zo => first | exact off_allLt (by assumption) | (intro p9ζ hp9ζ; exact Nat.ne_of_lt ((by assumption : ∀ p ∈ _, p.1 < _) p9ζ hp9ζ)))))) | ((with_reducible show UnrEnd _ _ _ _ _ _ _); ((refine' UnrEnd.intro ?zf ?zn _ (fun _ hp => hp) ?zo ⟨?zm, ?_⟩; (case zf => k_asm); (case zn => k_asm); (case zo => intro p9ζ hp9ζ; exact Nat.ne_of_lt ((by assumption : ∀ p ∈ _, p.1 < _) p9ζ hp9ζ)); (case zm => first | exact List.Mem.head _ | exact List.Mem.tail _ (List.Mem.head _))))) | (simp only [lt1, lt2, lt3, lt3', lt4, lt5, lt6, lt7, lt7', lt8, lt9, lt10, lt11, lt12]) | (k_unfold; (try dsimp only)) | (k_end; wrow_close) | walk1 | (dsimp only; walk1) | (leave1; walk_say "STEP leave1"; try dsimp only) | fail "no step")
  all_goals (try (exfalso; omega))
  all_goals (try (exfalso; simp only [lt5] at *; omega))
  exact hret _ _ _ _ _ (by k_asm) (cb_drop (by k_asm) drop_mid2) (fun p hp => (by assumption : ∀ p ∈ _ :: _ :: news, p.1 < _) p (.tail _ (.tail _ hp)))
theorem is_number0 {t : TR} (hd : dp + 4 < recursionLimit) (ht : tokAt r.toks pos 0 = some t) (hkw : t.k = "number")
    (hret1 : ∀ h' tk', Fr h₀ L h' m → News h₀ L h' news → Q (.bool true) { s with heap := h', toks := tk' }) :
    wpAny (model prog w) (ktrTop dp un gd cn cs L a ccd cl outer) (call (.ref 466) [.ref r.x]) Q E s := by
  w_top off
  have h1 : ∀ sg, isSign r.toks pos 0 sg = false := fun sg => by rw [isSign_some ht, hkw]; rfl
  have h2 : isKind r.toks pos 0 "number" = true := by rw [isKind_some ht, hkw]; rfl
  have ⟨ix, id, il, it, le, lo⟩ := R
  refine wpAny_call ?_
  k_dflt (refine' code_def ?zk1 ?zk2 ?zk3 ?zk4 ?zk5 ?zkA ?zkF ?zkK ?zk6 ?zk7 ?zk8 ?zk9 ?zkB ?_ ?zc2 ?zc3 ?zc4 ?zc5; (case zkA => exact rfl); (case zkF => exact rfl); (case zkK => assumption); (case zk1 => k_asm); (case zk2 => k_asm); (case zk3 => k_asm); (case zk4 => k_asm); (case zk5 => k_asm); (case zk6 => k_is); (case zk7 => k_is); (case zk8 => ktr_room); (case zk9 => first | exact BindsTo.of_eq rfl | exact binds_K (by k_in) rfl (by k_is) rfl rfl rfl); (case zc5 => decide); (case zkB => exact locs rfl); (case zc2 => exact rfl); (case zc3 => exact rfl); (case zc4 => exact rfl); k_whole; intro _ _ _ _ _ _ _ _ _; (try dsimp only); (try k_fold))
  repeat' (first | (((with_reducible show wpAny _ _ (call (Value.ref 445) [Value.ref _, _]) _ _ _); k_dflt (refine' is_sign1 ?zb ?zf ?zx ?zt ?zhk ?zn ?zr ?zd ?_; (case zb => k_asm); (case zf => k_asm); (case zx => k_asm); (case zt => k_asm); (case zhk => first | exact rfl | assumption); (case zn => k_asm); (case zr => k_intsEnd); (case zd => ktr_room); k_whole); (all_goals intros); (all_goals (try k_sweep)))) | (((with_reducible show wpAny _ _ (call (Value.ref 380) [Value.ref _, _, _]) _ _ _); k_dflt (refine' is_kind2 ?zb ?zf ?zx ?zt ?zhk ?zn ?zr ?zd ?zz ?_; (case zb => k_asm); (case zf => k_asm); (case zx => k_asm); (case zt => k_asm); (case zhk => first | exact rfl | assumption); (case zn => k_asm); (case zr => k_intsEnd); (case zd => ktr_room); (case zz => first | decide | omega); k_whole); (all_goals intros); (all_goals (try k_sweep)))) | (((with_reducible show wpAny _ _ (call (Value.ref 380) [Value.ref _, _]) _ _ _); k_dflt (refine' is_kind1 ?zb ?zf ?zx ?zt ?zhk ?zn ?zr ?zd ?_; (case zb => k_asm); (case zf => k_asm); (case zx => k_asm); (case zt => k_asm); (case zhk => first | exact rfl | assumption); (case zn => k_asm); (case zr => k_intsEnd); (case zd => ktr_room); k_whole); (all_goals intros); (all_goals (try k_sweep)))) | (k_unfold; (try dsimp only)) | (k_end; kc_close) | walk1 | (dsimp only; walk1) | (leave1; (try dsimp only)))
  · exact (bool_no (h1 _) (by assumption)).elim
  · exact (bool_no (h1 _) (by assumption)).elim
  · rw [h2]; exact hret1 _ _ (by k_asm) (by first | k_asm | exact cb_drop (by k_asm) (fun _ hp => List.Mem.tail _ hp) | exact cb_drop (by k_asm) (fun _ hp => List.Mem.tail _ (List.Mem.tail _ hp)) | exact cb_drop (by k_asm) (fun _ hp => List.Mem.tail _ (List.Mem.tail _ (List.Mem.tail _ hp))))
end
-- C6
section
variable {prog : Program} {w : World} {p : Program} {loose : List Str} {mean : ExcName → Option Value} {mg mb : Str → Option Value}
  {dp un : Nat} {gd : Option (List Code)} {cn : Str} {cs : Scope} {a : Addr} {ccd : Value} {cl : List (Str × Addr)} {outer : List Env} {A₀ : Around} {base h₀ : Heap} {L : Addr} {m : Str → Option Value} {s : Shared} {Q E : Value → Shared → Prop}
  {r : RR} {pos : Int} {ta : Tok} {news : List (Addr × Obj)} {news' : Tok → List (Addr × Obj)} {k : Int} {u : Tok}
variable (B : Below A₀ base outer h₀) (F : Fr h₀ L s.heap m) (X : (Mine.kMake.heap_1 w.params).In h₀) (T : Top p loose mean mg mb h₀) (hk : cs.kind = .function) (N : News h₀ L s.heap news) (R : RIn w.params news r pos ta)
include B F X T hk N R
theorem is_kind1_k {kd : Str} {v : Tok} {b : Bool} (hd : dp + 2 < recursionLimit) (hb : isKind r.toks pos 0 kd = b) (hret0 : ∀ h' tk', Fr h₀ L h' m → News h₀ L h' news → Q (.bool b) { s with heap := h', toks := tk' }) :
    wpAny (model prog w) (ktrTop dp un gd cn cs L a ccd cl outer) (call (.ref 380) [.ref r.x, .str kd v]) Q E s := is_kind1 B F X T hk N R hd (by rw [hb]; exact hret0)
theorem is_kind2_k {kd : Str} {v : Tok} {b : Bool} (hd : dp + 2 < recursionLimit) (hk0 : 0 ≤ k) (hb : isKind r.toks pos k kd = b) (hret0 : ∀ h' tk', Fr h₀ L h' m → News h₀ L h' news → Q (.bool b) { s with heap := h', toks := tk' }) :
    wpAny (model prog w) (ktrTop dp un gd cn cs L a ccd cl outer) (call (.ref 380) [.ref r.x, .str kd v, .int k u]) Q E s := is_kind2 B F X T hk N R hd hk0 (by rw [hb]; exact hret0)
theorem is_sign1_k {sg : Str} {v : Tok} {b : Bool} (hd : dp + 3 < recursionLimit) (hb : isSign r.toks pos 0 sg = b) (hret0 : ∀ h' tk', Fr h₀ L h' m → News h₀ L h' news → Q (.bool b) { s with heap := h', toks := tk' }) :
    wpAny (model prog w) (ktrTop dp un gd cn cs L a ccd cl outer) (call (.ref 445) [.ref r.x, .str sg v]) Q E s := is_sign1 B F X T hk N R hd (by rw [hb]; exact hret0)
theorem is_sign2_k {sg : Str} {v : Tok} {b : Bool} (hd : dp + 3 < recursionLimit) (hk0 : 0 ≤ k) (hb : isSign r.toks pos k sg = b) (hret0 : ∀ h' tk', Fr h₀ L h' m → News h₀ L h' news → Q (.bool b) { s with heap := h', toks := tk' }) :
    wpAny (model prog w) (ktrTop dp un gd cn cs L a ccd cl outer) (call (.ref 445) [.ref r.x, .str sg v, .int k u]) Q E s := is_sign2 B F X T hk N R hd hk0 (by rw [hb]; exact hret0)
theorem is_word1_k {wd : Str} {v : Tok} {b : Bool} (hd : dp + 3 < recursionLimit) (hw : OneWord wd) (hb : isWord r.toks pos wd = b) (hret0 : ∀ h' tk', Fr h₀ L h' m → News h₀ L h' news → Q (.bool b) { s with heap := h', toks := tk' }) :
    wpAny (model prog w) (ktrTop dp un gd cn cs L a ccd cl outer) (call (.ref 387) [.ref r.x, .str wd v]) Q E s := is_word1 B F X T hk N R hd hw (by rw [hb]; exact hret0)
theorem skip_sign_no {sg : Str} {v : Tok} (hd : dp + 4 < recursionLimit) (hno : isSign r.toks pos 0 sg = false) (hret0 : ∀ h' tk', Fr h₀ L h' m → News h₀ L h' news → Q (.bool false) { s with heap := h', toks := tk' }) :
    wpAny (model prog w) (ktrTop dp un gd cn cs L a ccd cl outer) (call (.ref 452) [.ref r.x, .str sg v]) Q E s := by
  w_top off
  have ⟨ix, id, il, it, le, lo⟩ := R
  refine wpAny_call ?_
  k_dflt (refine' code_def ?zk1 ?zk2 ?zk3 ?zk4 ?zk5 ?zkA ?zkF ?zkK ?zk6 ?zk7 ?zk8 ?zk9 ?zkB ?_ ?zc2 ?zc3 ?zc4 ?zc5; (case zkA => exact rfl); (case zkF => exact rfl); (case zkK => assumption); (case zk1 => k_asm); (case zk2 => k_asm); (case zk3 => k_asm); (case zk4 => k_asm); (case zk5 => k_asm); (case zk6 => k_is); (case zk7 => k_is); (case zk8 => ktr_room); (case zk9 => first | exact BindsTo.of_eq rfl | exact binds_K (by k_in) rfl (by k_is) rfl rfl rfl); (case zc5 => decide); (case zkB => exact locs rfl); (case zc2 => exact rfl); (case zc3 => exact rfl); (case zc4 => exact rfl); k_whole; intro _ _ _ _ _ _ _ _ _; (try dsimp only); (try k_fold))
  repeat' (first | (((with_reducible show wpAny _ _ (call (Value.ref 445) [Value.ref _, _]) _ _ _); k_dflt (refine' is_sign1_k ?zb ?zf ?zx ?zt ?zhk ?zn ?zr ?zd ?zq1 ?_; (case zb => k_asm); (case zf => k_asm); (case zx => k_asm); (case zt => k_asm); (case zhk => first | exact rfl | assumption); (case zn => k_asm); (case zr => k_intsEnd); (case zd => ktr_room); (case zq1 => first | assumption | (rw [isSign_some (by assumption)]; rfl) | (rw [isWord_some (by assumption)]; rfl) | (rw [isKind_some (by assumption)]; rfl)); k_whole); (all_goals intros); (all_goals (try k_sweep)))) | (k_unfold; (try dsimp only)) | (k_end; kc_close) | walk1 | (dsimp only; walk1) | (leave1; (try dsimp only)))
  · exact hret0 _ _ (by k_asm) (by first | k_asm | exact cb_drop (by k_asm) (fun _ hp => List.Mem.tail _ hp) | exact cb_drop (by k_asm) (fun _ hp => List.Mem.tail _ (List.Mem.tail _ hp)) | exact cb_drop (by k_asm) (fun _ hp => List.Mem.tail _ (List.Mem.tail _ (List.Mem.tail _ hp))))
theorem skip_sign_yes {sg : Str} {v : Tok} (hd : dp + 4 < recursionLimit) (hyes : isSign r.toks pos 0 sg = true) (U : ∀ ta', Upd r.dx (r.D w.params pos ta) (r.D w.params (pos + 1) ta') news (news' ta'))
    (hret1 : ∀ h' tk' ta', Fr h₀ L h' m → News h₀ L h' (news' ta') → RIn w.params (news' ta') r (pos + 1) ta' → Q (.bool true) { s with heap := h', toks := tk' }) :
    wpAny (model prog w) (ktrTop dp un gd cn cs L a ccd cl outer) (call (.ref 452) [.ref r.x, .str sg v]) Q E s :=
  skip_sign1 B F X T hk N R hd U (fun h => (bool_no h hyes).elim) (fun _ => hret1)
theorem skip_no {wd : Str} {v : Tok} (hd : dp + 4 < recursionLimit) (hw : OneWord wd) (hno : isWord r.toks pos wd = false) (hret0 : ∀ h' tk', Fr h₀ L h' m → News h₀ L h' news → Q (.bool false) { s with heap := h', toks := tk' }) :
    wpAny (model prog w) (ktrTop dp un gd cn cs L a ccd cl outer) (call (.ref 394) [.ref r.x, .str wd v]) Q E s := by
  w_top off
  have ⟨ix, id, il, it, le, lo⟩ := R
  refine wpAny_call ?_
  k_dflt (refine' code_def ?zk1 ?zk2 ?zk3 ?zk4 ?zk5 ?zkA ?zkF ?zkK ?zk6 ?zk7 ?zk8 ?zk9 ?zkB ?_ ?zc2 ?zc3 ?zc4 ?zc5; (case zkA => exact rfl); (case zkF => exact rfl); (case zkK => assumption); (case zk1 => k_asm); (case zk2 => k_asm); (case zk3 => k_asm); (case zk4 => k_asm); (case zk5 => k_asm); (case zk6 => k_is); (case zk7 => k_is); (case zk8 => ktr_room); (case zk9 => first | exact BindsTo.of_eq rfl | exact binds_K (by k_in) rfl (by k_is) rfl rfl rfl); (case zc5 => decide); (case zkB => exact locs rfl); (case zc2 => exact rfl); (case zc3 => exact rfl); (case zc4 => exact rfl); k_whole; intro _ _ _ _ _ _ _ _ _; (try dsimp only); (try k_fold))
  repeat' (first | (((with_reducible show wpAny _ _ (call (Value.ref 387) [Value.ref _, _]) _ _ _); k_dflt (refine' is_word1_k ?zb ?zf ?zx ?zt ?zhk ?zn ?zr ?zd ?zo ?zq1 ?_; (case zb => k_asm); (case zf => k_asm); (case zx => k_asm); (case zt => k_asm); (case zhk => first | exact rfl | assumption); (case zn => k_asm); (case zr => k_intsEnd); (case zd => ktr_room); (case zo => first | assumption | exact ⟨by decide +kernel, by decide +kernel⟩); (case zq1 => first | assumption | (rw [isSign_some (by assumption)]; rfl) | (rw [isWord_some (by assumption)]; rfl) | (rw [isKind_some (by assumption)]; rfl)); k_whole); (all_goals intros); (all_goals (try k_sweep)))) | (k_unfold; (try dsimp only)) | (k_end; kc_close) | walk1 | (dsimp only; walk1) | (leave1; (try dsimp only)))
  · exact hret0 _ _ (by k_asm) (by first | k_asm | exact cb_drop (by k_asm) (fun _ hp => List.Mem.tail _ hp) | exact cb_drop (by k_asm) (fun _ hp => List.Mem.tail _ (List.Mem.tail _ hp)) | exact cb_drop (by k_asm) (fun _ hp => List.Mem.tail _ (List.Mem.tail _ (List.Mem.tail _ hp))))
theorem skip_yes {wd : Str} {v : Tok} (hd : dp + 4 < recursionLimit) (hw : OneWord wd) (hyes : isWord r.toks pos wd = true) (U : ∀ ta', Upd r.dx (r.D w.params pos ta) (r.D w.params (pos + 1) ta') news (news' ta'))
    (hret1 : ∀ h' tk' ta', Fr h₀ L h' m → News h₀ L h' (news' ta') → RIn w.params (news' ta') r (pos + 1) ta' → Q (.bool true) { s with heap := h', toks := tk' }) :
    wpAny (model prog w) (ktrTop dp un gd cn cs L a ccd cl outer) (call (.ref 394) [.ref r.x, .str wd v]) Q E s :=
  skip1 B F X T hk N R hd hw U (fun h => (bool_no h hyes).elim) (fun _ => hret1)
theorem one_of_no {v : Tok} (hd : dp + 5 < recursionLimit) (h1 : isWord r.toks pos ⟨#[79, 70]⟩ = false) (h2 : isWord r.toks pos ⟨#[73, 78]⟩ = false)
    (hret0 : ∀ h' tk' t', Fr h₀ L h' m → News h₀ L h' news → Q (.str "" t') { s with heap := h', toks := tk' }) :
    wpAny (model prog w) (ktrTop dp un gd cn cs L a ccd cl outer) (call (.ref 408) [.ref r.x, .str "OF IN" v]) Q E s := by
  w_top off
  have ⟨ix, id, il, it, le, lo⟩ := R
  refine wpAny_call ?_
  k_dflt (refine' code_def ?zk1 ?zk2 ?zk3 ?zk4 ?zk5 ?zkA ?zkF ?zkK ?zk6 ?zk7 ?zk8 ?zk9 ?zkB ?_ ?zc2 ?zc3 ?zc4 ?zc5; (case zkA => exact rfl); (case zkF => exact rfl); (case zkK => assumption); (case zk1 => k_asm); (case zk2 => k_asm); (case zk3 => k_asm); (case zk4 => k_asm); (case zk5 => k_asm); (case zk6 => k_is); (case zk7 => k_is); (case zk8 => ktr_room); (case zk9 => first | exact BindsTo.of_eq rfl | exact binds_K (by k_in) rfl (by k_is) rfl rfl rfl); (case zc5 => decide); (case zkB => exact locs rfl); (case zc2 => exact rfl); (case zc3 => exact rfl); (case zc4 => exact rfl); k_whole; intro _ _ _ _ _ _ _ _ _; (try dsimp only); (try k_fold))
  repeat' (first | (((with_reducible show wpAny _ _ (call (Value.ref 394) [Value.ref _, _]) _ _ _); k_dflt (refine' skip_no ?zb ?zf ?zx ?zt ?zhk ?zn ?zr ?zd ?zo ?zq1 ?_; (case zb => k_asm); (case zf => k_asm); (case zx => k_asm); (case zt => k_asm); (case zhk => first | exact rfl | assumption); (case zn => k_asm); (case zr => k_intsEnd); (case zd => ktr_room); (case zo => first | assumption | exact ⟨by decide +kernel, by decide +kernel⟩); (case zq1 => first | assumption | (rw [isSign_some (by assumption)]; decide +kernel) | (rw [isWord_some (by assumption)]; decide +kernel)); k_whole); (all_goals intros); (all_goals (try k_sweep)))) | (((with_reducible show wpAny _ _ (exec (Stmt.For _ _ _ [] _) _) _ _ _); k_strName; (rename Fr _ _ _ _ => lF'ζ); (with_unfolding_all refine' For_invVF lF'ζ ?zk1 ?zk2 ?_; (case zk1 => exact rfl); (case zk2 => exact rfl); k_whole))) | (((with_reducible show wpAny _ _ (pyIter (Value.ref _)) (fun it s₂ => LoopAtV _ _ _ _ _ _ _ _ _ it s₂) _ _); (with_unfolding_all refine' iter_listUnr ?zhh ?zf ?zn ?zm ?zc ?zd ?_; (case zhh => exact rfl); (case zf => k_asm); (case zn => k_asm); (case zm => first | exact List.Mem.head _ | exact List.Mem.tail _ (List.Mem.head _)); (case zc => exact rfl); (case zd => exact rfl)); intro i9ζ l9ζ)) | ((with_reducible show UnrEnd _ _ _ _ _ _ _); (first
  | (refine' UnrEnd.intro ?zf ?zn _ (fun _ hp => hp) ?zo ⟨?zm, ?_⟩; (case zf => k_asm); (case zn => k_asm); (case zo => first | exact off_allLt (by assumption) | (intro p9ζ hp9ζ; exact Nat.ne_of_lt ((by assumption : ∀ p ∈ _, p.1 < _) p9ζ hp9ζ))); (case zm => first | exact List.Mem.head _ | exact List.Mem.tail _ (List.Mem.head _)))
  | (refine' UnrEnd.intro ?zf ?zn _ (fun _ hp => hp) ?zo ?_; (case zf => k_asm); (case zn => k_asm); (case zo => first | exact off_allLt (by assumption) | (intro p9ζ hp9ζ; exact Nat.ne_of_lt ((by assumption : ∀ p ∈ _, p.1 < _) p9ζ hp9ζ)))))) | ((with_reducible show UnrEnd _ _ _ _ _ _ _); ((refine' UnrEnd.intro ?zf ?zn _ (fun _ hp => hp) ?zo ⟨?zm, ?_⟩; (case zf => k_asm); (case zn => k_asm); (case zo => intro p9ζ hp9ζ; exact Nat.ne_of_lt ((by assumption : ∀ p ∈ _, p.1 < _) p9ζ hp9ζ)); (case zm => first | exact List.Mem.head _ | exact List.Mem.tail _ (List.Mem.head _))))) | (k_unfold; (try dsimp only)) | (k_end; kc_close) | walk1 | (dsimp only; walk1) | (leave1; (try dsimp only)))
  · exact hret0 _ _ _ (by k_asm) (by first | k_asm | exact cb_drop (by k_asm) (fun _ hp => List.Mem.tail _ hp) | exact cb_drop (by k_asm) (fun _ hp => List.Mem.tail _ (List.Mem.tail _ hp)) | exact cb_drop (by k_asm) (fun _ hp => List.Mem.tail _ (List.Mem.tail _ (List.Mem.tail _ hp))))
omit N R in
theorem read_dec2w {x : Str} {v : Tok} (hd : dp + 3 < recursionLimit) (N : News h₀ L s.heap news) (hx : x = "2")
    (hret : ∀ q t1 t2 h' tk', Fr h₀ L h' m → News h₀ L h' ((q, { cls := .type "tuple", data := .seq #[.int 2 t1, .int 0 t2] }) :: news) → (∀ p ∈ news, p.1 < q) → Q (.ref q) { s with heap := h', toks := tk' }) :
    wpAny (model prog w) (ktrTop dp un gd cn cs L a ccd cl outer) (call (.ref 181) [.str x v]) Q E s := by
  subst hx
  exact read_dec2 B F X T hk hd N hret
theorem signed2 {t : TR} (hd : dp + 5 < recursionLimit) (U : ∀ ta', Upd r.dx (r.D w.params pos ta) (r.D w.params (pos + 1) ta') news (news' ta')) (ht : tokAt r.toks pos 0 = some t) (hkw : t.k = "number") (hw : t.w = "2")
    (hret : ∀ q t1 t2 h' tk' ta', Fr h₀ L h' m → News h₀ L h' ((q, { cls := .type "tuple", data := .seq #[.int 2 t1, .int 0 t2] }) :: news' ta') → (∀ p ∈ news' ta', p.1 < q) → RIn w.params (news' ta') r (pos + 1) ta' → Q (.ref q) { s with heap := h', toks := tk' }) :
    wpAny (model prog w) (ktrTop dp un gd cn cs L a ccd cl outer) (call (.ref 473) [.ref r.x]) Q E s := by
  w_top off
  have h1 : ∀ sg, isSign r.toks pos 0 sg = false := fun sg => by rw [isSign_some ht, hkw]; rfl
  have h2 := h1 "-"
  have h3 := h1 "+"
  have ⟨ix, id, il, it, le, lo⟩ := R
  refine wpAny_call ?_
  k_dflt (refine' code_def ?zk1 ?zk2 ?zk3 ?zk4 ?zk5 ?zkA ?zkF ?zkK ?zk6 ?zk7 ?zk8 ?zk9 ?zkB ?_ ?zc2 ?zc3 ?zc4 ?zc5; (case zkA => exact rfl); (case zkF => exact rfl); (case zkK => assumption); (case zk1 => k_asm); (case zk2 => k_asm); (case zk3 => k_asm); (case zk4 => k_asm); (case zk5 => k_asm); (case zk6 => k_is); (case zk7 => k_is); (case zk8 => ktr_room); (case zk9 => first | exact BindsTo.of_eq rfl | exact binds_K (by k_in) rfl (by k_is) rfl rfl rfl); (case zc5 => decide); (case zkB => exact locs rfl); (case zc2 => exact rfl); (case zc3 => exact rfl); (case zc4 => exact rfl); k_whole; intro _ _ _ _ _ _ _ _ _; (try dsimp only); (try k_fold))
  repeat' (first | (((with_reducible show wpAny _ _ (call (Value.ref 181) _ _) _ _ _); (k_dflt show wpAny _ _ (call (Value.ref 181) [_]) _ _ _); k_dflt (refine' read_dec2w ?zb ?zf ?zx ?zt ?zhk ?zd ?zn ?zq1 ?_; (case zb => k_asm); (case zf => k_asm); (case zx => k_asm); (case zt => k_asm); (case zhk => first | exact rfl | assumption); (case zn => k_asm); (case zd => ktr_room); (case zq1 => assumption); k_whole); (all_goals intros); (all_goals (try k_sweep)))) | (((with_reducible show wpAny _ _ (call (Value.ref 452) [Value.ref _, _]) _ _ _); k_dflt (refine' skip_sign_no ?zb ?zf ?zx ?zt ?zhk ?zn ?zr ?zd ?zq1 ?_; (case zb => k_asm); (case zf => k_asm); (case zx => k_asm); (case zt => k_asm); (case zhk => first | exact rfl | assumption); (case zn => k_asm); (case zr => k_intsEnd); (case zd => ktr_room); (case zq1 => first | assumption | (rw [isSign_some (by assumption)]; decide +kernel) | (rw [isWord_some (by assumption)]; decide +kernel)); k_whole); (all_goals intros); (all_goals (try k_sweep)))) | (((with_reducible show wpAny _ _ (call (Value.ref 466) _ _) _ _ _); (k_dflt show wpAny _ _ (call (Value.ref 466) [Value.ref _]) _ _ _); k_dflt (refine' is_number0 ?zb ?zf ?zx ?zt ?zhk ?zn ?zr ?zd ?zq1 ?zq2 ?_; (case zb => k_asm); (case zf => k_asm); (case zx => k_asm); (case zt => k_asm); (case zhk => first | exact rfl | assumption); (case zn => k_asm); (case zr => k_intsEnd); (case zd => ktr_room); (case zq1 => assumption); (case zq2 => assumption); k_whole); (all_goals intros); (all_goals (try k_sweep)))) | (((with_reducible show wpAny _ _ (call (Value.ref 372) _ _) _ _ _); (k_dflt show wpAny _ _ (call (Value.ref 372) [Value.ref _]) _ _ _); k_dflt (refine' take_ok ?zb ?zf ?zx ?zt ?zhk ?zn ?zr ?zd ?zu ?zq1 ?_; (case zb => k_asm); (case zf => k_asm); (case zx => k_asm); (case zt => k_asm); (case zhk => first | exact rfl | assumption); (case zn => k_asm); (case zr => k_intsEnd); (case zd => ktr_room); (case zu => intro ta9ζ; k_upd); (case zq1 => assumption); k_whole); (all_goals intros); (all_goals (try k_sweep)))) | (k_unfold; (try dsimp only)) | (k_end; kc_close) | walk1 | (dsimp only; walk1) | (leave1; (try dsimp only)))
  · exact hret _ _ _ _ _ _ (by k_asm) (by k_asm) (by assumption) (by assumption)
end
-- C7
theorem bool_no2 {b : Bool} (h : b = false) (h' : (!b) = false) : False := by rw [h] at h'; cases h'
section
variable {prog : Program} {w : World} {p : Program} {loose : List Str} {mean : ExcName → Option Value} {mg mb : Str → Option Value}
  {dp un : Nat} {gd : Option (List Code)} {cn : Str} {cs : Scope} {a : Addr} {ccd : Value} {cl : List (Str × Addr)} {outer : List Env} {A₀ : Around} {base h₀ : Heap} {L : Addr} {m : Str → Option Value} {s : Shared} {Q E : Value → Shared → Prop}
  {r : RR} {pos : Int} {ta : Tok} {news : List (Addr × Obj)} {news' : Tok → List (Addr × Obj)} {k : Int} {u : Tok}
variable (B : Below A₀ base outer h₀) (F : Fr h₀ L s.heap m) (X : (Mine.kMake.heap_1 w.params).In h₀) (T : Top p loose mean mg mb h₀) (hk : cs.kind = .function) (N : News h₀ L s.heap news) (R : RIn w.params news r pos ta)
include B F X T hk N R
omit B F X T hk R in
theorem notin_led {A : Around} {q : Addr} {vs : List Value} {ys : List Str} {n : Nat} {x : Str} {v : Tok} (hq : (q, ({ cls := .type "tuple", data := .seq vs.toArray n } : Obj)) ∈ news) (hi : StrsAre vs ys)
    (h : Q (.bool (!(ys.any (· == x)))) s) : wpAny (model prog w) A (compareOp .NotIn (.str x v) (.ref q)) Q E s :=
  notin_tuple_strs (items := vs.toArray) ⟨_, (N _ hq).1, rfl, _, rfl⟩ hi h
theorem sign_among_num {t : TR} {q : Addr} {vs : List Value} {ys : List Str} {n : Nat} (hd : dp + 2 < recursionLimit) (hq : (q, ({ cls := .type "tuple", data := .seq vs.toArray n } : Obj)) ∈ news) (hi : StrsAre vs ys) (ht : tokAt r.toks pos 0 = some t) (hkw : t.k = "number")
    (hret : ∀ h' tk' t', Fr h₀ L h' m → News h₀ L h' news → Q (.str "" t') { s with heap := h', toks := tk' }) :
    wpAny (model prog w) (ktrTop dp un gd cn cs L a ccd cl outer) (call (.ref 195) [.ref r.x, .ref q]) Q E s := by
  w_top off
  have ⟨ix, id, il, it, le, lo⟩ := R
  refine wpAny_call ?_
  k_dflt (refine' code_def ?zk1 ?zk2 ?zk3 ?zk4 ?zk5 ?zkA ?zkF ?zkK ?zk6 ?zk7 ?zk8 ?zk9 ?zkB ?_ ?zc2 ?zc3 ?zc4 ?zc5; (case zkA => exact rfl); (case zkF => exact rfl); (case zkK => assumption); (case zk1 => k_asm); (case zk2 => k_asm); (case zk3 => k_asm); (case zk4 => k_asm); (case zk5 => k_asm); (case zk6 => k_is); (case zk7 => k_is); (case zk8 => ktr_room); (case zk9 => first | exact BindsTo.of_eq rfl | exact binds_K (by k_in) rfl (by k_is) rfl rfl rfl); (case zc5 => decide); (case zkB => exact locs rfl); (case zc2 => exact rfl); (case zc3 => exact rfl); (case zc4 => exact rfl); k_whole; intro _ _ _ _ _ _ _ _ _; (try dsimp only); (try k_fold))
  repeat' (first | (((with_reducible show wpAny _ _ (call (Value.ref 351) _ _) _ _ _); (k_dflt show wpAny _ _ (call (Value.ref 351) [Value.ref _]) _ _ _); k_dflt (refine' peek0k ?zb ?zf ?zx ?zt ?zhk ?zn ?zr ?zd ?zht ?_; (case zb => k_asm); (case zf => k_asm); (case zx => k_asm); (case zt => k_asm); (case zhk => first | exact rfl | assumption); (case zn => k_asm); (case zr => k_intsEnd); (case zd => ktr_room); (case zht => assumption); k_whole); (all_goals intros); (all_goals (try k_sweep)))) | ((with_reducible show wpAny _ _ (compareOp CmpOp.NotIn (Value.str _ _) (Value.ref _)) _ _ _); ((k_dflt (refine' notin_led ?zn ?zq ?zi ?_; (case zn => k_asm); (case zq => first | assumption | exact List.Mem.head _); (case zi => assumption); k_whole)))) | (k_unfold; (try dsimp only)) | (k_end; kc_close) | walk1 | (dsimp only; walk1) | (leave1; (try dsimp only)))
  · exact hret _ _ _ (by k_asm) (by first | k_asm | exact cb_drop (by k_asm) (fun _ hp => List.Mem.tail _ hp) | exact cb_drop (by k_asm) (fun _ hp => List.Mem.tail _ (List.Mem.tail _ hp)) | exact cb_drop (by k_asm) (fun _ hp => List.Mem.tail _ (List.Mem.tail _ (List.Mem.tail _ hp))))
  all_goals exact absurd (by assumption : (t.k != ("sign" : Str)) = false) (by rw [hkw]; decide +kernel)
theorem sign_among_sg {t : TR} {q : Addr} {vs : List Value} {ys : List Str} {n : Nat} (hd : dp + 2 < recursionLimit) (hq : (q, ({ cls := .type "tuple", data := .seq vs.toArray n } : Obj)) ∈ news) (hi : StrsAre vs ys) (ht : tokAt r.toks pos 0 = some t) (hno : ys.any (· == t.w) = false)
    (hret : ∀ h' tk' t', Fr h₀ L h' m → News h₀ L h' news → Q (.str "" t') { s with heap := h', toks := tk' }) :
    wpAny (model prog w) (ktrTop dp un gd cn cs L a ccd cl outer) (call (.ref 195) [.ref r.x, .ref q]) Q E s := by
  w_top off
  have ⟨ix, id, il, it, le, lo⟩ := R
  refine wpAny_call ?_
  k_dflt (refine' code_def ?zk1 ?zk2 ?zk3 ?zk4 ?zk5 ?zkA ?zkF ?zkK ?zk6 ?zk7 ?zk8 ?zk9 ?zkB ?_ ?zc2 ?zc3 ?zc4 ?zc5; (case zkA => exact rfl); (case zkF => exact rfl); (case zkK => assumption); (case zk1 => k_asm); (case zk2 => k_asm); (case zk3 => k_asm); (case zk4 => k_asm); (case zk5 => k_asm); (case zk6 => k_is); (case zk7 => k_is); (case zk8 => ktr_room); (case zk9 => first | exact BindsTo.of_eq rfl | exact binds_K (by k_in) rfl (by k_is) rfl rfl rfl); (case zc5 => decide); (case zkB => exact locs rfl); (case zc2 => exact rfl); (case zc3 => exact rfl); (case zc4 => exact rfl); k_whole; intro _ _ _ _ _ _ _ _ _; (try dsimp only); (try k_fold))
  repeat' (first | (((with_reducible show wpAny _ _ (call (Value.ref 351) _ _) _ _ _); (k_dflt show wpAny _ _ (call (Value.ref 351) [Value.ref _]) _ _ _); k_dflt (refine' peek0k ?zb ?zf ?zx ?zt ?zhk ?zn ?zr ?zd ?zht ?_; (case zb => k_asm); (case zf => k_asm); (case zx => k_asm); (case zt => k_asm); (case zhk => first | exact rfl | assumption); (case zn => k_asm); (case zr => k_intsEnd); (case zd => ktr_room); (case zht => assumption); k_whole); (all_goals intros); (all_goals (try k_sweep)))) | ((with_reducible show wpAny _ _ (compareOp CmpOp.NotIn (Value.str _ _) (Value.ref _)) _ _ _); ((k_dflt (refine' notin_led ?zn ?zq ?zi ?_; (case zn => k_asm); (case zq => first | assumption | exact List.Mem.head _); (case zi => assumption); k_whole)))) | (k_unfold; (try dsimp only)) | (k_end; kc_close) | walk1 | (dsimp only; walk1) | (leave1; (try dsimp only)))
  all_goals first | exact (bool_no2 hno (by assumption)).elim | exact hret _ _ _ (by k_asm) (by first | k_asm | exact cb_drop (by k_asm) (fun _ hp => List.Mem.tail _ hp) | exact cb_drop (by k_asm) (fun _ hp => List.Mem.tail _ (List.Mem.tail _ hp)) | exact cb_drop (by k_asm) (fun _ hp => List.Mem.tail _ (List.Mem.tail _ (List.Mem.tail _ hp))))
end
-- C8
/-- the table of the codes of a def's lambdas, as it may lie: the lambda's code is not made yet, or once -/
def TabOk (ln : Pos) (ps : Array Value) : Prop := TriplesOk ps.toList ∧ (codeAmong ln ps.toList = none ∨ ∃ c', codeAmong ln ps.toList = some (.ref c'))
theorem TabOk.snoc {ln : Pos} {ps : Array Value} {c' : Addr} (h : TabOk ln ps) (hn : codeAmong ln ps.toList = none) : TabOk ln (ps ++ #[rawInt ln.line, rawInt ln.col, .ref c']) := by
  have e : (ps ++ #[rawInt ln.line, rawInt ln.col, Value.ref c']).toList = ps.toList ++ [rawInt ln.line, rawInt ln.col, .ref c'] := by simp
  unfold TabOk
  rw [e]
  exact ⟨TriplesOk_snoc _ _ _ _ h.1, .inr ⟨c', codeAmong_snoc _ h.1 hn⟩⟩
theorem updF_self {d : Addr} {o : Obj} {news : List (Addr × Obj)} {g : Obj → List (Addr × Obj)} (U : UpdF d o news g) : g o = news := by
  obtain ⟨pre, post, e1, e2, _, _⟩ := U.split
  rw [e1, e2]
theorem lam_any {M : Model} {A : Around} {E : Value → Shared → Prop} {s : Shared} {h₀ : Heap} {L a c P : Addr} {m mg mb : Str → Option Value} {cn : Str} {cs : Scope} {ccd : Value} {cl : List (Str × Addr)} {news : List (Addr × Obj)} {g : Obj → List (Addr × Obj)}
    {p : Program} {loose : List Str} {mean : ExcName → Option Value} {name qual : Str} {params : Arguments} {body : PySem.Expr} {scope : Scope} {ps : Array Value} {pos : Pos} {firstLine : Nat} {clos : List (Str × Addr)} {Q : Value → Shared → Prop}
    (F : Fr h₀ L s.heap m) (N : News h₀ L s.heap news) (T : Top p loose mean mg mb h₀) (C : CodeHd h₀ c P) (hcd : ccd = .ref c) (U : UpdF P (tabObj ps) news g) (ht : TabOk pos ps) (hcl : closureFor scope (envX cn cs L a ccd cl) = pure clos)
    (h : ∀ f ps' o h' tk, Fr h₀ L h' m → News h₀ L h' ((f, o) :: g (tabObj ps')) → TabOk pos ps' → (∀ q ∈ g (tabObj ps'), q.1 < f) → Q (.ref f) { s with heap := h', toks := tk }) :
    wpAny M A (makeFunction name qual params (.expr body) scope (envX cn cs L a ccd cl) [] [] [] pos firstLine) Q E s := by
  rcases ht.2 with hn | ⟨c', hf⟩
  · refine kla_nest F N T C hcd U ht.1 hn hcl fun f c' oc vs t ctv h' tk F' N' _ _ l1 l2 => ?_
    refine h f (ps ++ #[rawInt pos.line, rawInt pos.col, .ref c']) (kla_obj name qual params body scope clos ((mg (Str.ofString "__name__")).getD Value.none) c' ctv) h' tk F' ?_ (ht.snoc (c' := c') hn) ?_
    · intro q hq
      rcases List.mem_cons.mp hq with rfl | hq
      · exact N' _ (.head _)
      · exact N' _ (.tail _ (.tail _ hq))
    · intro q hq
      obtain ⟨q', hq', e⟩ := updF_adr U q hq
      rw [← e]; exact Nat.lt_trans (l1 q' hq') l2
  · refine kla_hit F N T C hcd (by obtain ⟨pre, post, e1, _, _, _⟩ := U.split; rw [e1]; exact List.mem_append_right _ (.head _)) ht.1 hf hcl fun f ctv h' tk F' N' l1 => ?_
    exact h f ps _ h' tk F' (by rw [updF_self U]; exact N') ht (by rw [updF_self U]; exact l1)
section
variable {prog : Program} {w : World} {p : Program} {loose : List Str} {mean : ExcName → Option Value} {mg mb : Str → Option Value}
  {dp un : Nat} {gd : Option (List Code)} {cn : Str} {cs : Scope} {a : Addr} {ccd : Value} {cl : List (Str × Addr)} {outer : List Env} {A₀ : Around} {base h₀ : Heap} {L : Addr} {m : Str → Option Value} {s : Shared} {Q E : Value → Shared → Prop}
  {r : RR} {pos : Int} {ta : Tok} {news : List (Addr × Obj)} {news' : Tok → List (Addr × Obj)} {k : Int} {u : Tok}
variable (B : Below A₀ base outer h₀) (F : Fr h₀ L s.heap m) (X : (Mine.kMake.heap_1 w.params).In h₀) (T : Top p loose mean mg mb h₀) (hk : cs.kind = .function) (N : News h₀ L s.heap news) (R : RIn w.params news r pos ta)
include B F X T hk N R
theorem operand_num {t : TR} {q0 : Addr} (hd : dp + 7 < recursionLimit) (U : ∀ ta', Upd r.dx (r.D w.params pos ta) (r.D w.params (pos + 1) ta') news (news' ta')) (ht : tokAt r.toks pos 0 = some t) (hkw : t.k = "number") (hw : t.w = "2")
    (hret : ∀ q q2 t1 t2 t3 h' tk' ta', Fr h₀ L h' m → News h₀ L h' ((q2, { cls := .type "tuple", data := .seq #[.str "number" t3, .ref q] }) :: (q, { cls := .type "tuple", data := .seq #[.int 2 t1, .int 0 t2] }) :: news' ta') → (∀ p ∈ news' ta', p.1 < q) → q < q2 → RIn w.params (news' ta') r (pos + 1) ta' → Q (.ref q2) { s with heap := h', toks := tk' }) :
    wpAny (model prog w) (ktrTop dp un gd cn cs L a ccd cl outer) (call (.ref 71) [.ref r.x, .ref q0]) Q E s := by
  w_top off
  have ⟨ix, id, il, it, le, lo⟩ := R
  refine wpAny_call ?_
  k_dflt (refine' code_def ?zk1 ?zk2 ?zk3 ?zk4 ?zk5 ?zkA ?zkF ?zkK ?zk6 ?zk7 ?zk8 ?zk9 ?zkB ?_ ?zc2 ?zc3 ?zc4 ?zc5; (case zkA => exact rfl); (case zkF => exact rfl); (case zkK => assumption); (case zk1 => k_asm); (case zk2 => k_asm); (case zk3 => k_asm); (case zk4 => k_asm); (case zk5 => k_asm); (case zk6 => k_is); (case zk7 => k_is); (case zk8 => ktr_room); (case zk9 => first | exact BindsTo.of_eq rfl | exact binds_K (by k_in) rfl (by k_is) rfl rfl rfl); (case zc5 => decide); (case zkB => exact locs rfl); (case zc2 => exact rfl); (case zc3 => exact rfl); (case zc4 => exact rfl); k_whole; intro _ _ _ _ _ _ _ _ _; (try dsimp only); (try k_fold))
  repeat' (first | (((with_reducible show wpAny _ _ (call (Value.ref 473) _ _) _ _ _); (k_dflt show wpAny _ _ (call (Value.ref 473) [Value.ref _]) _ _ _); k_dflt (refine' signed2 ?zb ?zf ?zx ?zt ?zhk ?zn ?zr ?zd ?zu ?zq1 ?zq2 ?zq3 ?_; (case zb => k_asm); (case zf => k_asm); (case zx => k_asm); (case zt => k_asm); (case zhk => first | exact rfl | assumption); (case zn => k_asm); (case zr => k_intsEnd); (case zd => ktr_room); (case zu => intro ta9ζ; k_upd); (case zq1 => assumption); (case zq2 => assumption); (case zq3 => assumption); k_whole); (all_goals intros); (all_goals (try k_sweep)))) | (((with_reducible show wpAny _ _ (call (Value.ref 466) _ _) _ _ _); (k_dflt show wpAny _ _ (call (Value.ref 466) [Value.ref _]) _ _ _); k_dflt (refine' is_number0 ?zb ?zf ?zx ?zt ?zhk ?zn ?zr ?zd ?zq1 ?zq2 ?_; (case zb => k_asm); (case zf => k_asm); (case zx => k_asm); (case zt => k_asm); (case zhk => first | exact rfl | assumption); (case zn => k_asm); (case zr => k_intsEnd); (case zd => ktr_room); (case zq1 => assumption); (case zq2 => assumption); k_whole); (all_goals intros); (all_goals (try k_sweep)))) | (k_unfold; (try dsimp only)) | (k_end; kc_close) | walk1 | (dsimp only; walk1) | (leave1; (try dsimp only)))
  exact hret _ _ _ _ _ _ _ _ (by k_asm) (by k_asm) (by assumption) (And.left (by assumption)) (by assumption)
end
-- C9
theorem ltSucc {q : Nat} {l : List (Addr × Obj)} (h : ∀ p ∈ l, p.1 < q) : ∀ p ∈ l, p.1 < q + 1 := fun p hp => Nat.lt_succ_of_lt (h p hp)
theorem sub_keep {x : Addr × Obj} {l l' : List (Addr × Obj)} (h : ∀ p ∈ l, p ∈ l') : ∀ p ∈ x :: l, p ∈ x :: l' := by
  intro p hp
  rcases List.mem_cons.mp hp with rfl | hp
  · exact .head _
  · exact .tail _ (h p hp)
theorem sub_skip {x : Addr × Obj} {l l' : List (Addr × Obj)} (h : ∀ p ∈ l, p ∈ l') : ∀ p ∈ l, p ∈ x :: l' := fun p hp => .tail _ (h p hp)
theorem sub_same {l : List (Addr × Obj)} : ∀ p ∈ l, p ∈ l := fun _ h => h
theorem news_sub {h₀ h' : Heap} {L : Addr} {l l' : List (Addr × Obj)} (N : News h₀ L h' l') (h : ∀ p ∈ l, p ∈ l') : News h₀ L h' l := fun p hp => N p (h p hp)
theorem lt_sub {q : Addr} {l l' : List (Addr × Obj)} (N : ∀ p ∈ l', p.1 < q) (h : ∀ p ∈ l, p ∈ l') : ∀ p ∈ l, p.1 < q := fun p hp => N p (h p hp)
section
variable {prog : Program} {w : World} {p : Program} {loose : List Str} {mean : ExcName → Option Value} {mg mb : Str → Option Value}
  {dp un : Nat} {gd : Option (List Code)} {cn : Str} {cs : Scope} {a : Addr} {ccd : Value} {cl : List (Str × Addr)} {outer : List Env} {A₀ : Around} {base h₀ : Heap} {L : Addr} {m : Str → Option Value} {s : Shared} {Q E : Value → Shared → Prop}
  {r : RR} {W : Int → Tok → Obj → List (Addr × Obj)} {pos : Int} {ta : Tok} {o : Obj} {ps : Array Value} {k : Int} {u : Tok}
variable (B : Below A₀ base outer h₀) (F : Fr h₀ L s.heap m) (X : (Mine.kMake.heap_1 w.params).In h₀) (T : Top p loose mean mg mb h₀) (hk : cs.kind = .function) (H : Hole w.params r W) (hp : 0 ≤ pos)
include B F X T hk H hp
end
local macro_rules | `(tactic| k_ne) => `(tactic| first | exact Hole.neT (by assumption) (ltSucc (by assumption)) | exact Hole.ne (by assumption) (ltSucc (by assumption)) | exact Hole.neT (by assumption) (allLt_all (And.right (by assumption))) | exact Hole.ne (by assumption) (allLt_all (And.right (by assumption))))
section
variable {prog : Program} {w : World} {p : Program} {loose : List Str} {mean : ExcName → Option Value} {mg mb : Str → Option Value}
  {dp un : Nat} {gd : Option (List Code)} {cn : Str} {cs : Scope} {a : Addr} {ccd : Value} {cl : List (Str × Addr)} {outer : List Env} {A₀ : Around} {base h₀ : Heap} {L : Addr} {m : Str → Option Value} {s : Shared} {Q E : Value → Shared → Prop}
  {r : RR} {W : Int → Tok → Obj → List (Addr × Obj)} {pos : Int} {ta : Tok} {o : Obj} {ps : Array Value} {k : Int} {u : Tok}
variable (B : Below A₀ base outer h₀) (F : Fr h₀ L s.heap m) (X : (Mine.kMake.heap_1 w.params).In h₀) (T : Top p loose mean mg mb h₀) (hk : cs.kind = .function) (H : Hole w.params r W) (hp : 0 ≤ pos)
include B F X T hk H hp
theorem primary_num {t : TR} (N : News h₀ L s.heap (W pos ta (tabObj ps))) (C : CodeHd base 236 232) (tb : TabOk ⟨174, 36, 174, 76⟩ ps) (hd : dp + 9 < recursionLimit) (ht : tokAt r.toks pos 0 = some t) (hkw : t.k = "number") (hw : t.w = "2") {u : Tok}
    (hret : ∀ q q2 t1 t2 t3 h' tk' ta' ps', TabOk ⟨174, 36, 174, 76⟩ ps' → Fr h₀ L h' m → News h₀ L h' ((q2, { cls := .type "tuple", data := .seq #[.str "number" t3, .ref q] }) :: (q, { cls := .type "tuple", data := .seq #[.int 2 t1, .int 0 t2] }) :: W (pos + 1) ta' (tabObj ps')) → (∀ p ∈ W (pos + 1) ta' (tabObj ps'), p.1 < q) → q < q2 → Q (.ref q2) { s with heap := h', toks := tk' }) :
    wpAny (model prog w) (ktrTop dp un gd cn cs L a ccd cl outer) (call (.ref 237) [.ref r.x, .int k u]) Q E s := by
  w_top off
  have h1 : ∀ sg, isSign r.toks pos 0 sg = false := fun sg => by rw [isSign_some ht, hkw]; rfl
  have h2 := h1 "("
  have R := H.rin pos ta (tabObj ps) hp
  have ⟨ix, id, il, it, le, lo⟩ := R
  refine wpAny_call ?_
  k_dflt (refine' code_defC ?zk1 ?zk2 ?zk3 ?zk4 ?zk5 ?zkA ?zkF ?zkK ?zk6 ?zk7 ?zk8 ?zk9 ?zkB ?zkD ?_ ?zc2 ?zc3 ?zc4; (case zkA => exact rfl); (case zkF => exact rfl); (case zkK => assumption); (case zk1 => k_asm); (case zk2 => k_asm); (case zk3 => k_asm); (case zk4 => k_asm); (case zk5 => k_asm); (case zk6 => k_is); (case zk7 => k_is); (case zk8 => ktr_room); (case zk9 => first | exact BindsTo.of_eq rfl | exact binds_K (by k_in) rfl (by k_is) rfl rfl rfl); (case zkB => exact rfl); (case zkD => decide +kernel); (case zc2 => exact rfl); (case zc3 => exact rfl); (case zc4 => exact rfl); k_whole; intro g'ζ L'ζ h'ζ tk'ζ cells'ζ FG'ζ F'ζ N'ζ Y'ζ B'ζ X'ζ T'ζ l1ζ; (try k_lt l1ζ); k_cells Y'ζ; (try simp only [List.cons_append, List.nil_append] at N'ζ); (try dsimp only); (try k_fold))
  repeat' (first | (((with_reducible show wpAny _ _ (call (Value.ref 71) [Value.ref _, _]) _ _ _); k_dflt (refine' operand_num ?zb ?zf ?zx ?zt ?zhk ?zn ?zr ?zd ?zU ?zht ?zhkw ?zhw ?_; (case zb => k_asm); (case zf => k_asm); (case zx => k_asm); (case zt => k_asm); (case zhk => first | exact rfl | assumption); (case zn => k_asm); (case zr => k_intsEnd); (case zd => ktr_room); (case zU => intro ta9ζ; k_upd); (case zht => assumption); (case zhkw => assumption); (case zhw => assumption); k_whole); (all_goals intros); (all_goals (try k_sweep)))) | (((with_reducible show wpAny _ _ (call (Value.ref 195) [Value.ref _, _]) _ _ _); k_dflt (refine' sign_among_sg ?zb ?zf ?zx ?zt ?zhk ?zn ?zr ?zd ?zq1 ?zq2 ?zq3 ?zq4 ?_; (case zb => k_asm); (case zf => k_asm); (case zx => k_asm); (case zt => k_asm); (case zhk => first | exact rfl | assumption); (case zn => k_asm); (case zr => k_intsEnd); (case zd => ktr_room); (case zq1 => first | exact List.Mem.head _ | exact List.Mem.tail _ (List.Mem.head _) | exact List.Mem.tail _ (List.Mem.tail _ (List.Mem.head _))); (case zq2 => (repeat (first | exact StrsAre.nil | apply StrsAre.cons))); (case zq3 => assumption); (case zq4 => first | assumption | ((have hw9ζ := (by assumption : TR.w _ = _)); rw [hw9ζ]; decide +kernel)); k_whole); (all_goals intros); (all_goals (try k_sweep)))) | (((with_reducible show wpAny _ _ (call (Value.ref 452) [Value.ref _, _]) _ _ _); k_dflt (refine' skip_sign_no ?zb ?zf ?zx ?zt ?zhk ?zn ?zr ?zd ?zq1 ?_; (case zb => k_asm); (case zf => k_asm); (case zx => k_asm); (case zt => k_asm); (case zhk => first | exact rfl | assumption); (case zn => k_asm); (case zr => k_intsEnd); (case zd => ktr_room); (case zq1 => first | assumption | (rw [isSign_some (by assumption)]; decide +kernel) | (rw [isWord_some (by assumption)]; decide +kernel)); k_whole); (all_goals intros); (all_goals (try k_sweep)))) | ((with_reducible show wpAny _ _ (eval (Expr.Lambda _ _ _ _) _) _ _ _); ((kn_here; k_dflt (refine' kla_eval ?zd0 ?_; (case zd0 => exact rfl)); (k_dflt (refine' lam_any ?zzF ?zzN ?zzT ?zzC ?zzcd ?zzU ?zzt ?zzcl ?_; (case zzF => k_asm); (case zzN => k_asm); (case zzT => k_asm); (case zzcd => exact rfl); (case zzC => kn_code); (case zzU => k_updF); (case zzt => assumption); (case zzcl => exact rfl); k_whole); intro f'ζ ps'ζ oc'ζ h'ζ tk'ζ F'ζ N'ζ tb'ζ l1ζ)))) | (k_unfold; (try dsimp only)) | (k_end; kc_close) | walk1 | (dsimp only; walk1) | (leave1; (try dsimp only)))
  exact hret _ _ _ _ _ _ _ _ _ (by assumption) (by k_asm) (news_sub (by k_asm) (sub_keep (sub_keep (sub_skip (sub_skip (sub_skip sub_same)))))) (lt_sub (by assumption) (sub_skip (sub_skip (sub_skip sub_same)))) (by assumption)
end
-- C10
section
variable {prog : Program} {w : World} {p : Program} {loose : List Str} {mean : ExcName → Option Value} {mg mb : Str → Option Value}
  {dp un : Nat} {gd : Option (List Code)} {cn : Str} {cs : Scope} {a : Addr} {ccd : Value} {cl : List (Str × Addr)} {outer : List Env} {A₀ : Around} {base h₀ : Heap} {L : Addr} {m : Str → Option Value} {s : Shared} {Q E : Value → Shared → Prop}
  {r : RR} {W : Int → Tok → Obj → List (Addr × Obj)} {pos : Int} {ta : Tok} {o : Obj} {ps : Array Value} {k : Int} {u : Tok}
variable (B : Below A₀ base outer h₀) (F : Fr h₀ L s.heap m) (X : (Mine.kMake.heap_1 w.params).In h₀) (T : Top p loose mean mg mb h₀) (hk : cs.kind = .function) (H : Hole w.params r W) (hp : 0 ≤ pos)
include B F X T hk H hp
theorem power_num {t t' : TR} (N : News h₀ L s.heap (W pos ta (tabObj ps))) (C : CodeHd base 236 232) (tb : TabOk ⟨174, 36, 174, 76⟩ ps) (hd : dp + 10 < recursionLimit) (ht : tokAt r.toks pos 0 = some t) (hkw : t.k = "number") (hw : t.w = "2") (ht2 : tokAt r.toks (pos + 1) 0 = some t') (hkw2 : t'.k = "sign") (hw2 : t'.w = ")") {u : Tok}
    (hret : ∀ q q2 t1 t2 t3 h' tk' ta' ps', TabOk ⟨174, 36, 174, 76⟩ ps' → Fr h₀ L h' m → News h₀ L h' ((q2, { cls := .type "tuple", data := .seq #[.str "number" t3, .ref q] }) :: (q, { cls := .type "tuple", data := .seq #[.int 2 t1, .int 0 t2] }) :: W (pos + 1) ta' (tabObj ps')) → (∀ p ∈ W (pos + 1) ta' (tabObj ps'), p.1 < q) → q < q2 → Q (.ref q2) { s with heap := h', toks := tk' }) :
    wpAny (model prog w) (ktrTop dp un gd cn cs L a ccd cl outer) (call (.ref 230) [.ref r.x, .int k u]) Q E s := by
  w_top off
  have R := H.rin pos ta (tabObj ps) hp
  have ⟨ix, id, il, it, le, lo⟩ := R
  refine wpAny_call ?_
  k_dflt (refine' code_def ?zk1 ?zk2 ?zk3 ?zk4 ?zk5 ?zkA ?zkF ?zkK ?zk6 ?zk7 ?zk8 ?zk9 ?zkB ?_ ?zc2 ?zc3 ?zc4 ?zc5; (case zkA => exact rfl); (case zkF => exact rfl); (case zkK => assumption); (case zk1 => k_asm); (case zk2 => k_asm); (case zk3 => k_asm); (case zk4 => k_asm); (case zk5 => k_asm); (case zk6 => k_is); (case zk7 => k_is); (case zk8 => ktr_room); (case zk9 => first | exact BindsTo.of_eq rfl | exact binds_K (by k_in) rfl (by k_is) rfl rfl rfl); (case zc5 => decide); (case zkB => exact locs rfl); (case zc2 => exact rfl); (case zc3 => exact rfl); (case zc4 => exact rfl); k_whole; intro _ _ _ _ _ _ _ _ _; (try dsimp only); (try k_fold))
  repeat' (first | (((with_reducible show wpAny _ _ (call (Value.ref 237) [Value.ref _, _]) _ _ _); k_dflt (refine' primary_num ?zb ?zf ?zx ?zt ?zhk ?zhH ?zhp ?zn ?zwC ?zwtb ?zwhd ?zwht ?zwhkw ?zwhw ?_; (case zb => k_asm); (case zf => k_asm); (case zx => k_asm); (case zt => k_asm); (case zhk => first | exact rfl | assumption); (case zhH => assumption); (case zn => first | k_asm | exact news_sub (by k_asm) (sub_skip sub_same)); (case zhp => first | assumption | omega); (case zwC => kn_code); (case zwtb => assumption); (case zwhd => ktr_room); (case zwht => assumption); (case zwhkw => assumption); (case zwhw => assumption); k_whole); (all_goals intros); (all_goals (try k_sweep)))) | (((with_reducible show wpAny _ _ (call (Value.ref 195) [Value.ref _, _]) _ _ _); k_dflt (refine' sign_among_sg ?zb ?zf ?zx ?zt ?zhk ?zn ?zr ?zd ?zq1 ?zq2 ?zq3 ?zq4 ?_; (case zb => k_asm); (case zf => k_asm); (case zx => k_asm); (case zt => k_asm); (case zhk => first | exact rfl | assumption); (case zn => k_asm); (case zr => k_intsEnd); (case zd => ktr_room); (case zq1 => first | exact List.Mem.head _ | exact List.Mem.tail _ (List.Mem.head _) | exact List.Mem.tail _ (List.Mem.tail _ (List.Mem.head _))); (case zq2 => (repeat (first | exact StrsAre.nil | apply StrsAre.cons))); (case zq3 => assumption); (case zq4 => first | assumption | ((have hw9ζ := (by assumption : TR.w _ = _)); rw [hw9ζ]; decide +kernel)); k_whole); (all_goals intros); (all_goals (try k_sweep)))) | ((with_reducible show WhlIf _ _ _); ((first | (refine WhlIf.yes (by with_unfolding_all rfl) ?_) | (refine WhlIf.no (by with_unfolding_all rfl) ?_) | (refine WhlIf.yes (by assumption) ?_) | (refine WhlIf.no (by assumption) ?_) | (refine whl_split ?_ ?_ <;> intro)))) | ((with_reducible show wpAny _ _ (exec (Stmt.While _ _ _ _) _) _ _ _); ((k_dflt (refine whl_start 100 ?_)))) | (k_unfold; (try dsimp only)) | (k_end; kc_close) | walk1 | (dsimp only; walk1) | (leave1; (try dsimp only)))
  exact hret _ _ _ _ _ _ _ _ _ (by assumption) (by k_asm) (by first | k_asm | exact news_sub (by k_asm) (sub_skip sub_same)) (by assumption) (by assumption)
theorem factor_num {t t' : TR} (N : News h₀ L s.heap (W pos ta (tabObj ps))) (C : CodeHd base 236 232) (tb : TabOk ⟨174, 36, 174, 76⟩ ps) (hd : dp + 11 < recursionLimit) (ht : tokAt r.toks pos 0 = some t) (hkw : t.k = "number") (hw : t.w = "2") (ht2 : tokAt r.toks (pos + 1) 0 = some t') (hkw2 : t'.k = "sign") (hw2 : t'.w = ")")  {u : Tok}
    (hret : ∀ q q2 t1 t2 t3 h' tk' ta' ps', TabOk ⟨174, 36, 174, 76⟩ ps' → Fr h₀ L h' m → News h₀ L h' ((q2, { cls := .type "tuple", data := .seq #[.str "number" t3, .ref q] }) :: (q, { cls := .type "tuple", data := .seq #[.int 2 t1, .int 0 t2] }) :: W (pos + 1) ta' (tabObj ps')) → (∀ p ∈ W (pos + 1) ta' (tabObj ps'), p.1 < q) → q < q2 → Q (.ref q2) { s with heap := h', toks := tk' }) :
    wpAny (model prog w) (ktrTop dp un gd cn cs L a ccd cl outer) (call (.ref 216) [.ref r.x, .int k u]) Q E s := by
  w_top off
  have h1 : ∀ sg, isSign r.toks pos 0 sg = false := fun sg => by rw [isSign_some ht, hkw]; rfl
  have R := H.rin pos ta (tabObj ps) hp
  have ⟨ix, id, il, it, le, lo⟩ := R
  refine wpAny_call ?_
  k_dflt (refine' code_def ?zk1 ?zk2 ?zk3 ?zk4 ?zk5 ?zkA ?zkF ?zkK ?zk6 ?zk7 ?zk8 ?zk9 ?zkB ?_ ?zc2 ?zc3 ?zc4 ?zc5; (case zkA => exact rfl); (case zkF => exact rfl); (case zkK => assumption); (case zk1 => k_asm); (case zk2 => k_asm); (case zk3 => k_asm); (case zk4 => k_asm); (case zk5 => k_asm); (case zk6 => k_is); (case zk7 => k_is); (case zk8 => ktr_room); (case zk9 => first | exact BindsTo.of_eq rfl | exact binds_K (by k_in) rfl (by k_is) rfl rfl rfl); (case zc5 => decide); (case zkB => exact locs rfl); (case zc2 => exact rfl); (case zc3 => exact rfl); (case zc4 => exact rfl); k_whole; intro _ _ _ _ _ _ _ _ _; (try dsimp only); (try k_fold))
  repeat' (first | (((with_reducible show wpAny _ _ (call (Value.ref 230) [Value.ref _, _]) _ _ _); k_dflt (refine' power_num ?zb ?zf ?zx ?zt ?zhk ?zhH ?zhp ?zn ?zwC ?zwtb ?zwhd ?zwht ?zwhkw ?zwhw ?zwht2 ?zwhkw2 ?zwhw2 ?_; (case zb => k_asm); (case zf => k_asm); (case zx => k_asm); (case zt => k_asm); (case zhk => first | exact rfl | assumption); (case zhH => assumption); (case zn => first | k_asm | exact news_sub (by k_asm) (sub_skip sub_same)); (case zhp => first | assumption | omega); (case zwC => kn_code); (case zwtb => assumption); (case zwhd => ktr_room); (case zwht => assumption); (case zwhkw => assumption); (case zwhw => assumption); (case zwht2 => assumption); (case zwhkw2 => assumption); (case zwhw2 => assumption); k_whole); (all_goals intros); (all_goals (try k_sweep)))) | (((with_reducible show wpAny _ _ (call (Value.ref 195) [Value.ref _, _]) _ _ _); k_dflt (refine' sign_among_num ?zb ?zf ?zx ?zt ?zhk ?zn ?zr ?zd ?zq1 ?zq2 ?zq3 ?zq4 ?_; (case zb => k_asm); (case zf => k_asm); (case zx => k_asm); (case zt => k_asm); (case zhk => first | exact rfl | assumption); (case zn => k_asm); (case zr => k_intsEnd); (case zd => ktr_room); (case zq1 => first | exact List.Mem.head _ | exact List.Mem.tail _ (List.Mem.head _) | exact List.Mem.tail _ (List.Mem.tail _ (List.Mem.head _))); (case zq2 => (repeat (first | exact StrsAre.nil | apply StrsAre.cons))); (case zq3 => assumption); (case zq4 => assumption); k_whole); (all_goals intros); (all_goals (try k_sweep)))) | (k_unfold; (try dsimp only)) | (k_end; kc_close) | walk1 | (dsimp only; walk1) | (leave1; (try dsimp only)))
  exact hret _ _ _ _ _ _ _ _ _ (by assumption) (by k_asm) (by first | k_asm | exact news_sub (by k_asm) (sub_skip sub_same)) (by assumption) (by assumption)
theorem product_num {t t' : TR} (N : News h₀ L s.heap (W pos ta (tabObj ps))) (C : CodeHd base 236 232) (tb : TabOk ⟨174, 36, 174, 76⟩ ps) (hd : dp + 12 < recursionLimit) (ht : tokAt r.toks pos 0 = some t) (hkw : t.k = "number") (hw : t.w = "2") (ht2 : tokAt r.toks (pos + 1) 0 = some t') (hkw2 : t'.k = "sign") (hw2 : t'.w = ")")  {u : Tok}
    (hret : ∀ q q2 t1 t2 t3 h' tk' ta' ps', TabOk ⟨174, 36, 174, 76⟩ ps' → Fr h₀ L h' m → News h₀ L h' ((q2, { cls := .type "tuple", data := .seq #[.str "number" t3, .ref q] }) :: (q, { cls := .type "tuple", data := .seq #[.int 2 t1, .int 0 t2] }) :: W (pos + 1) ta' (tabObj ps')) → (∀ p ∈ W (pos + 1) ta' (tabObj ps'), p.1 < q) → q < q2 → Q (.ref q2) { s with heap := h', toks := tk' }) :
    wpAny (model prog w) (ktrTop dp un gd cn cs L a ccd cl outer) (call (.ref 209) [.ref r.x, .int k u]) Q E s := by
  w_top off
  have h1 : ∀ sg, isSign r.toks pos 0 sg = false := fun sg => by rw [isSign_some ht, hkw]; rfl
  have R := H.rin pos ta (tabObj ps) hp
  have ⟨ix, id, il, it, le, lo⟩ := R
  refine wpAny_call ?_
  k_dflt (refine' code_def ?zk1 ?zk2 ?zk3 ?zk4 ?zk5 ?zkA ?zkF ?zkK ?zk6 ?zk7 ?zk8 ?zk9 ?zkB ?_ ?zc2 ?zc3 ?zc4 ?zc5; (case zkA => exact rfl); (case zkF => exact rfl); (case zkK => assumption); (case zk1 => k_asm); (case zk2 => k_asm); (case zk3 => k_asm); (case zk4 => k_asm); (case zk5 => k_asm); (case zk6 => k_is); (case zk7 => k_is); (case zk8 => ktr_room); (case zk9 => first | exact BindsTo.of_eq rfl | exact binds_K (by k_in) rfl (by k_is) rfl rfl rfl); (case zc5 => decide); (case zkB => exact locs rfl); (case zc2 => exact rfl); (case zc3 => exact rfl); (case zc4 => exact rfl); k_whole; intro _ _ _ _ _ _ _ _ _; (try dsimp only); (try k_fold))
  repeat' (first | (((with_reducible show wpAny _ _ (call (Value.ref 216) [Value.ref _, _]) _ _ _); k_dflt (refine' factor_num ?zb ?zf ?zx ?zt ?zhk ?zhH ?zhp ?zn ?zwC ?zwtb ?zwhd ?zwht ?zwhkw ?zwhw ?zwht2 ?zwhkw2 ?zwhw2 ?_; (case zb => k_asm); (case zf => k_asm); (case zx => k_asm); (case zt => k_asm); (case zhk => first | exact rfl | assumption); (case zhH => assumption); (case zn => first | k_asm | exact news_sub (by k_asm) (sub_skip sub_same)); (case zhp => first | assumption | omega); (case zwC => kn_code); (case zwtb => assumption); (case zwhd => ktr_room); (case zwht => assumption); (case zwhkw => assumption); (case zwhw => assumption); (case zwht2 => assumption); (case zwhkw2 => assumption); (case zwhw2 => assumption); k_whole); (all_goals intros); (all_goals (try k_sweep)))) | (((with_reducible show wpAny _ _ (call (Value.ref 195) [Value.ref _, _]) _ _ _); k_dflt (refine' sign_among_sg ?zb ?zf ?zx ?zt ?zhk ?zn ?zr ?zd ?zq1 ?zq2 ?zq3 ?zq4 ?_; (case zb => k_asm); (case zf => k_asm); (case zx => k_asm); (case zt => k_asm); (case zhk => first | exact rfl | assumption); (case zn => k_asm); (case zr => k_intsEnd); (case zd => ktr_room); (case zq1 => first | exact List.Mem.head _ | exact List.Mem.tail _ (List.Mem.head _) | exact List.Mem.tail _ (List.Mem.tail _ (List.Mem.head _))); (case zq2 => (repeat (first | exact StrsAre.nil | apply StrsAre.cons))); (case zq3 => assumption); (case zq4 => first | assumption | ((have hw9ζ := (by assumption : TR.w _ = _)); rw [hw9ζ]; decide +kernel)); k_whole); (all_goals intros); (all_goals (try k_sweep)))) | ((with_reducible show WhlIf _ _ _); ((first | (refine WhlIf.yes (by with_unfolding_all rfl) ?_) | (refine WhlIf.no (by with_unfolding_all rfl) ?_) | (refine WhlIf.yes (by assumption) ?_) | (refine WhlIf.no (by assumption) ?_) | (refine whl_split ?_ ?_ <;> intro)))) | ((with_reducible show wpAny _ _ (exec (Stmt.While _ _ _ _) _) _ _ _); ((k_dflt (refine whl_start 100 ?_)))) | (k_unfold; (try dsimp only)) | (k_end; kc_close) | walk1 | (dsimp only; walk1) | (leave1; (try dsimp only)))
  exact hret _ _ _ _ _ _ _ _ _ (by assumption) (by k_asm) (by first | k_asm | exact news_sub (by k_asm) (sub_skip sub_same)) (by assumption) (by assumption)
theorem sum_num {t t' : TR} (N : News h₀ L s.heap (W pos ta (tabObj ps))) (C : CodeHd base 236 232) (tb : TabOk ⟨174, 36, 174, 76⟩ ps) (hd : dp + 13 < recursionLimit) (ht : tokAt r.toks pos 0 = some t) (hkw : t.k = "number") (hw : t.w = "2") (ht2 : tokAt r.toks (pos + 1) 0 = some t') (hkw2 : t'.k = "sign") (hw2 : t'.w = ")")  {u : Tok}
    (hret : ∀ q q2 t1 t2 t3 h' tk' ta' ps', TabOk ⟨174, 36, 174, 76⟩ ps' → Fr h₀ L h' m → News h₀ L h' ((q2, { cls := .type "tuple", data := .seq #[.str "number" t3, .ref q] }) :: (q, { cls := .type "tuple", data := .seq #[.int 2 t1, .int 0 t2] }) :: W (pos + 1) ta' (tabObj ps')) → (∀ p ∈ W (pos + 1) ta' (tabObj ps'), p.1 < q) → q < q2 → Q (.ref q2) { s with heap := h', toks := tk' }) :
    wpAny (model prog w) (ktrTop dp un gd cn cs L a ccd cl outer) (call (.ref 202) [.ref r.x, .int 0 u]) Q E s := by
  w_top off
  have h1 : ∀ sg, isSign r.toks pos 0 sg = false := fun sg => by rw [isSign_some ht, hkw]; rfl
  have R := H.rin pos ta (tabObj ps) hp
  have ⟨ix, id, il, it, le, lo⟩ := R
  refine wpAny_call ?_
  k_dflt (refine' code_def ?zk1 ?zk2 ?zk3 ?zk4 ?zk5 ?zkA ?zkF ?zkK ?zk6 ?zk7 ?zk8 ?zk9 ?zkB ?_ ?zc2 ?zc3 ?zc4 ?zc5; (case zkA => exact rfl); (case zkF => exact rfl); (case zkK => assumption); (case zk1 => k_asm); (case zk2 => k_asm); (case zk3 => k_asm); (case zk4 => k_asm); (case zk5 => k_asm); (case zk6 => k_is); (case zk7 => k_is); (case zk8 => ktr_room); (case zk9 => first | exact BindsTo.of_eq rfl | exact binds_K (by k_in) rfl (by k_is) rfl rfl rfl); (case zc5 => decide); (case zkB => exact locs rfl); (case zc2 => exact rfl); (case zc3 => exact rfl); (case zc4 => exact rfl); k_whole; intro _ _ _ _ _ _ _ _ _; (try dsimp only); (try k_fold))
  repeat' (first | (((with_reducible show wpAny _ _ (call (Value.ref 209) [Value.ref _, _]) _ _ _); k_dflt (refine' product_num ?zb ?zf ?zx ?zt ?zhk ?zhH ?zhp ?zn ?zwC ?zwtb ?zwhd ?zwht ?zwhkw ?zwhw ?zwht2 ?zwhkw2 ?zwhw2 ?_; (case zb => k_asm); (case zf => k_asm); (case zx => k_asm); (case zt => k_asm); (case zhk => first | exact rfl | assumption); (case zhH => assumption); (case zn => first | k_asm | exact news_sub (by k_asm) (sub_skip sub_same)); (case zhp => first | assumption | omega); (case zwC => kn_code); (case zwtb => assumption); (case zwhd => ktr_room); (case zwht => assumption); (case zwhkw => assumption); (case zwhw => assumption); (case zwht2 => assumption); (case zwhkw2 => assumption); (case zwhw2 => assumption); k_whole); (all_goals intros); (all_goals (try k_sweep)))) | (((with_reducible show wpAny _ _ (call (Value.ref 195) [Value.ref _, _]) _ _ _); k_dflt (refine' sign_among_sg ?zb ?zf ?zx ?zt ?zhk ?zn ?zr ?zd ?zq1 ?zq2 ?zq3 ?zq4 ?_; (case zb => k_asm); (case zf => k_asm); (case zx => k_asm); (case zt => k_asm); (case zhk => first | exact rfl | assumption); (case zn => k_asm); (case zr => k_intsEnd); (case zd => ktr_room); (case zq1 => first | exact List.Mem.head _ | exact List.Mem.tail _ (List.Mem.head _) | exact List.Mem.tail _ (List.Mem.tail _ (List.Mem.head _))); (case zq2 => (repeat (first | exact StrsAre.nil | apply StrsAre.cons))); (case zq3 => assumption); (case zq4 => first | assumption | ((have hw9ζ := (by assumption : TR.w _ = _)); rw [hw9ζ]; decide +kernel)); k_whole); (all_goals intros); (all_goals (try k_sweep)))) | ((with_reducible show WhlIf _ _ _); ((first | (refine WhlIf.yes (by with_unfolding_all rfl) ?_) | (refine WhlIf.no (by with_unfolding_all rfl) ?_) | (refine WhlIf.yes (by assumption) ?_) | (refine WhlIf.no (by assumption) ?_) | (refine whl_split ?_ ?_ <;> intro)))) | ((with_reducible show wpAny _ _ (exec (Stmt.While _ _ _ _) _) _ _ _); ((k_dflt (refine whl_start 100 ?_)))) | (k_unfold; (try dsimp only)) | (k_end; kc_close) | walk1 | (dsimp only; walk1) | (leave1; (try dsimp only)))
  exact hret _ _ _ _ _ _ _ _ _ (by assumption) (by k_asm) (by first | k_asm | exact news_sub (by k_asm) (sub_skip sub_same)) (by assumption) (by assumption)
end
-- C11
section
variable {prog : Program} {w : World} {p : Program} {loose : List Str} {mean : ExcName → Option Value} {mg mb : Str → Option Value}
  {dp un : Nat} {gd : Option (List Code)} {cn : Str} {cs : Scope} {a : Addr} {ccd : Value} {cl : List (Str × Addr)} {outer : List Env} {A₀ : Around} {base h₀ : Heap} {L : Addr} {m : Str → Option Value} {s : Shared} {Q E : Value → Shared → Prop}
  {r : RR} {W : Int → Tok → Obj → List (Addr × Obj)} {pos : Int} {ta : Tok} {o : Obj} {ps : Array Value} {k : Int} {u : Tok}
variable (B : Below A₀ base outer h₀) (F : Fr h₀ L s.heap m) (X : (Mine.kMake.heap_1 w.params).In h₀) (T : Top p loose mean mg mb h₀) (hk : cs.kind = .function) (H : Hole w.params r W) (hp : 0 ≤ pos)
include B F X T hk H hp
theorem expr_num {t t' : TR} (N : News h₀ L s.heap (W pos ta (tabObj ps))) (C : CodeHd base 236 232) (tb : TabOk ⟨174, 36, 174, 76⟩ ps) (hd : dp + 14 < recursionLimit) (ht : tokAt r.toks pos 0 = some t) (hkw : t.k = "number") (hw : t.w = "2") (ht2 : tokAt r.toks (pos + 1) 0 = some t') (hkw2 : t'.k = "sign") (hw2 : t'.w = ")") 
    (hret : ∀ q q2 t1 t2 t3 h' tk' ta' ps', TabOk ⟨174, 36, 174, 76⟩ ps' → Fr h₀ L h' m → News h₀ L h' ((q2, { cls := .type "tuple", data := .seq #[.str "number" t3, .ref q] }) :: (q, { cls := .type "tuple", data := .seq #[.int 2 t1, .int 0 t2] }) :: W (pos + 1) ta' (tabObj ps')) → (∀ p ∈ W (pos + 1) ta' (tabObj ps'), p.1 < q) → q < q2 → Q (.ref q2) { s with heap := h', toks := tk' }) :
    wpAny (model prog w) (ktrTop dp un gd cn cs L a ccd cl outer) (call (.ref 188) [.ref r.x]) Q E s := by
  w_top off
  have R := H.rin pos ta (tabObj ps) hp
  have ⟨ix, id, il, it, le, lo⟩ := R
  refine wpAny_call ?_
  k_dflt (refine' code_def ?zk1 ?zk2 ?zk3 ?zk4 ?zk5 ?zkA ?zkF ?zkK ?zk6 ?zk7 ?zk8 ?zk9 ?zkB ?_ ?zc2 ?zc3 ?zc4 ?zc5; (case zkA => exact rfl); (case zkF => exact rfl); (case zkK => assumption); (case zk1 => k_asm); (case zk2 => k_asm); (case zk3 => k_asm); (case zk4 => k_asm); (case zk5 => k_asm); (case zk6 => k_is); (case zk7 => k_is); (case zk8 => ktr_room); (case zk9 => first | exact BindsTo.of_eq rfl | exact binds_K (by k_in) rfl (by k_is) rfl rfl rfl); (case zc5 => decide); (case zkB => exact locs rfl); (case zc2 => exact rfl); (case zc3 => exact rfl); (case zc4 => exact rfl); k_whole; intro _ _ _ _ _ _ _ _ _; (try dsimp only); (try k_fold))
  repeat' (first | (((with_reducible show wpAny _ _ (call (Value.ref 202) [Value.ref _, _]) _ _ _); k_dflt (refine' sum_num ?zb ?zf ?zx ?zt ?zhk ?zhH ?zhp ?zn ?zwC ?zwtb ?zwhd ?zwht ?zwhkw ?zwhw ?zwht2 ?zwhkw2 ?zwhw2 ?_; (case zb => k_asm); (case zf => k_asm); (case zx => k_asm); (case zt => k_asm); (case zhk => first | exact rfl | assumption); (case zhH => assumption); (case zn => first | k_asm | exact news_sub (by k_asm) (sub_skip sub_same)); (case zhp => first | assumption | omega); (case zwC => kn_code); (case zwtb => assumption); (case zwhd => ktr_room); (case zwht => assumption); (case zwhkw => assumption); (case zwhw => assumption); (case zwht2 => assumption); (case zwhkw2 => assumption); (case zwhw2 => assumption); k_whole); (all_goals intros); (all_goals (try k_sweep)))) | (k_unfold; (try dsimp only)) | (k_end; kc_close) | walk1 | (dsimp only; walk1) | (leave1; (try dsimp only)))
  exact hret _ _ _ _ _ _ _ _ _ (by assumption) (by k_asm) (by first | k_asm | exact news_sub (by k_asm) (sub_skip sub_same)) (by assumption) (by assumption)
end
-- C12
theorem ltLt {q q2 : Nat} {l : List (Addr × Obj)} (h : ∀ p ∈ l, p.1 < q) (h2 : q < q2) : ∀ p ∈ l, p.1 < q2 := fun p hp => Nat.lt_trans (h p hp) h2
section
variable {prog : Program} {w : World} {p : Program} {loose : List Str} {mean : ExcName → Option Value} {mg mb : Str → Option Value}
  {dp un : Nat} {gd : Option (List Code)} {cn : Str} {cs : Scope} {a : Addr} {ccd : Value} {cl : List (Str × Addr)} {outer : List Env} {A₀ : Around} {base h₀ : Heap} {L : Addr} {m : Str → Option Value} {s : Shared} {Q E : Value → Shared → Prop}
  {r : RR} {W : Int → Tok → Obj → List (Addr × Obj)} {pos : Int} {ta : Tok} {o : Obj} {ps : Array Value} {k : Int} {u : Tok}
variable (B : Below A₀ base outer h₀) (F : Fr h₀ L s.heap m) (X : (Mine.kMake.heap_1 w.params).In h₀) (T : Top p loose mean mg mb h₀) (hk : cs.kind = .function) (H : Hole w.params r W) (hp : 0 ≤ pos)
include B F X T hk H hp
end
local macro_rules | `(tactic| k_mem) => `(tactic| first | exact (Hole.rin (by assumption) _ _ _ (by first | assumption | omega)).ix | exact List.Mem.tail _ ((Hole.rin (by assumption) _ _ _ (by first | assumption | omega)).ix) | exact List.Mem.tail _ (List.Mem.tail _ ((Hole.rin (by assumption) _ _ _ (by first | assumption | omega)).ix)) | exact List.Mem.tail _ (List.Mem.tail _ (List.Mem.tail _ ((Hole.rin (by assumption) _ _ _ (by first | assumption | omega)).ix))) | exact List.Mem.tail _ (List.Mem.tail _ (List.Mem.tail _ (List.Mem.tail _ ((Hole.rin (by assumption) _ _ _ (by first | assumption | omega)).ix)))) | exact List.Mem.tail _ (List.Mem.tail _ (List.Mem.tail _ (List.Mem.tail _ (List.Mem.tail _ ((Hole.rin (by assumption) _ _ _ (by first | assumption | omega)).ix))))) | exact (Hole.rin (by assumption) _ _ _ (by first | assumption | omega)).id | exact List.Mem.tail _ ((Hole.rin (by assumption) _ _ _ (by first | assumption | omega)).id) | exact List.Mem.tail _ (List.Mem.tail _ ((Hole.rin (by assumption) _ _ _ (by first | assumption | omega)).id)) | exact List.Mem.tail _ (List.Mem.tail _ (List.Mem.tail _ ((Hole.rin (by assumption) _ _ _ (by first | assumption | omega)).id))) | exact List.Mem.tail _ (List.Mem.tail _ (List.Mem.tail _ (List.Mem.tail _ ((Hole.rin (by assumption) _ _ _ (by first | assumption | omega)).id)))) | exact List.Mem.tail _ (List.Mem.tail _ (List.Mem.tail _ (List.Mem.tail _ (List.Mem.tail _ ((Hole.rin (by assumption) _ _ _ (by first | assumption | omega)).id))))) | exact (Hole.rin (by assumption) _ _ _ (by first | assumption | omega)).il | exact List.Mem.tail _ ((Hole.rin (by assumption) _ _ _ (by first | assumption | omega)).il) | exact List.Mem.tail _ (List.Mem.tail _ ((Hole.rin (by assumption) _ _ _ (by first | assumption | omega)).il)) | exact List.Mem.tail _ (List.Mem.tail _ (List.Mem.tail _ ((Hole.rin (by assumption) _ _ _ (by first | assumption | omega)).il))) | exact List.Mem.tail _ (List.Mem.tail _ (List.Mem.tail _ (List.Mem.tail _ ((Hole.rin (by assumption) _ _ _ (by first | assumption | omega)).il)))) | exact List.Mem.tail _ (List.Mem.tail _ (List.Mem.tail _ (List.Mem.tail _ (List.Mem.tail _ ((Hole.rin (by assumption) _ _ _ (by first | assumption | omega)).il))))))
section
variable {prog : Program} {w : World} {p : Program} {loose : List Str} {mean : ExcName → Option Value} {mg mb : Str → Option Value}
  {dp un : Nat} {gd : Option (List Code)} {cn : Str} {cs : Scope} {a : Addr} {ccd : Value} {cl : List (Str × Addr)} {outer : List Env} {A₀ : Around} {base h₀ : Heap} {L : Addr} {m : Str → Option Value} {s : Shared} {Q E : Value → Shared → Prop}
  {r : RR} {W : Int → Tok → Obj → List (Addr × Obj)} {pos : Int} {ta : Tok} {o : Obj} {ps : Array Value} {k : Int} {u : Tok}
variable (B : Below A₀ base outer h₀) (F : Fr h₀ L s.heap m) (X : (Mine.kMake.heap_1 w.params).In h₀) (T : Top p loose mean mg mb h₀) (hk : cs.kind = .function) (H : Hole w.params r W) (hp : 0 ≤ pos)
include B F X T hk H hp
end
local macro_rules | `(tactic| k_ne) => `(tactic| first | exact Hole.ne (by assumption) (ltLt (by assumption) (by assumption)) | exact Hole.ne (by assumption) (allLt_all (And.right (And.right (by assumption)))) | exact Hole.ne (by assumption) (allLt_all (And.right (And.right (And.right (by assumption))))) | exact Hole.ne (by assumption) (ltTail (ltTail (ltTail (by assumption)))) | exact Hole.ne (by assumption) (ltTail (ltTail (ltTail (ltTail (by assumption))))))
section
variable {prog : Program} {w : World} {p : Program} {loose : List Str} {mean : ExcName → Option Value} {mg mb : Str → Option Value}
  {dp un : Nat} {gd : Option (List Code)} {cn : Str} {cs : Scope} {a : Addr} {ccd : Value} {cl : List (Str × Addr)} {outer : List Env} {A₀ : Around} {base h₀ : Heap} {L : Addr} {m : Str → Option Value} {s : Shared} {Q E : Value → Shared → Prop}
  {r : RR} {W : Int → Tok → Obj → List (Addr × Obj)} {pos : Int} {ta : Tok} {o : Obj} {ps : Array Value} {k : Int} {u : Tok}
variable (B : Below A₀ base outer h₀) (F : Fr h₀ L s.heap m) (X : (Mine.kMake.heap_1 w.params).In h₀) (T : Top p loose mean mg mb h₀) (hk : cs.kind = .function) (H : Hole w.params r W) (hp : 0 ≤ pos)
include B F X T hk H hp
theorem subs_num {t0 t t' : TR} (N : News h₀ L s.heap (W pos ta (tabObj ps))) (C : CodeHd base 236 232) (tb : TabOk ⟨174, 36, 174, 76⟩ ps) (hd : dp + 16 < recursionLimit) (ht0 : tokAt r.toks pos 0 = some t0) (hk0 : t0.k = "sign") (hw0 : t0.w = "(") (ht : tokAt r.toks (pos + 1) 0 = some t) (hkw : t.k = "number") (hw : t.w = "2") (ht2 : tokAt r.toks (pos + 1 + 1) 0 = some t') (hkw2 : t'.k = "sign") (hw2 : t'.w = ")")
    (hret : ∀ q q2 q3 t1 t2 t3 h' tk' ta' ps', TabOk ⟨174, 36, 174, 76⟩ ps' → Fr h₀ L h' m → News h₀ L h' ((q3, { cls := .type "tuple", data := .seq #[.ref q2] }) :: (q2, { cls := .type "tuple", data := .seq #[.str "number" t3, .ref q] }) :: (q, { cls := .type "tuple", data := .seq #[.int 2 t1, .int 0 t2] }) :: W (pos + 1 + 1 + 1) ta' (tabObj ps')) → (∀ p ∈ W (pos + 1 + 1 + 1) ta' (tabObj ps'), p.1 < q) → q < q2 → q2 < q3 → Q (.ref q3) { s with heap := h', toks := tk' }) :
    wpAny (model prog w) (ktrTop dp un gd cn cs L a ccd cl outer) (call (.ref 36) [.ref r.x, .ref 188]) Q E s := by
  w_top off
  have s0 : isSign r.toks pos 0 "(" = true := by rw [isSign_some ht0, hk0, hw0]; decide +kernel
  have s1 : isSign r.toks (pos + 1 + 1) 0 ")" = true := by rw [isSign_some ht2, hkw2, hw2]; decide +kernel
  have R := H.rin pos ta (tabObj ps) hp
  have ⟨ix, id, il, it, le, lo⟩ := R
  refine wpAny_call ?_
  k_dflt (refine' code_def ?zk1 ?zk2 ?zk3 ?zk4 ?zk5 ?zkA ?zkF ?zkK ?zk6 ?zk7 ?zk8 ?zk9 ?zkB ?_ ?zc2 ?zc3 ?zc4 ?zc5; (case zkA => exact rfl); (case zkF => exact rfl); (case zkK => assumption); (case zk1 => k_asm); (case zk2 => k_asm); (case zk3 => k_asm); (case zk4 => k_asm); (case zk5 => k_asm); (case zk6 => k_is); (case zk7 => k_is); (case zk8 => ktr_room); (case zk9 => first | exact BindsTo.of_eq rfl | exact binds_K (by k_in) rfl (by k_is) rfl rfl rfl); (case zc5 => decide); (case zkB => exact locs rfl); (case zc2 => exact rfl); (case zc3 => exact rfl); (case zc4 => exact rfl); k_whole; intro _ _ _ _ _ _ _ _ _; (try dsimp only); (try k_fold))
  repeat' (first | (((with_reducible show wpAny _ _ (call (Value.ref 188) _ _) _ _ _); (k_dflt show wpAny _ _ (call (Value.ref 188) [Value.ref _]) _ _ _); k_dflt (refine' expr_num ?zb ?zf ?zx ?zt ?zhk ?zhH ?zhp ?zn ?zwC ?zwtb ?zwhd ?zwht ?zwhkw ?zwhw ?zwht2 ?zwhkw2 ?zwhw2 ?_; (case zb => k_asm); (case zf => k_asm); (case zx => k_asm); (case zt => k_asm); (case zhk => first | exact rfl | assumption); (case zhH => assumption); (case zn => first | k_asm | exact news_sub (by k_asm) (sub_skip sub_same)); (case zhp => first | assumption | omega); (case zwC => kn_code); (case zwtb => assumption); (case zwhd => ktr_room); (case zwht => assumption); (case zwhkw => assumption); (case zwhw => assumption); (case zwht2 => assumption); (case zwhkw2 => assumption); (case zwhw2 => assumption); k_whole); (all_goals intros); (all_goals (try k_sweep)))) | (((with_reducible show wpAny _ _ (call (Value.ref 452) [Value.ref _, _]) _ _ _); k_dflt (refine' skip_sign_yes ?zb ?zf ?zx ?zt ?zhk ?zn ?zr ?zd ?zq1 ?zu ?_; (case zb => k_asm); (case zf => k_asm); (case zx => k_asm); (case zt => k_asm); (case zhk => first | exact rfl | assumption); (case zn => k_asm); (case zr => k_intsEnd); (case zd => ktr_room); (case zq1 => first | assumption | (rw [isSign_some (by assumption)]; decide +kernel) | (rw [isWord_some (by assumption)]; decide +kernel)); (case zu => intro ta9ζ; k_upd); k_whole); (all_goals intros); (all_goals (try k_sweep)))) | (((with_reducible show wpAny _ _ (call (Value.ref 459) [Value.ref _, _]) _ _ _); k_dflt (refine' need_sign_ok ?zb ?zf ?zx ?zt ?zhk ?zn ?zr ?zd ?zu ?zq1 ?_; (case zb => k_asm); (case zf => k_asm); (case zx => k_asm); (case zt => k_asm); (case zhk => first | exact rfl | assumption); (case zn => k_asm); (case zr => k_intsEnd); (case zd => ktr_room); (case zu => intro ta9ζ; k_upd); (case zq1 => assumption); k_whole); (all_goals intros); (all_goals (try k_sweep)))) | ((with_reducible show WhlIf _ _ _); ((first | (refine WhlIf.yes (by with_unfolding_all rfl) ?_) | (refine WhlIf.no (by with_unfolding_all rfl) ?_) | (refine WhlIf.yes (by assumption) ?_) | (refine WhlIf.no (by assumption) ?_) | (refine whl_split ?_ ?_ <;> intro)))) | ((with_reducible show wpAny _ _ (exec (Stmt.While _ _ _ _) _) _ _ _); ((k_dflt (refine whl_start 100 ?_)))) | (k_unfold; (try dsimp only)) | (k_end; kc_close) | walk1 | (dsimp only; walk1) | (leave1; (try dsimp only)))
  exact hret _ _ _ _ _ _ _ _ _ _ (by assumption) (by k_asm) (news_sub (by k_asm) (sub_keep (sub_skip sub_same))) (H.lt (by assumption)) (by assumption) (by first | exact And.left (And.right (by assumption : _ < _ ∧ _ < _ ∧ _ < _ ∧ AllLt _ _)) | omega)
end
-- C13
section
variable {prog : Program} {w : World} {p : Program} {loose : List Str} {mean : ExcName → Option Value} {mg mb : Str → Option Value}
  {dp un : Nat} {gd : Option (List Code)} {cn : Str} {cs : Scope} {a : Addr} {ccd : Value} {cl : List (Str × Addr)} {outer : List Env} {A₀ : Around} {base h₀ : Heap} {L : Addr} {m : Str → Option Value} {s : Shared} {Q E : Value → Shared → Prop}
  {r : RR} {pos : Int} {ta : Tok} {news : List (Addr × Obj)} {news' : Tok → List (Addr × Obj)} {k : Int} {u : Tok}
variable (B : Below A₀ base outer h₀) (F : Fr h₀ L s.heap m) (X : (Mine.kMake.heap_1 w.params).In h₀) (T : Top p loose mean mg mb h₀) (hk : cs.kind = .function) (N : News h₀ L s.heap news) (R : RIn w.params news r pos ta)
include B F X T hk N R
theorem part_no (hd : dp + 5 < recursionLimit) (hno : isSign r.toks pos 0 "(" = false) (hret0 : ∀ h' tk', Fr h₀ L h' m → News h₀ L h' news → Q (.bool false) { s with heap := h', toks := tk' }) :
    wpAny (model prog w) (ktrTop dp un gd cn cs L a ccd cl outer) (call (.ref 29) [.ref r.x]) Q E s := by
  w_top off
  have ⟨ix, id, il, it, le, lo⟩ := R
  refine wpAny_call ?_
  k_dflt (refine' code_def ?zk1 ?zk2 ?zk3 ?zk4 ?zk5 ?zkA ?zkF ?zkK ?zk6 ?zk7 ?zk8 ?zk9 ?zkB ?_ ?zc2 ?zc3 ?zc4 ?zc5; (case zkA => exact rfl); (case zkF => exact rfl); (case zkK => assumption); (case zk1 => k_asm); (case zk2 => k_asm); (case zk3 => k_asm); (case zk4 => k_asm); (case zk5 => k_asm); (case zk6 => k_is); (case zk7 => k_is); (case zk8 => ktr_room); (case zk9 => first | exact BindsTo.of_eq rfl | exact binds_K (by k_in) rfl (by k_is) rfl rfl rfl); (case zc5 => decide); (case zkB => exact locs rfl); (case zc2 => exact rfl); (case zc3 => exact rfl); (case zc4 => exact rfl); k_whole; intro _ _ _ _ _ _ _ _ _; (try dsimp only); (try k_fold))
  repeat' (first | (((with_reducible show wpAny _ _ (call (Value.ref 445) [Value.ref _, _]) _ _ _); k_dflt (refine' is_sign1_k ?zb ?zf ?zx ?zt ?zhk ?zn ?zr ?zd ?zq1 ?_; (case zb => k_asm); (case zf => k_asm); (case zx => k_asm); (case zt => k_asm); (case zhk => first | exact rfl | assumption); (case zn => k_asm); (case zr => k_intsEnd); (case zd => ktr_room); (case zq1 => first | assumption | (rw [isSign_some (by assumption)]; rfl) | (rw [isWord_some (by assumption)]; rfl) | (rw [isKind_some (by assumption)]; rfl)); k_whole); (all_goals intros); (all_goals (try k_sweep)))) | ((with_reducible show WhlIf _ _ _); ((first | (refine WhlIf.yes (by with_unfolding_all rfl) ?_) | (refine WhlIf.no (by with_unfolding_all rfl) ?_) | (refine WhlIf.yes (by assumption) ?_) | (refine WhlIf.no (by assumption) ?_) | (refine whl_split ?_ ?_ <;> intro)))) | ((with_reducible show wpAny _ _ (exec (Stmt.While _ _ _ _) _) _ _ _); ((k_dflt (refine whl_start 100 ?_)))) | (k_unfold; (try dsimp only)) | (k_end; kc_close) | walk1 | (dsimp only; walk1) | (leave1; (try dsimp only)))
  exact hret0 _ _ (by k_asm) (by first | k_asm | exact cb_drop (by k_asm) (fun _ hp => List.Mem.tail _ hp) | exact cb_drop (by k_asm) (fun _ hp => List.Mem.tail _ (List.Mem.tail _ hp)) | exact cb_drop (by k_asm) (fun _ hp => List.Mem.tail _ (List.Mem.tail _ (List.Mem.tail _ hp))))
theorem part_sub {t0 t t' : TR} (hd : dp + 5 < recursionLimit) (ht0 : tokAt r.toks pos 0 = some t0) (hk0 : t0.k = "sign") (hw0 : t0.w = "(") (ht : tokAt r.toks pos 1 = some t) (hkw : t.k = "number") (ht2 : tokAt r.toks pos 2 = some t') (hkw2 : t'.k = "sign") (hw2 : t'.w = ")") (hret0 : ∀ h' tk', Fr h₀ L h' m → News h₀ L h' news → Q (.bool false) { s with heap := h', toks := tk' }) :
    wpAny (model prog w) (ktrTop dp un gd cn cs L a ccd cl outer) (call (.ref 29) [.ref r.x]) Q E s := by
  w_top off
  have a0 : isSign r.toks pos 0 "(" = true := by rw [isSign_some ht0, hk0, hw0]; decide +kernel
  have a1 : ∀ sg, isSign r.toks pos 1 sg = false := by intro sg; rw [isSign_some ht, hkw]; rfl
  have b1 := a1 "("
  have b2 := a1 ")"
  have b3 := a1 ":"
  have a2 : isSign r.toks pos 2 "(" = false := by rw [isSign_some ht2, hkw2, hw2]; decide +kernel
  have a3 : isSign r.toks pos 2 ")" = true := by rw [isSign_some ht2, hkw2, hw2]; decide +kernel
  have ⟨ix, id, il, it, le, lo⟩ := R
  refine wpAny_call ?_
  k_dflt (refine' code_def ?zk1 ?zk2 ?zk3 ?zk4 ?zk5 ?zkA ?zkF ?zkK ?zk6 ?zk7 ?zk8 ?zk9 ?zkB ?_ ?zc2 ?zc3 ?zc4 ?zc5; (case zkA => exact rfl); (case zkF => exact rfl); (case zkK => assumption); (case zk1 => k_asm); (case zk2 => k_asm); (case zk3 => k_asm); (case zk4 => k_asm); (case zk5 => k_asm); (case zk6 => k_is); (case zk7 => k_is); (case zk8 => ktr_room); (case zk9 => first | exact BindsTo.of_eq rfl | exact binds_K (by k_in) rfl (by k_is) rfl rfl rfl); (case zc5 => decide); (case zkB => exact locs rfl); (case zc2 => exact rfl); (case zc3 => exact rfl); (case zc4 => exact rfl); k_whole; intro _ _ _ _ _ _ _ _ _; (try dsimp only); (try k_fold))
  repeat' (first | (((with_reducible show wpAny _ _ (call (Value.ref 445) [Value.ref _, _]) _ _ _); k_dflt (refine' is_sign1_k ?zb ?zf ?zx ?zt ?zhk ?zn ?zr ?zd ?zq1 ?_; (case zb => k_asm); (case zf => k_asm); (case zx => k_asm); (case zt => k_asm); (case zhk => first | exact rfl | assumption); (case zn => k_asm); (case zr => k_intsEnd); (case zd => ktr_room); (case zq1 => first | assumption | (rw [isSign_some (by assumption)]; rfl) | (rw [isWord_some (by assumption)]; rfl) | (rw [isKind_some (by assumption)]; rfl)); k_whole); (all_goals intros); (all_goals (try k_sweep)))) | (((with_reducible show wpAny _ _ (call (Value.ref 445) [Value.ref _, _, _]) _ _ _); k_dflt (refine' is_sign2_k ?zb ?zf ?zx ?zt ?zhk ?zn ?zr ?zd ?zz ?zq1 ?_; (case zb => k_asm); (case zf => k_asm); (case zx => k_asm); (case zt => k_asm); (case zhk => first | exact rfl | assumption); (case zn => k_asm); (case zr => k_intsEnd); (case zd => ktr_room); (case zz => first | decide | omega); (case zq1 => first | assumption | (rw [isSign_some (by assumption)]; rfl) | (rw [isWord_some (by assumption)]; rfl) | (rw [isKind_some (by assumption)]; rfl)); k_whole); (all_goals intros); (all_goals (try k_sweep)))) | (((with_reducible show wpAny _ _ (call (Value.ref 351) [Value.ref _, _]) _ _ _); k_dflt (refine' peek1k ?zb ?zf ?zx ?zt ?zhk ?zn ?zr ?zd ?zz ?zht ?_; (case zb => k_asm); (case zf => k_asm); (case zx => k_asm); (case zt => k_asm); (case zhk => first | exact rfl | assumption); (case zn => k_asm); (case zr => k_intsEnd); (case zd => ktr_room); (case zz => first | decide | omega); (case zht => assumption); k_whole); (all_goals intros); (all_goals (try k_sweep)))) | ((with_reducible show WhlIf _ _ _); ((first | (refine WhlIf.yes (by with_unfolding_all rfl) ?_) | (refine WhlIf.no (by with_unfolding_all rfl) ?_) | (refine WhlIf.yes (by assumption) ?_) | (refine WhlIf.no (by assumption) ?_) | (refine whl_split ?_ ?_ <;> intro)))) | ((with_reducible show wpAny _ _ (exec (Stmt.While _ _ _ _) _) _ _ _); ((k_dflt (refine whl_start 100 ?_)))) | (k_unfold; (try dsimp only)) | (k_end; kc_close) | walk1 | (dsimp only; walk1) | (leave1; (try dsimp only)))
  exact hret0 _ _ (by k_asm) (by first | k_asm | exact cb_drop (by k_asm) (fun _ hp => List.Mem.tail _ hp) | exact cb_drop (by k_asm) (fun _ hp => List.Mem.tail _ (List.Mem.tail _ hp)) | exact cb_drop (by k_asm) (fun _ hp => List.Mem.tail _ (List.Mem.tail _ (List.Mem.tail _ hp))))
end
-- C14
abbrev app (tl : List (Addr × Obj)) (W : Int → Tok → Obj → List (Addr × Obj)) : Int → Tok → Obj → List (Addr × Obj) := fun pos ta o => tl ++ W pos ta o
def Off (dx : Addr) (tl : List (Addr × Obj)) : Prop := ∀ q ∈ tl, q.1 ≠ dx ∧ q.1 ≠ 232
theorem off_nil {dx : Addr} : Off dx [] := fun _ h => nomatch h
theorem off_cons {dx : Addr} {q : Addr × Obj} {tl : List (Addr × Obj)} (h1 : q.1 ≠ dx) (h2 : q.1 ≠ 232) (h : Off dx tl) : Off dx (q :: tl) := by
  intro p hp
  rcases List.mem_cons.mp hp with rfl | hp
  · exact ⟨h1, h2⟩
  · exact h p hp
theorem Hole.cons {P : Params} {r : RR} {W : Int → Tok → Obj → List (Addr × Obj)} {q : Addr × Obj} (H : Hole P r W) (h1 : q.1 ≠ r.dx) (h2 : q.1 ≠ 232) : Hole P r (fun pos ta o => q :: W pos ta o) :=
  ⟨fun pos ta pos' ta' o => .tail h1 (H.upd pos ta pos' ta' o), fun pos ta o => .tail h2 (H.tab pos ta o), fun pos ta o hp => (H.rin pos ta o hp).cons⟩
theorem Hole.app {P : Params} {r : RR} {W : Int → Tok → Obj → List (Addr × Obj)} (H : Hole P r W) : ∀ {tl : List (Addr × Obj)}, Off r.dx tl → Hole P r (app tl W)
  | [], _ => H
  | q :: tl, h => Hole.cons (Hole.app H (tl := tl) fun p hp => h p (.tail _ hp)) (h q (.head _)).1 (h q (.head _)).2
theorem app_sub {tl : List (Addr × Obj)} {W : Int → Tok → Obj → List (Addr × Obj)} : ∀ pos ta o, ∀ p ∈ W pos ta o, p ∈ app tl W pos ta o := fun _ _ _ _ hp => List.mem_append_right _ hp
abbrev dRef (x : Str) (qs subs : List Dat) : Dat := .tuple [.str "ref", .str x, .tuple qs, .tuple subs, .none]
theorem dat_sub {W W' : Int → Tok → Obj → List (Addr × Obj)} {v : Value} {d : Dat} {pos : Int} {ta : Tok} {o : Obj} (h : ∀ pos ta o, ∀ p ∈ W pos ta o, p ∈ W' pos ta o) (hd : ∀ pos ta o, DatIn (W pos ta o) v d) : DatIn (W' pos ta o) v d := (hd pos ta o).mono (h pos ta o)
section
variable {prog : Program} {w : World} {p : Program} {loose : List Str} {mean : ExcName → Option Value} {mg mb : Str → Option Value}
  {dp un : Nat} {gd : Option (List Code)} {cn : Str} {cs : Scope} {a : Addr} {ccd : Value} {cl : List (Str × Addr)} {outer : List Env} {A₀ : Around} {base h₀ : Heap} {L : Addr} {m : Str → Option Value} {s : Shared} {Q E : Value → Shared → Prop}
  {r : RR} {W : Int → Tok → Obj → List (Addr × Obj)} {pos : Int} {ta : Tok} {o : Obj} {ps : Array Value} {k : Int} {u : Tok}
variable (B : Below A₀ base outer h₀) (F : Fr h₀ L s.heap m) (X : (Mine.kMake.heap_1 w.params).In h₀) (T : Top p loose mean mg mb h₀) (hk : cs.kind = .function) (H : Hole w.params r W) (hp : 0 ≤ pos)
include B F X T hk H hp
end
local macro_rules | `(tactic| k_ne) => `(tactic| first | exact Hole.ne (by assumption) (by (first | assumption | exact allLt_all (by assumption) | exact allLt_all (And.right (by assumption)) | exact allLt_all (And.right (And.right (by assumption))) | exact allLt_all (And.right (And.right (And.right (by assumption)))) | exact allLt_all (And.right (And.right (And.right (And.right (by assumption))))) | exact allLt_all (And.right (And.right (And.right (And.right (And.right (by assumption)))))) | exact allLt_all (And.right (And.right (And.right (And.right (And.right (And.right (by assumption))))))) | exact allLt_all (And.right (And.right (And.right (And.right (And.right (And.right (And.right (by assumption)))))))) | exact allLt_all (And.right (And.right (And.right (And.right (And.right (And.right (And.right (And.right (by assumption))))))))) | exact ltSucc (by assumption) | exact ltLt (by assumption) (by assumption) | exact ltTail (by assumption) | exact ltTail (ltTail (by assumption)) | exact ltTail (ltTail (ltTail (by assumption))) | exact ltTail (ltTail (ltTail (ltTail (by assumption)))) | exact ltTail (ltTail (ltTail (ltTail (ltTail (by assumption))))) | exact ltLt (ltLt (by assumption) (by assumption)) (by assumption) | exact ltLt (ltTail (ltTail (by assumption))) (by assumption) | exact ltLt (ltLt (ltTail (ltTail (by assumption))) (by assumption)) (by assumption))) | exact Hole.neT (by assumption) (by (first | assumption | exact allLt_all (by assumption) | exact allLt_all (And.right (by assumption)) | exact allLt_all (And.right (And.right (by assumption))) | exact allLt_all (And.right (And.right (And.right (by assumption)))) | exact allLt_all (And.right (And.right (And.right (And.right (by assumption))))) | exact allLt_all (And.right (And.right (And.right (And.right (And.right (by assumption)))))) | exact allLt_all (And.right (And.right (And.right (And.right (And.right (And.right (by assumption))))))) | exact allLt_all (And.right (And.right (And.right (And.right (And.right (And.right (And.right (by assumption)))))))) | exact allLt_all (And.right (And.right (And.right (And.right (And.right (And.right (And.right (And.right (by assumption))))))))) | exact ltSucc (by assumption) | exact ltLt (by assumption) (by assumption) | exact ltTail (by assumption) | exact ltTail (ltTail (by assumption)) | exact ltTail (ltTail (ltTail (by assumption))) | exact ltTail (ltTail (ltTail (ltTail (by assumption)))) | exact ltTail (ltTail (ltTail (ltTail (ltTail (by assumption))))) | exact ltLt (ltLt (by assumption) (by assumption)) (by assumption) | exact ltLt (ltTail (ltTail (by assumption))) (by assumption) | exact ltLt (ltLt (ltTail (ltTail (by assumption))) (by assumption)) (by assumption))))
section
variable {prog : Program} {w : World} {p : Program} {loose : List Str} {mean : ExcName → Option Value} {mg mb : Str → Option Value}
  {dp un : Nat} {gd : Option (List Code)} {cn : Str} {cs : Scope} {a : Addr} {ccd : Value} {cl : List (Str × Addr)} {outer : List Env} {A₀ : Around} {base h₀ : Heap} {L : Addr} {m : Str → Option Value} {s : Shared} {Q E : Value → Shared → Prop}
  {r : RR} {W : Int → Tok → Obj → List (Addr × Obj)} {pos : Int} {ta : Tok} {o : Obj} {ps : Array Value} {k : Int} {u : Tok}
variable (B : Below A₀ base outer h₀) (F : Fr h₀ L s.heap m) (X : (Mine.kMake.heap_1 w.params).In h₀) (T : Top p loose mean mg mb h₀) (hk : cs.kind = .function) (H : Hole w.params r W) (hp : 0 ≤ pos)
include B F X T hk H hp
theorem ref_plain {t : TR} (N : News h₀ L s.heap (W pos ta (tabObj ps))) (tb : TabOk ⟨174, 36, 174, 76⟩ ps) (hd : dp + 18 < recursionLimit) (ht : tokAt r.toks pos 0 = some t) (hkw : t.k = "word") (hw : NotRes t.w) (h1 : isWord r.toks (pos + 1) ⟨#[79, 70]⟩ = false) (h2 : isWord r.toks (pos + 1) ⟨#[73, 78]⟩ = false) (h3 : isSign r.toks (pos + 1) 0 "(" = false)
    (hret : ∀ v W' h' tk' ta' ps', TabOk ⟨174, 36, 174, 76⟩ ps' → Hole w.params r W' → (∀ pos ta o, ∀ p ∈ W pos ta o, p ∈ W' pos ta o) → (∀ pos ta o, DatIn (W' pos ta o) v (dRef t.w [] [])) → Fr h₀ L h' m → News h₀ L h' (W' (pos + 1) ta' (tabObj ps')) → Q v { s with heap := h', toks := tk' }) :
    wpAny (model prog w) (ktrTop dp un gd cn cs L a ccd cl outer) (call (.ref 50) [.ref r.x, .ref 188]) Q E s := by
  w_top off
  have R := H.rin pos ta (tabObj ps) hp
  have ⟨ix, id, il, it, le, lo⟩ := R
  refine wpAny_call ?_
  k_dflt (refine' code_def ?zk1 ?zk2 ?zk3 ?zk4 ?zk5 ?zkA ?zkF ?zkK ?zk6 ?zk7 ?zk8 ?zk9 ?zkB ?_ ?zc2 ?zc3 ?zc4 ?zc5; (case zkA => exact rfl); (case zkF => exact rfl); (case zkK => assumption); (case zk1 => k_asm); (case zk2 => k_asm); (case zk3 => k_asm); (case zk4 => k_asm); (case zk5 => k_asm); (case zk6 => k_is); (case zk7 => k_is); (case zk8 => ktr_room); (case zk9 => first | exact BindsTo.of_eq rfl | exact binds_K (by k_in) rfl (by k_is) rfl rfl rfl); (case zc5 => decide); (case zkB => exact locs rfl); (case zc2 => exact rfl); (case zc3 => exact rfl); (case zc4 => exact rfl); k_whole; intro _ _ _ _ _ _ _ _ _; (try dsimp only); (try k_fold))
  repeat' (first | (((with_reducible show wpAny _ _ (call (Value.ref 29) _ _) _ _ _); (k_dflt show wpAny _ _ (call (Value.ref 29) [Value.ref _]) _ _ _); k_dflt (refine' part_no ?zb ?zf ?zx ?zt ?zhk ?zn ?zr ?zd ?zq1 ?_; (case zb => k_asm); (case zf => k_asm); (case zx => k_asm); (case zt => k_asm); (case zhk => first | exact rfl | assumption); (case zn => k_asm); (case zr => k_intsEnd); (case zd => ktr_room); (case zq1 => first | assumption | (rw [isSign_some (by assumption)]; decide +kernel) | (rw [isWord_some (by assumption)]; decide +kernel)); k_whole); (all_goals intros); (all_goals (try k_sweep)))) | (((with_reducible show wpAny _ _ (call (Value.ref 445) [Value.ref _, _]) _ _ _); k_dflt (refine' is_sign1_k ?zb ?zf ?zx ?zt ?zhk ?zn ?zr ?zd ?zq1 ?_; (case zb => k_asm); (case zf => k_asm); (case zx => k_asm); (case zt => k_asm); (case zhk => first | exact rfl | assumption); (case zn => k_asm); (case zr => k_intsEnd); (case zd => ktr_room); (case zq1 => first | assumption | (rw [isSign_some (by assumption)]; rfl) | (rw [isWord_some (by assumption)]; rfl) | (rw [isKind_some (by assumption)]; rfl)); k_whole); (all_goals intros); (all_goals (try k_sweep)))) | (((with_reducible show wpAny _ _ (call (Value.ref 408) [Value.ref _, _]) _ _ _); k_dflt (refine' one_of_no ?zb ?zf ?zx ?zt ?zhk ?zn ?zr ?zd ?zq1 ?zq2 ?_; (case zb => k_asm); (case zf => k_asm); (case zx => k_asm); (case zt => k_asm); (case zhk => first | exact rfl | assumption); (case zn => k_asm); (case zr => k_intsEnd); (case zd => ktr_room); (case zq1 => first | assumption | (rw [isSign_some (by assumption)]; decide +kernel) | (rw [isWord_some (by assumption)]; decide +kernel)); (case zq2 => first | assumption | (rw [isSign_some (by assumption)]; decide +kernel) | (rw [isWord_some (by assumption)]; decide +kernel)); k_whole); (all_goals intros); (all_goals (try k_sweep)))) | (((with_reducible show wpAny _ _ (call (Value.ref 430) _ _) _ _ _); (k_dflt show wpAny _ _ (call (Value.ref 430) [Value.ref _]) _ _ _); k_dflt (refine' name_ok ?zb ?zf ?zx ?zt ?zhk ?zn ?zr ?zd ?zu ?zq1 ?zq2 ?zq3 ?_; (case zb => k_asm); (case zf => k_asm); (case zx => k_asm); (case zt => k_asm); (case zhk => first | exact rfl | assumption); (case zn => k_asm); (case zr => k_intsEnd); (case zd => ktr_room); (case zu => intro ta9ζ; k_upd); (case zq1 => assumption); (case zq2 => assumption); (case zq3 => assumption); k_whole); (all_goals intros); (all_goals (try k_sweep)))) | ((with_reducible show WhlIf _ _ _); ((first | (refine WhlIf.yes (by with_unfolding_all rfl) ?_) | (refine WhlIf.no (by with_unfolding_all rfl) ?_) | (refine WhlIf.yes (by assumption) ?_) | (refine WhlIf.no (by assumption) ?_) | (refine whl_split ?_ ?_ <;> intro)))) | ((with_reducible show wpAny _ _ (exec (Stmt.While _ _ _ _) _) _ _ _); ((k_dflt (refine whl_start 100 ?_)))) | (k_unfold; (try dsimp only)) | (k_end; kc_close) | walk1 | (dsimp only; walk1) | (leave1; (try dsimp only)))
  refine hret _ (app [_, _, _, _] W) _ _ _ _ tb (H.app ?_) app_sub (fun pos ta o => ?_) (by k_asm) (by assumption : News h₀ L _ (_ :: _ :: _ :: _ :: W _ _ _))
  · (repeat (first | exact off_nil | refine off_cons (by first | assumption | exact Hole.ne (by assumption) (by first | assumption | exact allLt_all (by assumption) | exact allLt_all (And.right (by assumption)) | exact allLt_all (And.right (And.right (by assumption))) | exact allLt_all (And.right (And.right (And.right (by assumption)))) | exact allLt_all (And.right (And.right (And.right (And.right (by assumption))))) | exact allLt_all (And.right (And.right (And.right (And.right (And.right (by assumption)))))) | exact allLt_all (And.right (And.right (And.right (And.right (And.right (And.right (by assumption))))))) | exact allLt_all (And.right (And.right (And.right (And.right (And.right (And.right (And.right (by assumption)))))))) | exact allLt_all (And.right (And.right (And.right (And.right (And.right (And.right (And.right (And.right (by assumption))))))))) | exact ltSucc (by assumption) | exact ltLt (by assumption) (by assumption) | exact ltTail (by assumption) | exact ltTail (ltTail (by assumption)) | exact ltTail (ltTail (ltTail (by assumption))) | exact ltTail (ltTail (ltTail (ltTail (by assumption)))) | exact ltTail (ltTail (ltTail (ltTail (ltTail (by assumption))))) | exact ltLt (ltLt (by assumption) (by assumption)) (by assumption) | exact ltLt (ltTail (ltTail (by assumption))) (by assumption) | exact ltLt (ltLt (ltTail (ltTail (by assumption))) (by assumption)) (by assumption))) (by first | assumption | exact Hole.neT (by assumption) (by first | assumption | exact allLt_all (by assumption) | exact allLt_all (And.right (by assumption)) | exact allLt_all (And.right (And.right (by assumption))) | exact allLt_all (And.right (And.right (And.right (by assumption)))) | exact allLt_all (And.right (And.right (And.right (And.right (by assumption))))) | exact allLt_all (And.right (And.right (And.right (And.right (And.right (by assumption)))))) | exact allLt_all (And.right (And.right (And.right (And.right (And.right (And.right (by assumption))))))) | exact allLt_all (And.right (And.right (And.right (And.right (And.right (And.right (And.right (by assumption)))))))) | exact allLt_all (And.right (And.right (And.right (And.right (And.right (And.right (And.right (And.right (by assumption))))))))) | exact ltSucc (by assumption) | exact ltLt (by assumption) (by assumption) | exact ltTail (by assumption) | exact ltTail (ltTail (by assumption)) | exact ltTail (ltTail (ltTail (by assumption))) | exact ltTail (ltTail (ltTail (ltTail (by assumption)))) | exact ltTail (ltTail (ltTail (ltTail (ltTail (by assumption))))) | exact ltLt (ltLt (by assumption) (by assumption)) (by assumption) | exact ltLt (ltTail (ltTail (by assumption))) (by assumption) | exact ltLt (ltLt (ltTail (ltTail (by assumption))) (by assumption)) (by assumption))) ?_))
  · (repeat (first | assumption | exact DatAll.nil | (refine DatAll.cons ?_ ?_) | exact DatIn.str _ _ | exact DatIn.int _ _ | exact DatIn.none | exact DatIn.bool _ | refine DatIn.tuple (List.Mem.head _) ?_ | refine DatIn.tuple (List.Mem.tail _ (List.Mem.head _)) ?_ | refine DatIn.tuple (List.Mem.tail _ (List.Mem.tail _ (List.Mem.head _))) ?_ | refine DatIn.tuple (List.Mem.tail _ (List.Mem.tail _ (List.Mem.tail _ (List.Mem.head _)))) ?_ | refine DatIn.tuple (List.Mem.tail _ (List.Mem.tail _ (List.Mem.tail _ (List.Mem.tail _ (List.Mem.head _))))) ?_ | refine DatIn.tuple (List.Mem.tail _ (List.Mem.tail _ (List.Mem.tail _ (List.Mem.tail _ (List.Mem.tail _ (List.Mem.head _)))))) ?_ | refine DatIn.tuple (List.Mem.tail _ (List.Mem.tail _ (List.Mem.tail _ (List.Mem.tail _ (List.Mem.tail _ (List.Mem.tail _ (List.Mem.head _))))))) ?_ | refine DatIn.tuple (List.Mem.tail _ (List.Mem.tail _ (List.Mem.tail _ (List.Mem.tail _ (List.Mem.tail _ (List.Mem.tail _ (List.Mem.tail _ (List.Mem.head _)))))))) ?_ | exact dat_sub (by assumption) (by assumption)))
end
-- C15
section
variable {prog : Program} {w : World} {p : Program} {loose : List Str} {mean : ExcName → Option Value} {mg mb : Str → Option Value}
  {dp un : Nat} {gd : Option (List Code)} {cn : Str} {cs : Scope} {a : Addr} {ccd : Value} {cl : List (Str × Addr)} {outer : List Env} {A₀ : Around} {base h₀ : Heap} {L : Addr} {m : Str → Option Value} {s : Shared} {Q E : Value → Shared → Prop}
  {r : RR} {pos : Int} {ta : Tok} {news : List (Addr × Obj)} {news' : Tok → List (Addr × Obj)} {k : Int} {u : Tok}
variable (B : Below A₀ base outer h₀) (F : Fr h₀ L s.heap m) (X : (Mine.kMake.heap_1 w.params).In h₀) (T : Top p loose mean mg mb h₀) (hk : cs.kind = .function) (N : News h₀ L s.heap news) (R : RIn w.params news r pos ta)
include B F X T hk N R
theorem one_of_of {v : Tok} (hd : dp + 5 < recursionLimit) (h1 : isWord r.toks pos ⟨#[79, 70]⟩ = true) (U : ∀ ta', Upd r.dx (r.D w.params pos ta) (r.D w.params (pos + 1) ta') news (news' ta'))
    (hret1 : ∀ h' tk' ta' t', Fr h₀ L h' m → News h₀ L h' (news' ta') → RIn w.params (news' ta') r (pos + 1) ta' → Q (.str ⟨#[79, 70]⟩ t') { s with heap := h', toks := tk' }) :
    wpAny (model prog w) (ktrTop dp un gd cn cs L a ccd cl outer) (call (.ref 408) [.ref r.x, .str "OF IN" v]) Q E s :=
  one_of2 B F X T hk N R hd U (fun h => (bool_no h h1).elim) (fun _ => hret1) (fun h => (bool_no h h1).elim)
theorem one_of_in {v : Tok} (hd : dp + 5 < recursionLimit) (h1 : isWord r.toks pos ⟨#[79, 70]⟩ = false) (h2 : isWord r.toks pos ⟨#[73, 78]⟩ = true) (U : ∀ ta', Upd r.dx (r.D w.params pos ta) (r.D w.params (pos + 1) ta') news (news' ta'))
    (hret1 : ∀ h' tk' ta' t', Fr h₀ L h' m → News h₀ L h' (news' ta') → RIn w.params (news' ta') r (pos + 1) ta' → Q (.str ⟨#[73, 78]⟩ t') { s with heap := h', toks := tk' }) :
    wpAny (model prog w) (ktrTop dp un gd cn cs L a ccd cl outer) (call (.ref 408) [.ref r.x, .str "OF IN" v]) Q E s :=
  one_of2 B F X T hk N R hd U (fun _ h => (bool_no h h2).elim) (fun h => (bool_no h1 h).elim) (fun _ _ => hret1)
end
-- C16
theorem tok1 {toks : List TR} {pos : Int} {t : TR} (h : tokAt toks (pos + 1) 0 = some t) : tokAt toks pos 1 = some t := by
  unfold tokAt at *; rwa [Int.add_zero] at h
theorem tok2 {toks : List TR} {pos : Int} {t : TR} (h : tokAt toks (pos + 1 + 1) 0 = some t) : tokAt toks pos 2 = some t := by
  unfold tokAt at *; rw [Int.add_zero] at h; rw [← h, show pos + 1 + 1 = pos + 2 from by omega]
theorem lt_ne {q : Addr} {l : List (Addr × Obj)} (h : ∀ p ∈ l, p.1 < q) : ∀ p ∈ l, p.1 ≠ q := fun p hp => Nat.ne_of_lt (h p hp)
section
variable {prog : Program} {w : World} {p : Program} {loose : List Str} {mean : ExcName → Option Value} {mg mb : Str → Option Value}
  {dp un : Nat} {gd : Option (List Code)} {cn : Str} {cs : Scope} {a : Addr} {ccd : Value} {cl : List (Str × Addr)} {outer : List Env} {A₀ : Around} {base h₀ : Heap} {L : Addr} {m : Str → Option Value} {s : Shared} {Q E : Value → Shared → Prop}
  {r : RR} {W : Int → Tok → Obj → List (Addr × Obj)} {pos : Int} {ta : Tok} {o : Obj} {ps : Array Value} {k : Int} {u : Tok}
variable (B : Below A₀ base outer h₀) (F : Fr h₀ L s.heap m) (X : (Mine.kMake.heap_1 w.params).In h₀) (T : Top p loose mean mg mb h₀) (hk : cs.kind = .function) (H : Hole w.params r W) (hp : 0 ≤ pos)
include B F X T hk H hp
end
local macro_rules | `(tactic| k_upd) => `(tactic| (refine' Upd.head ?a; (case a => exact lt_ne (Hole.lt (by assumption) (by (first | assumption | exact allLt_all (by assumption) | exact allLt_all (And.right (by assumption)) | exact allLt_all (And.right (And.right (by assumption))) | exact allLt_all (And.right (And.right (And.right (by assumption)))) | exact allLt_all (And.right (And.right (And.right (And.right (by assumption))))) | exact allLt_all (And.right (And.right (And.right (And.right (And.right (by assumption)))))) | exact allLt_all (And.right (And.right (And.right (And.right (And.right (And.right (by assumption))))))) | exact allLt_all (And.right (And.right (And.right (And.right (And.right (And.right (And.right (by assumption)))))))) | exact allLt_all (And.right (And.right (And.right (And.right (And.right (And.right (And.right (And.right (by assumption))))))))) | exact ltSucc (by assumption) | exact ltLt (by assumption) (by assumption) | exact ltTail (by assumption) | exact ltTail (ltTail (by assumption)) | exact ltTail (ltTail (ltTail (by assumption))) | exact ltTail (ltTail (ltTail (ltTail (by assumption)))) | exact ltTail (ltTail (ltTail (ltTail (ltTail (by assumption))))) | exact ltLt (ltLt (by assumption) (by assumption)) (by assumption) | exact ltLt (ltTail (ltTail (by assumption))) (by assumption) | exact ltLt (ltLt (ltTail (ltTail (by assumption))) (by assumption)) (by assumption)))))))
section
variable {prog : Program} {w : World} {p : Program} {loose : List Str} {mean : ExcName → Option Value} {mg mb : Str → Option Value}
  {dp un : Nat} {gd : Option (List Code)} {cn : Str} {cs : Scope} {a : Addr} {ccd : Value} {cl : List (Str × Addr)} {outer : List Env} {A₀ : Around} {base h₀ : Heap} {L : Addr} {m : Str → Option Value} {s : Shared} {Q E : Value → Shared → Prop}
  {r : RR} {W : Int → Tok → Obj → List (Addr × Obj)} {pos : Int} {ta : Tok} {o : Obj} {ps : Array Value} {k : Int} {u : Tok}
variable (B : Below A₀ base outer h₀) (F : Fr h₀ L s.heap m) (X : (Mine.kMake.heap_1 w.params).In h₀) (T : Top p loose mean mg mb h₀) (hk : cs.kind = .function) (H : Hole w.params r W) (hp : 0 ≤ pos)
include B F X T hk H hp
theorem ref_of {t t2 : TR} (N : News h₀ L s.heap (W pos ta (tabObj ps))) (tb : TabOk ⟨174, 36, 174, 76⟩ ps) (hd : dp + 18 < recursionLimit) (ht : tokAt r.toks pos 0 = some t) (hkw : t.k = "word") (hw : NotRes t.w) (g1 : isWord r.toks (pos + 1) ⟨#[79, 70]⟩ = true) (ht2 : tokAt r.toks (pos + 1 + 1) 0 = some t2) (hkw2 : t2.k = "word") (hw2 : NotRes t2.w)
    (h1 : isWord r.toks (pos + 1 + 1 + 1) ⟨#[79, 70]⟩ = false) (h2 : isWord r.toks (pos + 1 + 1 + 1) ⟨#[73, 78]⟩ = false) (h3 : isSign r.toks (pos + 1 + 1 + 1) 0 "(" = false)
    (hret : ∀ v W' h' tk' ta' ps', TabOk ⟨174, 36, 174, 76⟩ ps' → Hole w.params r W' → (∀ pos ta o, ∀ p ∈ W pos ta o, p ∈ W' pos ta o) → (∀ pos ta o, DatIn (W' pos ta o) v (dRef t.w [.str t2.w] [])) → Fr h₀ L h' m → News h₀ L h' (W' (pos + 1 + 1 + 1) ta' (tabObj ps')) → Q v { s with heap := h', toks := tk' }) :
    wpAny (model prog w) (ktrTop dp un gd cn cs L a ccd cl outer) (call (.ref 50) [.ref r.x, .ref 188]) Q E s := by
  w_top off
  have R := H.rin pos ta (tabObj ps) hp
  have ⟨ix, id, il, it, le, lo⟩ := R
  refine wpAny_call ?_
  k_dflt (refine' code_def ?zk1 ?zk2 ?zk3 ?zk4 ?zk5 ?zkA ?zkF ?zkK ?zk6 ?zk7 ?zk8 ?zk9 ?zkB ?_ ?zc2 ?zc3 ?zc4 ?zc5; (case zkA => exact rfl); (case zkF => exact rfl); (case zkK => assumption); (case zk1 => k_asm); (case zk2 => k_asm); (case zk3 => k_asm); (case zk4 => k_asm); (case zk5 => k_asm); (case zk6 => k_is); (case zk7 => k_is); (case zk8 => ktr_room); (case zk9 => first | exact BindsTo.of_eq rfl | exact binds_K (by k_in) rfl (by k_is) rfl rfl rfl); (case zc5 => decide); (case zkB => exact locs rfl); (case zc2 => exact rfl); (case zc3 => exact rfl); (case zc4 => exact rfl); k_whole; intro _ _ _ _ _ _ _ _ _; (try dsimp only); (try k_fold))
  repeat' (first | (((with_reducible show wpAny _ _ (call (Value.ref 408) [Value.ref _, _]) _ _ _); k_dflt (refine' one_of_of ?zb ?zf ?zx ?zt ?zhk ?zn ?zr ?zd ?zq1 ?zu ?_; (case zb => k_asm); (case zf => k_asm); (case zx => k_asm); (case zt => k_asm); (case zhk => first | exact rfl | assumption); (case zn => k_asm); (case zr => k_intsEnd); (case zd => ktr_room); (case zq1 => assumption); (case zu => intro ta9ζ; k_upd); k_whole); (all_goals intros); (all_goals (try k_sweep)))) | (((with_reducible show wpAny _ _ (call (Value.ref 29) _ _) _ _ _); (k_dflt show wpAny _ _ (call (Value.ref 29) [Value.ref _]) _ _ _); k_dflt (refine' part_no ?zb ?zf ?zx ?zt ?zhk ?zn ?zr ?zd ?zq1 ?_; (case zb => k_asm); (case zf => k_asm); (case zx => k_asm); (case zt => k_asm); (case zhk => first | exact rfl | assumption); (case zn => k_asm); (case zr => k_intsEnd); (case zd => ktr_room); (case zq1 => first | assumption | (rw [isSign_some (by assumption)]; decide +kernel) | (rw [isWord_some (by assumption)]; decide +kernel)); k_whole); (all_goals intros); (all_goals (try k_sweep)))) | (((with_reducible show wpAny _ _ (call (Value.ref 445) [Value.ref _, _]) _ _ _); k_dflt (refine' is_sign1_k ?zb ?zf ?zx ?zt ?zhk ?zn ?zr ?zd ?zq1 ?_; (case zb => k_asm); (case zf => k_asm); (case zx => k_asm); (case zt => k_asm); (case zhk => first | exact rfl | assumption); (case zn => k_asm); (case zr => k_intsEnd); (case zd => ktr_room); (case zq1 => first | assumption | (rw [isSign_some (by assumption)]; rfl) | (rw [isWord_some (by assumption)]; rfl) | (rw [isKind_some (by assumption)]; rfl)); k_whole); (all_goals intros); (all_goals (try k_sweep)))) | (((with_reducible show wpAny _ _ (call (Value.ref 408) [Value.ref _, _]) _ _ _); k_dflt (refine' one_of_no ?zb ?zf ?zx ?zt ?zhk ?zn ?zr ?zd ?zq1 ?zq2 ?_; (case zb => k_asm); (case zf => k_asm); (case zx => k_asm); (case zt => k_asm); (case zhk => first | exact rfl | assumption); (case zn => k_asm); (case zr => k_intsEnd); (case zd => ktr_room); (case zq1 => first | assumption | (rw [isSign_some (by assumption)]; decide +kernel) | (rw [isWord_some (by assumption)]; decide +kernel)); (case zq2 => first | assumption | (rw [isSign_some (by assumption)]; decide +kernel) | (rw [isWord_some (by assumption)]; decide +kernel)); k_whole); (all_goals intros); (all_goals (try k_sweep)))) | (((with_reducible show wpAny _ _ (call (Value.ref 430) _ _) _ _ _); (k_dflt show wpAny _ _ (call (Value.ref 430) [Value.ref _]) _ _ _); k_dflt (refine' name_ok ?zb ?zf ?zx ?zt ?zhk ?zn ?zr ?zd ?zu ?zq1 ?zq2 ?zq3 ?_; (case zb => k_asm); (case zf => k_asm); (case zx => k_asm); (case zt => k_asm); (case zhk => first | exact rfl | assumption); (case zn => k_asm); (case zr => k_intsEnd); (case zd => ktr_room); (case zu => intro ta9ζ; k_upd); (case zq1 => assumption); (case zq2 => assumption); (case zq3 => assumption); k_whole); (all_goals intros); (all_goals (try k_sweep)))) | ((with_reducible show WhlIf _ _ _); ((first | (refine WhlIf.yes (by with_unfolding_all rfl) ?_) | (refine WhlIf.no (by with_unfolding_all rfl) ?_) | (refine WhlIf.yes (by assumption) ?_) | (refine WhlIf.no (by assumption) ?_) | (refine whl_split ?_ ?_ <;> intro)))) | ((with_reducible show wpAny _ _ (exec (Stmt.While _ _ _ _) _) _ _ _); ((k_dflt (refine whl_start 100 ?_)))) | (k_unfold; (try dsimp only)) | (k_end; kc_close) | walk1 | (dsimp only; walk1) | (leave1; (try dsimp only)))
  refine hret _ (app [_, _, _, _] W) _ _ _ _ tb (H.app ?_) app_sub (fun pos ta o => ?_) (by k_asm) (by assumption : News h₀ L _ (_ :: _ :: _ :: _ :: W _ _ _))
  · (repeat (first | exact off_nil | refine off_cons (by first | assumption | exact Hole.ne (by assumption) (by first | assumption | exact allLt_all (by assumption) | exact allLt_all (And.right (by assumption)) | exact allLt_all (And.right (And.right (by assumption))) | exact allLt_all (And.right (And.right (And.right (by assumption)))) | exact allLt_all (And.right (And.right (And.right (And.right (by assumption))))) | exact allLt_all (And.right (And.right (And.right (And.right (And.right (by assumption)))))) | exact allLt_all (And.right (And.right (And.right (And.right (And.right (And.right (by assumption))))))) | exact allLt_all (And.right (And.right (And.right (And.right (And.right (And.right (And.right (by assumption)))))))) | exact allLt_all (And.right (And.right (And.right (And.right (And.right (And.right (And.right (And.right (by assumption))))))))) | exact ltSucc (by assumption) | exact ltLt (by assumption) (by assumption) | exact ltTail (by assumption) | exact ltTail (ltTail (by assumption)) | exact ltTail (ltTail (ltTail (by assumption))) | exact ltTail (ltTail (ltTail (ltTail (by assumption)))) | exact ltTail (ltTail (ltTail (ltTail (ltTail (by assumption))))) | exact ltLt (ltLt (by assumption) (by assumption)) (by assumption) | exact ltLt (ltTail (ltTail (by assumption))) (by assumption) | exact ltLt (ltLt (ltTail (ltTail (by assumption))) (by assumption)) (by assumption))) (by first | assumption | exact Hole.neT (by assumption) (by first | assumption | exact allLt_all (by assumption) | exact allLt_all (And.right (by assumption)) | exact allLt_all (And.right (And.right (by assumption))) | exact allLt_all (And.right (And.right (And.right (by assumption)))) | exact allLt_all (And.right (And.right (And.right (And.right (by assumption))))) | exact allLt_all (And.right (And.right (And.right (And.right (And.right (by assumption)))))) | exact allLt_all (And.right (And.right (And.right (And.right (And.right (And.right (by assumption))))))) | exact allLt_all (And.right (And.right (And.right (And.right (And.right (And.right (And.right (by assumption)))))))) | exact allLt_all (And.right (And.right (And.right (And.right (And.right (And.right (And.right (And.right (by assumption))))))))) | exact ltSucc (by assumption) | exact ltLt (by assumption) (by assumption) | exact ltTail (by assumption) | exact ltTail (ltTail (by assumption)) | exact ltTail (ltTail (ltTail (by assumption))) | exact ltTail (ltTail (ltTail (ltTail (by assumption)))) | exact ltTail (ltTail (ltTail (ltTail (ltTail (by assumption))))) | exact ltLt (ltLt (by assumption) (by assumption)) (by assumption) | exact ltLt (ltTail (ltTail (by assumption))) (by assumption) | exact ltLt (ltLt (ltTail (ltTail (by assumption))) (by assumption)) (by assumption))) ?_))
  · (repeat (first | assumption | exact DatAll.nil | (refine DatAll.cons ?_ ?_) | exact DatIn.str _ _ | exact DatIn.int _ _ | exact DatIn.none | exact DatIn.bool _ | refine DatIn.tuple (List.Mem.head _) ?_ | refine DatIn.tuple (List.Mem.tail _ (List.Mem.head _)) ?_ | refine DatIn.tuple (List.Mem.tail _ (List.Mem.tail _ (List.Mem.head _))) ?_ | refine DatIn.tuple (List.Mem.tail _ (List.Mem.tail _ (List.Mem.tail _ (List.Mem.head _)))) ?_ | refine DatIn.tuple (List.Mem.tail _ (List.Mem.tail _ (List.Mem.tail _ (List.Mem.tail _ (List.Mem.head _))))) ?_ | refine DatIn.tuple (List.Mem.tail _ (List.Mem.tail _ (List.Mem.tail _ (List.Mem.tail _ (List.Mem.tail _ (List.Mem.head _)))))) ?_ | refine DatIn.tuple (List.Mem.tail _ (List.Mem.tail _ (List.Mem.tail _ (List.Mem.tail _ (List.Mem.tail _ (List.Mem.tail _ (List.Mem.head _))))))) ?_ | refine DatIn.tuple (List.Mem.tail _ (List.Mem.tail _ (List.Mem.tail _ (List.Mem.tail _ (List.Mem.tail _ (List.Mem.tail _ (List.Mem.tail _ (List.Mem.head _)))))))) ?_ | exact dat_sub (by assumption) (by assumption)))
theorem ref_in {t t2 : TR} (N : News h₀ L s.heap (W pos ta (tabObj ps))) (tb : TabOk ⟨174, 36, 174, 76⟩ ps) (hd : dp + 18 < recursionLimit) (ht : tokAt r.toks pos 0 = some t) (hkw : t.k = "word") (hw : NotRes t.w) (g1 : isWord r.toks (pos + 1) ⟨#[79, 70]⟩ = false) (g2 : isWord r.toks (pos + 1) ⟨#[73, 78]⟩ = true) (ht2 : tokAt r.toks (pos + 1 + 1) 0 = some t2) (hkw2 : t2.k = "word") (hw2 : NotRes t2.w)
    (h1 : isWord r.toks (pos + 1 + 1 + 1) ⟨#[79, 70]⟩ = false) (h2 : isWord r.toks (pos + 1 + 1 + 1) ⟨#[73, 78]⟩ = false) (h3 : isSign r.toks (pos + 1 + 1 + 1) 0 "(" = false)
    (hret : ∀ v W' h' tk' ta' ps', TabOk ⟨174, 36, 174, 76⟩ ps' → Hole w.params r W' → (∀ pos ta o, ∀ p ∈ W pos ta o, p ∈ W' pos ta o) → (∀ pos ta o, DatIn (W' pos ta o) v (dRef t.w [.str t2.w] [])) → Fr h₀ L h' m → News h₀ L h' (W' (pos + 1 + 1 + 1) ta' (tabObj ps')) → Q v { s with heap := h', toks := tk' }) :
    wpAny (model prog w) (ktrTop dp un gd cn cs L a ccd cl outer) (call (.ref 50) [.ref r.x, .ref 188]) Q E s := by
  w_top off
  have R := H.rin pos ta (tabObj ps) hp
  have ⟨ix, id, il, it, le, lo⟩ := R
  refine wpAny_call ?_
  k_dflt (refine' code_def ?zk1 ?zk2 ?zk3 ?zk4 ?zk5 ?zkA ?zkF ?zkK ?zk6 ?zk7 ?zk8 ?zk9 ?zkB ?_ ?zc2 ?zc3 ?zc4 ?zc5; (case zkA => exact rfl); (case zkF => exact rfl); (case zkK => assumption); (case zk1 => k_asm); (case zk2 => k_asm); (case zk3 => k_asm); (case zk4 => k_asm); (case zk5 => k_asm); (case zk6 => k_is); (case zk7 => k_is); (case zk8 => ktr_room); (case zk9 => first | exact BindsTo.of_eq rfl | exact binds_K (by k_in) rfl (by k_is) rfl rfl rfl); (case zc5 => decide); (case zkB => exact locs rfl); (case zc2 => exact rfl); (case zc3 => exact rfl); (case zc4 => exact rfl); k_whole; intro _ _ _ _ _ _ _ _ _; (try dsimp only); (try k_fold))
  repeat' (first | (((with_reducible show wpAny _ _ (call (Value.ref 408) [Value.ref _, _]) _ _ _); k_dflt (refine' one_of_in ?zb ?zf ?zx ?zt ?zhk ?zn ?zr ?zd ?zq1 ?zq2 ?zu ?_; (case zb => k_asm); (case zf => k_asm); (case zx => k_asm); (case zt => k_asm); (case zhk => first | exact rfl | assumption); (case zn => k_asm); (case zr => k_intsEnd); (case zd => ktr_room); (case zq1 => assumption); (case zq2 => assumption); (case zu => intro ta9ζ; k_upd); k_whole); (all_goals intros); (all_goals (try k_sweep)))) | (((with_reducible show wpAny _ _ (call (Value.ref 29) _ _) _ _ _); (k_dflt show wpAny _ _ (call (Value.ref 29) [Value.ref _]) _ _ _); k_dflt (refine' part_no ?zb ?zf ?zx ?zt ?zhk ?zn ?zr ?zd ?zq1 ?_; (case zb => k_asm); (case zf => k_asm); (case zx => k_asm); (case zt => k_asm); (case zhk => first | exact rfl | assumption); (case zn => k_asm); (case zr => k_intsEnd); (case zd => ktr_room); (case zq1 => first | assumption | (rw [isSign_some (by assumption)]; decide +kernel) | (rw [isWord_some (by assumption)]; decide +kernel)); k_whole); (all_goals intros); (all_goals (try k_sweep)))) | (((with_reducible show wpAny _ _ (call (Value.ref 445) [Value.ref _, _]) _ _ _); k_dflt (refine' is_sign1_k ?zb ?zf ?zx ?zt ?zhk ?zn ?zr ?zd ?zq1 ?_; (case zb => k_asm); (case zf => k_asm); (case zx => k_asm); (case zt => k_asm); (case zhk => first | exact rfl | assumption); (case zn => k_asm); (case zr => k_intsEnd); (case zd => ktr_room); (case zq1 => first | assumption | (rw [isSign_some (by assumption)]; rfl) | (rw [isWord_some (by assumption)]; rfl) | (rw [isKind_some (by assumption)]; rfl)); k_whole); (all_goals intros); (all_goals (try k_sweep)))) | (((with_reducible show wpAny _ _ (call (Value.ref 408) [Value.ref _, _]) _ _ _); k_dflt (refine' one_of_no ?zb ?zf ?zx ?zt ?zhk ?zn ?zr ?zd ?zq1 ?zq2 ?_; (case zb => k_asm); (case zf => k_asm); (case zx => k_asm); (case zt => k_asm); (case zhk => first | exact rfl | assumption); (case zn => k_asm); (case zr => k_intsEnd); (case zd => ktr_room); (case zq1 => first | assumption | (rw [isSign_some (by assumption)]; decide +kernel) | (rw [isWord_some (by assumption)]; decide +kernel)); (case zq2 => first | assumption | (rw [isSign_some (by assumption)]; decide +kernel) | (rw [isWord_some (by assumption)]; decide +kernel)); k_whole); (all_goals intros); (all_goals (try k_sweep)))) | (((with_reducible show wpAny _ _ (call (Value.ref 430) _ _) _ _ _); (k_dflt show wpAny _ _ (call (Value.ref 430) [Value.ref _]) _ _ _); k_dflt (refine' name_ok ?zb ?zf ?zx ?zt ?zhk ?zn ?zr ?zd ?zu ?zq1 ?zq2 ?zq3 ?_; (case zb => k_asm); (case zf => k_asm); (case zx => k_asm); (case zt => k_asm); (case zhk => first | exact rfl | assumption); (case zn => k_asm); (case zr => k_intsEnd); (case zd => ktr_room); (case zu => intro ta9ζ; k_upd); (case zq1 => assumption); (case zq2 => assumption); (case zq3 => assumption); k_whole); (all_goals intros); (all_goals (try k_sweep)))) | ((with_reducible show WhlIf _ _ _); ((first | (refine WhlIf.yes (by with_unfolding_all rfl) ?_) | (refine WhlIf.no (by with_unfolding_all rfl) ?_) | (refine WhlIf.yes (by assumption) ?_) | (refine WhlIf.no (by assumption) ?_) | (refine whl_split ?_ ?_ <;> intro)))) | ((with_reducible show wpAny _ _ (exec (Stmt.While _ _ _ _) _) _ _ _); ((k_dflt (refine whl_start 100 ?_)))) | (k_unfold; (try dsimp only)) | (k_end; kc_close) | walk1 | (dsimp only; walk1) | (leave1; (try dsimp only)))
  refine hret _ (app [_, _, _, _] W) _ _ _ _ tb (H.app ?_) app_sub (fun pos ta o => ?_) (by k_asm) (by assumption : News h₀ L _ (_ :: _ :: _ :: _ :: W _ _ _))
  · (repeat (first | exact off_nil | refine off_cons (by first | assumption | exact Hole.ne (by assumption) (by first | assumption | exact allLt_all (by assumption) | exact allLt_all (And.right (by assumption)) | exact allLt_all (And.right (And.right (by assumption))) | exact allLt_all (And.right (And.right (And.right (by assumption)))) | exact allLt_all (And.right (And.right (And.right (And.right (by assumption))))) | exact allLt_all (And.right (And.right (And.right (And.right (And.right (by assumption)))))) | exact allLt_all (And.right (And.right (And.right (And.right (And.right (And.right (by assumption))))))) | exact allLt_all (And.right (And.right (And.right (And.right (And.right (And.right (And.right (by assumption)))))))) | exact allLt_all (And.right (And.right (And.right (And.right (And.right (And.right (And.right (And.right (by assumption))))))))) | exact ltSucc (by assumption) | exact ltLt (by assumption) (by assumption) | exact ltTail (by assumption) | exact ltTail (ltTail (by assumption)) | exact ltTail (ltTail (ltTail (by assumption))) | exact ltTail (ltTail (ltTail (ltTail (by assumption)))) | exact ltTail (ltTail (ltTail (ltTail (ltTail (by assumption))))) | exact ltLt (ltLt (by assumption) (by assumption)) (by assumption) | exact ltLt (ltTail (ltTail (by assumption))) (by assumption) | exact ltLt (ltLt (ltTail (ltTail (by assumption))) (by assumption)) (by assumption))) (by first | assumption | exact Hole.neT (by assumption) (by first | assumption | exact allLt_all (by assumption) | exact allLt_all (And.right (by assumption)) | exact allLt_all (And.right (And.right (by assumption))) | exact allLt_all (And.right (And.right (And.right (by assumption)))) | exact allLt_all (And.right (And.right (And.right (And.right (by assumption))))) | exact allLt_all (And.right (And.right (And.right (And.right (And.right (by assumption)))))) | exact allLt_all (And.right (And.right (And.right (And.right (And.right (And.right (by assumption))))))) | exact allLt_all (And.right (And.right (And.right (And.right (And.right (And.right (And.right (by assumption)))))))) | exact allLt_all (And.right (And.right (And.right (And.right (And.right (And.right (And.right (And.right (by assumption))))))))) | exact ltSucc (by assumption) | exact ltLt (by assumption) (by assumption) | exact ltTail (by assumption) | exact ltTail (ltTail (by assumption)) | exact ltTail (ltTail (ltTail (by assumption))) | exact ltTail (ltTail (ltTail (ltTail (by assumption)))) | exact ltTail (ltTail (ltTail (ltTail (ltTail (by assumption))))) | exact ltLt (ltLt (by assumption) (by assumption)) (by assumption) | exact ltLt (ltTail (ltTail (by assumption))) (by assumption) | exact ltLt (ltLt (ltTail (ltTail (by assumption))) (by assumption)) (by assumption))) ?_))
  · (repeat (first | assumption | exact DatAll.nil | (refine DatAll.cons ?_ ?_) | exact DatIn.str _ _ | exact DatIn.int _ _ | exact DatIn.none | exact DatIn.bool _ | refine DatIn.tuple (List.Mem.head _) ?_ | refine DatIn.tuple (List.Mem.tail _ (List.Mem.head _)) ?_ | refine DatIn.tuple (List.Mem.tail _ (List.Mem.tail _ (List.Mem.head _))) ?_ | refine DatIn.tuple (List.Mem.tail _ (List.Mem.tail _ (List.Mem.tail _ (List.Mem.head _)))) ?_ | refine DatIn.tuple (List.Mem.tail _ (List.Mem.tail _ (List.Mem.tail _ (List.Mem.tail _ (List.Mem.head _))))) ?_ | refine DatIn.tuple (List.Mem.tail _ (List.Mem.tail _ (List.Mem.tail _ (List.Mem.tail _ (List.Mem.tail _ (List.Mem.head _)))))) ?_ | refine DatIn.tuple (List.Mem.tail _ (List.Mem.tail _ (List.Mem.tail _ (List.Mem.tail _ (List.Mem.tail _ (List.Mem.tail _ (List.Mem.head _))))))) ?_ | refine DatIn.tuple (List.Mem.tail _ (List.Mem.tail _ (List.Mem.tail _ (List.Mem.tail _ (List.Mem.tail _ (List.Mem.tail _ (List.Mem.tail _ (List.Mem.head _)))))))) ?_ | exact dat_sub (by assumption) (by assumption)))
theorem ref_sub {t t0 t1 t2 : TR} (N : News h₀ L s.heap (W pos ta (tabObj ps))) (C : CodeHd base 236 232) (tb : TabOk ⟨174, 36, 174, 76⟩ ps) (hd : dp + 18 < recursionLimit) (ht : tokAt r.toks pos 0 = some t) (hkw : t.k = "word") (hw : NotRes t.w) (ht0 : tokAt r.toks (pos + 1) 0 = some t0) (hk0 : t0.k = "sign") (hw0 : t0.w = "(") (ht1 : tokAt r.toks (pos + 1 + 1) 0 = some t1) (hk1 : t1.k = "number") (hw1 : t1.w = "2") (ht2 : tokAt r.toks (pos + 1 + 1 + 1) 0 = some t2) (hk2 : t2.k = "sign") (hw2 : t2.w = ")")
    (h3 : isSign r.toks (pos + 1 + 1 + 1 + 1) 0 "(" = false)
    (hret : ∀ v W' h' tk' ta' ps', TabOk ⟨174, 36, 174, 76⟩ ps' → Hole w.params r W' → (∀ pos ta o, ∀ p ∈ W pos ta o, p ∈ W' pos ta o) → (∀ pos ta o, DatIn (W' pos ta o) v (dRef t.w [] [.tuple [.str "number", .tuple [.int 2, .int 0]]])) → Fr h₀ L h' m → News h₀ L h' (W' (pos + 1 + 1 + 1 + 1) ta' (tabObj ps')) → Q v { s with heap := h', toks := tk' }) :
    wpAny (model prog w) (ktrTop dp un gd cn cs L a ccd cl outer) (call (.ref 50) [.ref r.x, .ref 188]) Q E s := by
  w_top off
  have s0 : isSign r.toks (pos + 1) 0 "(" = true := by rw [isSign_some ht0, hk0, hw0]; decide +kernel
  have g1 : isWord r.toks (pos + 1) ⟨#[79, 70]⟩ = false := by rw [isWord_some ht0, hk0]; rfl
  have g2 : isWord r.toks (pos + 1) ⟨#[73, 78]⟩ = false := by rw [isWord_some ht0, hk0]; rfl
  have ht1' : tokAt r.toks (pos + 1) 1 = some t1 := tok1 ht1
  have ht2' : tokAt r.toks (pos + 1) 2 = some t2 := tok2 ht2
  have R := H.rin pos ta (tabObj ps) hp
  have ⟨ix, id, il, it, le, lo⟩ := R
  refine wpAny_call ?_
  k_dflt (refine' code_def ?zk1 ?zk2 ?zk3 ?zk4 ?zk5 ?zkA ?zkF ?zkK ?zk6 ?zk7 ?zk8 ?zk9 ?zkB ?_ ?zc2 ?zc3 ?zc4 ?zc5; (case zkA => exact rfl); (case zkF => exact rfl); (case zkK => assumption); (case zk1 => k_asm); (case zk2 => k_asm); (case zk3 => k_asm); (case zk4 => k_asm); (case zk5 => k_asm); (case zk6 => k_is); (case zk7 => k_is); (case zk8 => ktr_room); (case zk9 => first | exact BindsTo.of_eq rfl | exact binds_K (by k_in) rfl (by k_is) rfl rfl rfl); (case zc5 => decide); (case zkB => exact locs rfl); (case zc2 => exact rfl); (case zc3 => exact rfl); (case zc4 => exact rfl); k_whole; intro _ _ _ _ _ _ _ _ _; (try dsimp only); (try k_fold))
  repeat' (first | (((with_reducible show wpAny _ _ (call (Value.ref 36) [Value.ref _, _]) _ _ _); k_dflt (refine' subs_num ?zb ?zf ?zx ?zt ?zhk (Hole.cons (Hole.cons ?zhH ?zna0 ?znb0) ?zna1 ?znb1) ?zhp ?zn ?zwC ?zwtb ?zwhd ?zwht0 ?zwhk0 ?zwhw0 ?zwht ?zwhkw ?zwhw ?zwht2 ?zwhkw2 ?zwhw2 ?_; (case zb => k_asm); (case zf => k_asm); (case zx => k_asm); (case zt => k_asm); (case zhk => first | exact rfl | assumption); (case zhH => assumption); (case zn => k_asm); (case zna0 => first | assumption | exact Hole.ne (by assumption) (by first | assumption | exact allLt_all (by assumption) | exact allLt_all (And.right (by assumption)) | exact allLt_all (And.right (And.right (by assumption))) | exact allLt_all (And.right (And.right (And.right (by assumption)))) | exact allLt_all (And.right (And.right (And.right (And.right (by assumption))))) | exact allLt_all (And.right (And.right (And.right (And.right (And.right (by assumption)))))) | exact allLt_all (And.right (And.right (And.right (And.right (And.right (And.right (by assumption))))))) | exact allLt_all (And.right (And.right (And.right (And.right (And.right (And.right (And.right (by assumption)))))))) | exact allLt_all (And.right (And.right (And.right (And.right (And.right (And.right (And.right (And.right (by assumption))))))))) | exact ltSucc (by assumption) | exact ltLt (by assumption) (by assumption) | exact ltTail (by assumption) | exact ltTail (ltTail (by assumption)) | exact ltTail (ltTail (ltTail (by assumption))) | exact ltTail (ltTail (ltTail (ltTail (by assumption)))) | exact ltTail (ltTail (ltTail (ltTail (ltTail (by assumption))))) | exact ltLt (ltLt (by assumption) (by assumption)) (by assumption) | exact ltLt (ltTail (ltTail (by assumption))) (by assumption) | exact ltLt (ltLt (ltTail (ltTail (by assumption))) (by assumption)) (by assumption))); (case znb0 => first | assumption | exact Hole.neT (by assumption) (by first | assumption | exact allLt_all (by assumption) | exact allLt_all (And.right (by assumption)) | exact allLt_all (And.right (And.right (by assumption))) | exact allLt_all (And.right (And.right (And.right (by assumption)))) | exact allLt_all (And.right (And.right (And.right (And.right (by assumption))))) | exact allLt_all (And.right (And.right (And.right (And.right (And.right (by assumption)))))) | exact allLt_all (And.right (And.right (And.right (And.right (And.right (And.right (by assumption))))))) | exact allLt_all (And.right (And.right (And.right (And.right (And.right (And.right (And.right (by assumption)))))))) | exact allLt_all (And.right (And.right (And.right (And.right (And.right (And.right (And.right (And.right (by assumption))))))))) | exact ltSucc (by assumption) | exact ltLt (by assumption) (by assumption) | exact ltTail (by assumption) | exact ltTail (ltTail (by assumption)) | exact ltTail (ltTail (ltTail (by assumption))) | exact ltTail (ltTail (ltTail (ltTail (by assumption)))) | exact ltTail (ltTail (ltTail (ltTail (ltTail (by assumption))))) | exact ltLt (ltLt (by assumption) (by assumption)) (by assumption) | exact ltLt (ltTail (ltTail (by assumption))) (by assumption) | exact ltLt (ltLt (ltTail (ltTail (by assumption))) (by assumption)) (by assumption))); (case zna1 => first | assumption | exact Hole.ne (by assumption) (by first | assumption | exact allLt_all (by assumption) | exact allLt_all (And.right (by assumption)) | exact allLt_all (And.right (And.right (by assumption))) | exact allLt_all (And.right (And.right (And.right (by assumption)))) | exact allLt_all (And.right (And.right (And.right (And.right (by assumption))))) | exact allLt_all (And.right (And.right (And.right (And.right (And.right (by assumption)))))) | exact allLt_all (And.right (And.right (And.right (And.right (And.right (And.right (by assumption))))))) | exact allLt_all (And.right (And.right (And.right (And.right (And.right (And.right (And.right (by assumption)))))))) | exact allLt_all (And.right (And.right (And.right (And.right (And.right (And.right (And.right (And.right (by assumption))))))))) | exact ltSucc (by assumption) | exact ltLt (by assumption) (by assumption) | exact ltTail (by assumption) | exact ltTail (ltTail (by assumption)) | exact ltTail (ltTail (ltTail (by assumption))) | exact ltTail (ltTail (ltTail (ltTail (by assumption)))) | exact ltTail (ltTail (ltTail (ltTail (ltTail (by assumption))))) | exact ltLt (ltLt (by assumption) (by assumption)) (by assumption) | exact ltLt (ltTail (ltTail (by assumption))) (by assumption) | exact ltLt (ltLt (ltTail (ltTail (by assumption))) (by assumption)) (by assumption))); (case znb1 => first | assumption | exact Hole.neT (by assumption) (by first | assumption | exact allLt_all (by assumption) | exact allLt_all (And.right (by assumption)) | exact allLt_all (And.right (And.right (by assumption))) | exact allLt_all (And.right (And.right (And.right (by assumption)))) | exact allLt_all (And.right (And.right (And.right (And.right (by assumption))))) | exact allLt_all (And.right (And.right (And.right (And.right (And.right (by assumption)))))) | exact allLt_all (And.right (And.right (And.right (And.right (And.right (And.right (by assumption))))))) | exact allLt_all (And.right (And.right (And.right (And.right (And.right (And.right (And.right (by assumption)))))))) | exact allLt_all (And.right (And.right (And.right (And.right (And.right (And.right (And.right (And.right (by assumption))))))))) | exact ltSucc (by assumption) | exact ltLt (by assumption) (by assumption) | exact ltTail (by assumption) | exact ltTail (ltTail (by assumption)) | exact ltTail (ltTail (ltTail (by assumption))) | exact ltTail (ltTail (ltTail (ltTail (by assumption)))) | exact ltTail (ltTail (ltTail (ltTail (ltTail (by assumption))))) | exact ltLt (ltLt (by assumption) (by assumption)) (by assumption) | exact ltLt (ltTail (ltTail (by assumption))) (by assumption) | exact ltLt (ltLt (ltTail (ltTail (by assumption))) (by assumption)) (by assumption))); (case zhp => first | assumption | omega); (case zwC => kn_code); (case zwtb => assumption); (case zwhd => ktr_room); (case zwht0 => assumption); (case zwhk0 => assumption); (case zwhw0 => assumption); (case zwht => assumption); (case zwhkw => assumption); (case zwhw => assumption); (case zwht2 => assumption); (case zwhkw2 => assumption); (case zwhw2 => assumption); k_whole); (all_goals intros); (all_goals (try k_sweep)))) | (((with_reducible show wpAny _ _ (call (Value.ref 29) _ _) _ _ _); (k_dflt show wpAny _ _ (call (Value.ref 29) [Value.ref _]) _ _ _); k_dflt (refine' part_no ?zb ?zf ?zx ?zt ?zhk ?zn ?zr ?zd ?zq1 ?_; (case zb => k_asm); (case zf => k_asm); (case zx => k_asm); (case zt => k_asm); (case zhk => first | exact rfl | assumption); (case zn => k_asm); (case zr => k_intsEnd); (case zd => ktr_room); (case zq1 => first | assumption | (rw [isSign_some (by assumption)]; decide +kernel) | (rw [isWord_some (by assumption)]; decide +kernel)); k_whole); (all_goals intros); (all_goals (try k_sweep)))) | (((with_reducible show wpAny _ _ (call (Value.ref 29) _ _) _ _ _); (k_dflt show wpAny _ _ (call (Value.ref 29) [Value.ref _]) _ _ _); k_dflt (refine' part_sub ?zb ?zf ?zx ?zt ?zhk ?zn ?zr ?zd ?zq1 ?zq2 ?zq3 ?zq4 ?zq5 ?zq6 ?zq7 ?zq8 ?_; (case zb => k_asm); (case zf => k_asm); (case zx => k_asm); (case zt => k_asm); (case zhk => first | exact rfl | assumption); (case zn => k_asm); (case zr => k_intsEnd); (case zd => ktr_room); (case zq1 => assumption); (case zq2 => assumption); (case zq3 => assumption); (case zq4 => assumption); (case zq5 => assumption); (case zq6 => assumption); (case zq7 => assumption); (case zq8 => assumption); k_whole); (all_goals intros); (all_goals (try k_sweep)))) | (((with_reducible show wpAny _ _ (call (Value.ref 445) [Value.ref _, _]) _ _ _); k_dflt (refine' is_sign1_k ?zb ?zf ?zx ?zt ?zhk ?zn ?zr ?zd ?zq1 ?_; (case zb => k_asm); (case zf => k_asm); (case zx => k_asm); (case zt => k_asm); (case zhk => first | exact rfl | assumption); (case zn => k_asm); (case zr => k_intsEnd); (case zd => ktr_room); (case zq1 => first | assumption | (rw [isSign_some (by assumption)]; rfl) | (rw [isWord_some (by assumption)]; rfl) | (rw [isKind_some (by assumption)]; rfl)); k_whole); (all_goals intros); (all_goals (try k_sweep)))) | (((with_reducible show wpAny _ _ (call (Value.ref 408) [Value.ref _, _]) _ _ _); k_dflt (refine' one_of_no ?zb ?zf ?zx ?zt ?zhk ?zn ?zr ?zd ?zq1 ?zq2 ?_; (case zb => k_asm); (case zf => k_asm); (case zx => k_asm); (case zt => k_asm); (case zhk => first | exact rfl | assumption); (case zn => k_asm); (case zr => k_intsEnd); (case zd => ktr_room); (case zq1 => first | assumption | (rw [isSign_some (by assumption)]; decide +kernel) | (rw [isWord_some (by assumption)]; decide +kernel)); (case zq2 => first | assumption | (rw [isSign_some (by assumption)]; decide +kernel) | (rw [isWord_some (by assumption)]; decide +kernel)); k_whole); (all_goals intros); (all_goals (try k_sweep)))) | (((with_reducible show wpAny _ _ (call (Value.ref 430) _ _) _ _ _); (k_dflt show wpAny _ _ (call (Value.ref 430) [Value.ref _]) _ _ _); k_dflt (refine' name_ok ?zb ?zf ?zx ?zt ?zhk ?zn ?zr ?zd ?zu ?zq1 ?zq2 ?zq3 ?_; (case zb => k_asm); (case zf => k_asm); (case zx => k_asm); (case zt => k_asm); (case zhk => first | exact rfl | assumption); (case zn => k_asm); (case zr => k_intsEnd); (case zd => ktr_room); (case zu => intro ta9ζ; k_upd); (case zq1 => assumption); (case zq2 => assumption); (case zq3 => assumption); k_whole); (all_goals intros); (all_goals (try k_sweep)))) | ((with_reducible show WhlIf _ _ _); ((first | (refine WhlIf.yes (by with_unfolding_all rfl) ?_) | (refine WhlIf.no (by with_unfolding_all rfl) ?_) | (refine WhlIf.yes (by assumption) ?_) | (refine WhlIf.no (by assumption) ?_) | (refine whl_split ?_ ?_ <;> intro)))) | ((with_reducible show wpAny _ _ (exec (Stmt.While _ _ _ _) _) _ _ _); ((k_dflt (refine whl_start 100 ?_)))) | (k_unfold; (try dsimp only)) | (k_end; kc_close) | walk1 | (dsimp only; walk1) | (leave1; (try dsimp only)))
  refine hret _ (app [_, _, _, _, _, _, _] W) _ _ _ _ (by assumption) (H.app ?_) app_sub (fun pos ta o => ?_) (by k_asm) (by assumption : News h₀ L _ (_ :: _ :: _ :: _ :: _ :: _ :: _ :: W _ _ _))
  · (repeat (first | exact off_nil | refine off_cons (by first | assumption | exact Hole.ne (by assumption) (by first | assumption | exact allLt_all (by assumption) | exact allLt_all (And.right (by assumption)) | exact allLt_all (And.right (And.right (by assumption))) | exact allLt_all (And.right (And.right (And.right (by assumption)))) | exact allLt_all (And.right (And.right (And.right (And.right (by assumption))))) | exact allLt_all (And.right (And.right (And.right (And.right (And.right (by assumption)))))) | exact allLt_all (And.right (And.right (And.right (And.right (And.right (And.right (by assumption))))))) | exact allLt_all (And.right (And.right (And.right (And.right (And.right (And.right (And.right (by assumption)))))))) | exact allLt_all (And.right (And.right (And.right (And.right (And.right (And.right (And.right (And.right (by assumption))))))))) | exact ltSucc (by assumption) | exact ltLt (by assumption) (by assumption) | exact ltTail (by assumption) | exact ltTail (ltTail (by assumption)) | exact ltTail (ltTail (ltTail (by assumption))) | exact ltTail (ltTail (ltTail (ltTail (by assumption)))) | exact ltTail (ltTail (ltTail (ltTail (ltTail (by assumption))))) | exact ltLt (ltLt (by assumption) (by assumption)) (by assumption) | exact ltLt (ltTail (ltTail (by assumption))) (by assumption) | exact ltLt (ltLt (ltTail (ltTail (by assumption))) (by assumption)) (by assumption))) (by first | assumption | exact Hole.neT (by assumption) (by first | assumption | exact allLt_all (by assumption) | exact allLt_all (And.right (by assumption)) | exact allLt_all (And.right (And.right (by assumption))) | exact allLt_all (And.right (And.right (And.right (by assumption)))) | exact allLt_all (And.right (And.right (And.right (And.right (by assumption))))) | exact allLt_all (And.right (And.right (And.right (And.right (And.right (by assumption)))))) | exact allLt_all (And.right (And.right (And.right (And.right (And.right (And.right (by assumption))))))) | exact allLt_all (And.right (And.right (And.right (And.right (And.right (And.right (And.right (by assumption)))))))) | exact allLt_all (And.right (And.right (And.right (And.right (And.right (And.right (And.right (And.right (by assumption))))))))) | exact ltSucc (by assumption) | exact ltLt (by assumption) (by assumption) | exact ltTail (by assumption) | exact ltTail (ltTail (by assumption)) | exact ltTail (ltTail (ltTail (by assumption))) | exact ltTail (ltTail (ltTail (ltTail (by assumption)))) | exact ltTail (ltTail (ltTail (ltTail (ltTail (by assumption))))) | exact ltLt (ltLt (by assumption) (by assumption)) (by assumption) | exact ltLt (ltTail (ltTail (by assumption))) (by assumption) | exact ltLt (ltLt (ltTail (ltTail (by assumption))) (by assumption)) (by assumption))) ?_))
  · (repeat (first | assumption | exact DatAll.nil | (refine DatAll.cons ?_ ?_) | exact DatIn.str _ _ | exact DatIn.int _ _ | exact DatIn.none | exact DatIn.bool _ | refine DatIn.tuple (List.Mem.head _) ?_ | refine DatIn.tuple (List.Mem.tail _ (List.Mem.head _)) ?_ | refine DatIn.tuple (List.Mem.tail _ (List.Mem.tail _ (List.Mem.head _))) ?_ | refine DatIn.tuple (List.Mem.tail _ (List.Mem.tail _ (List.Mem.tail _ (List.Mem.head _)))) ?_ | refine DatIn.tuple (List.Mem.tail _ (List.Mem.tail _ (List.Mem.tail _ (List.Mem.tail _ (List.Mem.head _))))) ?_ | refine DatIn.tuple (List.Mem.tail _ (List.Mem.tail _ (List.Mem.tail _ (List.Mem.tail _ (List.Mem.tail _ (List.Mem.head _)))))) ?_ | refine DatIn.tuple (List.Mem.tail _ (List.Mem.tail _ (List.Mem.tail _ (List.Mem.tail _ (List.Mem.tail _ (List.Mem.tail _ (List.Mem.head _))))))) ?_ | refine DatIn.tuple (List.Mem.tail _ (List.Mem.tail _ (List.Mem.tail _ (List.Mem.tail _ (List.Mem.tail _ (List.Mem.tail _ (List.Mem.tail _ (List.Mem.head _)))))))) ?_ | exact dat_sub (by assumption) (by assumption)))
end
-- C17
theorem lt_ne2 {q : Addr} {l : List (Addr × Obj)} (h : ∀ p ∈ l, p.1 < q) : ∀ p ∈ l, p.1 ≠ q := fun p hp => Nat.ne_of_lt (h p hp)
theorem cons_ne {q : Addr} {x : Addr × Obj} {l : List (Addr × Obj)} (h1 : x.1 ≠ q) (h : ∀ p ∈ l, p.1 ≠ q) : ∀ p ∈ x :: l, p.1 ≠ q := by
  intro p hp
  rcases List.mem_cons.mp hp with rfl | hp
  · exact h1
  · exact h p hp
abbrev excDict (P : Params) (x : Str) (v : Tok) (pp : Addr) (k1 k2 : Tok) : Obj := dictOf [⟨PyData.keyHash P "what", .str "what" k1, .str x v⟩, ⟨PyData.keyHash P "at", .str "at" k2, .ref pp⟩] 2
section
variable {prog : Program} {w : World} {p : Program} {loose : List Str} {mean : ExcName → Option Value} {mg mb : Str → Option Value}
  {dp un : Nat} {gd : Option (List Code)} {cn : Str} {cs : Scope} {a : Addr} {ccd : Value} {cl : List (Str × Addr)} {outer : List Env} {A₀ : Around} {base h₀ : Heap} {L : Addr} {m : Str → Option Value} {s : Shared} {Q E : Value → Shared → Prop}
  {r : RR} {pos : Int} {ta : Tok} {news : List (Addr × Obj)} {news' : Tok → List (Addr × Obj)} {k : Int} {u : Tok}
variable (B : Below A₀ base outer h₀) (F : Fr h₀ L s.heap m) (X : (Mine.kMake.heap_1 w.params).In h₀) (T : Top p loose mean mg mb h₀) (hk : cs.kind = .function) (N : News h₀ L s.heap news) (R : RIn w.params news r pos ta)
include B F X T hk N R
end
local macro_rules | `(tactic| k_all) => `(tactic| first | exact List.forall_mem_nil _ | exact lt_ne2 (by (first | assumption | exact allLt_all (by assumption) | exact allLt_all (And.right (by assumption)) | exact allLt_all (And.right (And.right (by assumption))) | exact allLt_all (And.right (And.right (And.right (by assumption)))) | exact allLt_all (And.right (And.right (And.right (And.right (by assumption))))) | exact allLt_all (And.right (And.right (And.right (And.right (And.right (by assumption)))))) | exact allLt_all (And.right (And.right (And.right (And.right (And.right (And.right (by assumption))))))) | exact allLt_all (And.right (And.right (And.right (And.right (And.right (And.right (And.right (by assumption)))))))) | exact allLt_all (And.right (And.right (And.right (And.right (And.right (And.right (And.right (And.right (by assumption))))))))) | exact ltSucc (by assumption) | exact ltLt (by assumption) (by assumption) | exact ltTail (by assumption) | exact ltTail (ltTail (by assumption)) | exact ltTail (ltTail (ltTail (by assumption))) | exact ltTail (ltTail (ltTail (ltTail (by assumption)))) | exact ltTail (ltTail (ltTail (ltTail (ltTail (by assumption))))) | exact ltLt (ltLt (by assumption) (by assumption)) (by assumption) | exact ltLt (ltTail (ltTail (by assumption))) (by assumption) | exact ltLt (ltLt (ltTail (ltTail (by assumption))) (by assumption)) (by assumption))) | fail "no")
section
variable {prog : Program} {w : World} {p : Program} {loose : List Str} {mean : ExcName → Option Value} {mg mb : Str → Option Value}
  {dp un : Nat} {gd : Option (List Code)} {cn : Str} {cs : Scope} {a : Addr} {ccd : Value} {cl : List (Str × Addr)} {outer : List Env} {A₀ : Around} {base h₀ : Heap} {L : Addr} {m : Str → Option Value} {s : Shared} {Q E : Value → Shared → Prop}
  {r : RR} {pos : Int} {ta : Tok} {news : List (Addr × Obj)} {news' : Tok → List (Addr × Obj)} {k : Int} {u : Tok}
variable (B : Below A₀ base outer h₀) (F : Fr h₀ L s.heap m) (X : (Mine.kMake.heap_1 w.params).In h₀) (T : Top p loose mean mg mb h₀) (hk : cs.kind = .function) (N : News h₀ L s.heap news) (R : RIn w.params news r pos ta)
include B F X T hk N R
end
local macro_rules | `(tactic| k_ne) => `(tactic| first | exact Nat.ne_of_lt (by assumption) | exact Nat.ne_of_gt (by assumption) | (simp only [AllLt] at *; omega))
section
variable {prog : Program} {w : World} {p : Program} {loose : List Str} {mean : ExcName → Option Value} {mg mb : Str → Option Value}
  {dp un : Nat} {gd : Option (List Code)} {cn : Str} {cs : Scope} {a : Addr} {ccd : Value} {cl : List (Str × Addr)} {outer : List Env} {A₀ : Around} {base h₀ : Heap} {L : Addr} {m : Str → Option Value} {s : Shared} {Q E : Value → Shared → Prop}
  {r : RR} {pos : Int} {ta : Tok} {news : List (Addr × Obj)} {news' : Tok → List (Addr × Obj)} {k : Int} {u : Tok}
variable (B : Below A₀ base outer h₀) (F : Fr h₀ L s.heap m) (X : (Mine.kMake.heap_1 w.params).In h₀) (T : Top p loose mean mg mb h₀) (hk : cs.kind = .function) (N : News h₀ L s.heap news) (R : RIn w.params news r pos ta)
include B F X T hk N R
omit R in
theorem gf_new {x : Str} {v : Tok} {pp : Addr} (hd : dp + 3 < recursionLimit) 
    (hret : ∀ e d t1 k1 k2 h' tk', Fr h₀ L h' m → News h₀ L h' ((d, excDict w.params x v pp k1 k2) :: (t1, tupObj [.str x v]) :: (e, excD t1 d) :: news) → (∀ p ∈ news, p.1 < e) → e < t1 → t1 < d → Q (.ref e) { s with heap := h', toks := tk' }) :
    wpAny (model prog w) (ktrTop dp un gd cn cs L a ccd cl outer) (call (.ref 122) [.str x v, .ref pp]) Q E s := by
  w_top off
  refine wpAny_call (exc_make F N (fun a o e => F.keep _ _ (X a o e)) (by size_fits) fun e t h' F' N' l1 l2 => ?_)
  k_dflt (refine' code_def ?zk1 ?zk2 ?zk3 ?zk4 ?zk5 ?zkA ?zkF ?zkK ?zk6 ?zk7 ?zk8 ?zk9 ?zkB ?_ ?zc2 ?zc3 ?zc4 ?zc5; (case zkA => exact rfl); (case zkF => exact rfl); (case zkK => assumption); (case zk1 => k_asm); (case zk2 => k_asm); (case zk3 => k_asm); (case zk4 => k_asm); (case zk5 => k_asm); (case zk6 => k_is); (case zk7 => k_is); (case zk8 => ktr_room); (case zk9 => first | exact BindsTo.of_eq rfl | exact binds_K (by k_in) rfl (by k_is) rfl rfl rfl); (case zc5 => decide); (case zkB => exact locs rfl); (case zc2 => exact rfl); (case zc3 => exact rfl); (case zc4 => exact rfl); k_whole; intro _ _ _ _ _ _ _ _ _; (try dsimp only); (try k_fold))
  repeat' (first | ((with_reducible show wpAny _ _ (setAttr (Value.ref _) _ _) _ _ _); ((k_dflt (first
  | (refine' set_exc0 (pre := [_]) ?zzF ?zzN ?zzX ?zzt ?zzl ?zzm ?_; (case zzF => k_asm); (case zzN => k_asm); (case zzX => k_in); (case zzt => kernel_rfl); (case zzl => k_all); (case zzm => k_all); k_whole; intro d'ζ tk'ζ h'ζ F'ζ N'ζ l1ζ; simp only [List.cons_append, List.nil_append] at N'ζ l1ζ; (try k_lt l1ζ))
  | (refine' set_exc1 (pre := []) ?zzF ?zzN ?zzX ?zzi ?zzt ?zzl ?zzm ?zzk ?zzr ?_; (case zzF => k_asm); (case zzN => k_asm); (case zzX => k_in); (case zzi => k_mem); (case zzt => kernel_rfl); (case zzl => k_all); (case zzm => k_all); (case zzk => kernel_rfl); (case zzr => rfl); k_whole; intro tk'ζ h'ζ F'ζ N'ζ; simp only [List.nil_append] at N'ζ)); (try k_sweep)))) | ((with_reducible show wpAny _ _ (call (Value.builtin _) _ _) _ _ _); ((k_dflt (refine' exc_init ?zzF ?zzN ?zzX ?zzl ?_; (case zzF => k_asm); (case zzN => k_asm); (case zzX => k_in); (case zzl => k_all); k_whole); intro t1ζ h'ζ F'ζ N'ζ l1ζ; (try k_lt l1ζ); (try k_sweep)))) | ((with_reducible show wpAny _ _ (getMethod (Value.type _) _ _) _ _ _); ((k_dflt (refine' method_init ?zzX ?_; (case zzX => k_in); k_whole)))) | (k_unfold; (try dsimp only)) | (k_end; kc_close) | walk1 | (dsimp only; walk1) | (leave1; (try dsimp only)))
  exact hret _ _ _ _ _ _ _ (by k_asm) (news_sub (by k_asm) (sub_keep (sub_keep (sub_keep (sub_skip sub_same))))) (fun p hp => Nat.lt_trans (l1 p hp) l2) (And.left (by assumption)) (And.left (by assumption))
end
-- C18
theorem tokAt_lt {toks : List TR} {pos : Int} {t : TR} (h : tokAt toks pos 0 = some t) : pos.toNat < toks.length := by
  unfold tokAt at h; rw [Int.add_zero] at h
  exact (List.getElem?_eq_some_iff.mp h).1
section
variable {prog : Program} {w : World} {p : Program} {loose : List Str} {mean : ExcName → Option Value} {mg mb : Str → Option Value}
  {dp un : Nat} {gd : Option (List Code)} {cn : Str} {cs : Scope} {a : Addr} {ccd : Value} {cl : List (Str × Addr)} {outer : List Env} {A₀ : Around} {base h₀ : Heap} {L : Addr} {m : Str → Option Value} {s : Shared} {Q E : Value → Shared → Prop}
  {r : RR} {pos : Int} {ta : Tok} {news : List (Addr × Obj)} {news' : Tok → List (Addr × Obj)} {k : Int} {u : Tok}
variable (B : Below A₀ base outer h₀) (F : Fr h₀ L s.heap m) (X : (Mine.kMake.heap_1 w.params).In h₀) (T : Top p loose mean mg mb h₀) (hk : cs.kind = .function) (N : News h₀ L s.heap news) (R : RIn w.params news r pos ta)
include B F X T hk N R
omit B F X T hk R in
theorem tok_truthy {A : Around} {Q : Bool → Shared → Prop} (hm : (r.tl, r.lst) ∈ news) (hle : r.toks.length ≤ 64) (h0 : 0 < r.toks.length)
    (h : Q true { s with toks := s.toks + 1 + 1 }) : wpAny (model prog w) A (truthy (.ref r.tl)) Q E s := by
  refine wpAny_truthy_list (N.isList hm) (by simp; omega) ?_
  have e : (r.toks.map fun t => Value.ref t.a).toArray.isEmpty = false := by
    cases hq : r.toks with
    | nil => rw [hq] at h0; exact absurd h0 (by decide)
    | cons a l => simp
  rw [e]; exact h
omit B F X T hk R in
theorem tok_item_k {A : Around} {value slice : PySem.Expr} {t : TR} (hm : (r.tl, r.lst) ∈ news) (hle : r.toks.length ≤ 64) (lo : 0 ≤ pos) (ht : tokAt r.toks pos 0 = some t) (hk : k = pos) (h : Q (.ref t.a) s)
    (hs : subscripted slice false (.ref r.tl) (.int k u) = operate [.ref r.tl, .int k u] (getItem (.ref r.tl) (.int k u)) := by with_unfolding_all rfl) :
    wpAny (model prog w) A (subscriptTail value slice (.ref r.tl) (.int k u)) Q E s := by
  subst hk
  have hl := tokAt_lt ht
  refine tok_item N hm hle lo (by omega) (fun t' h' => ?_) hs
  unfold tokAt at ht
  rw [Int.add_zero, h'] at ht
  cases ht
  exact h
theorem fault_ok {t : TR} {x : Str} {v : Tok} (hd : dp + 5 < recursionLimit) (ht : tokAt r.toks pos 0 = some t)
    (hret : ∀ e d t1 k1 k2 h' tk', Fr h₀ L h' m → News h₀ L h' ((d, excDict w.params x v t.p k1 k2) :: (t1, tupObj [.str x v]) :: (e, excD t1 d) :: news) → (∀ p ∈ news, p.1 < e) → e < t1 → t1 < d → Q (.ref e) { s with heap := h', toks := tk' }) :
    wpAny (model prog w) (ktrTop dp un gd cn cs L a ccd cl outer) (call (.ref 365) [.ref r.x, .str x v]) Q E s := by
  w_top off
  have hlen := tokAt_lt ht
  have h0 : 0 < r.toks.length := by omega
  have ⟨ia, id', ip⟩ := R.it _ (tokAt_mem ht)
  have ⟨ix, id, il, it, le, lo⟩ := R
  refine wpAny_call ?_
  k_dflt (refine' code_def ?zk1 ?zk2 ?zk3 ?zk4 ?zk5 ?zkA ?zkF ?zkK ?zk6 ?zk7 ?zk8 ?zk9 ?zkB ?_ ?zc2 ?zc3 ?zc4 ?zc5; (case zkA => exact rfl); (case zkF => exact rfl); (case zkK => assumption); (case zk1 => k_asm); (case zk2 => k_asm); (case zk3 => k_asm); (case zk4 => k_asm); (case zk5 => k_asm); (case zk6 => k_is); (case zk7 => k_is); (case zk8 => ktr_room); (case zk9 => first | exact BindsTo.of_eq rfl | exact binds_K (by k_in) rfl (by k_is) rfl rfl rfl); (case zc5 => decide); (case zkB => exact locs rfl); (case zc2 => exact rfl); (case zc3 => exact rfl); (case zc4 => exact rfl); k_whole; intro _ _ _ _ _ _ _ _ _; (try dsimp only); (try k_fold))
  repeat' (first | (((with_reducible show wpAny _ _ (subscriptTail _ _ (Value.ref _) (Value.int _ _)) _ _ _); k_dflt (refine' tok_item_k ?zk1 ?zk2 ?zk3 ?zk4 ?zk5 ?zk8 ?_ ?zk6; (case zk1 => k_asm); (case zk2 => k_mem); (case zk3 => assumption); (case zk4 => assumption); (case zk5 => assumption); (case zk8 => first | rfl | (split <;> omega)); (case zk6 => with_unfolding_all rfl); k_whole))) | (((with_reducible show wpAny _ _ (truthy (Value.ref _)) _ _ _); k_dflt (refine' tok_truthy ?zk0 ?zk1 ?zk2 ?zk3 ?_; (case zk0 => k_asm); (case zk1 => k_mem); (case zk2 => assumption); (case zk3 => assumption); k_whole))) | (((with_reducible show wpAny _ _ (call (Value.ref 122) [Value.str _ _, Value.ref _]) _ _ _); k_dflt (refine' gf_new ?zb ?zf ?zx ?zt ?zhk ?zn ?zd ?_; (case zb => k_asm); (case zf => k_asm); (case zx => k_asm); (case zt => k_asm); (case zhk => first | exact rfl | assumption); (case zn => k_asm); (case zd => ktr_room); k_whole); intro e'ζ d'ζ t1'ζ k1'ζ k2'ζ h'ζ tk'ζ F'ζ N'ζ l1ζ l2ζ l3ζ; (try k_sweep))) | (((with_reducible show wpAny _ _ (call (Value.builtin _) [Value.ref _]) _ _ _); k_dflt (refine' tok_len ?zk1 ?zk2 ?zk3 ?_; (case zk1 => k_asm); (case zk2 => k_mem); (case zk3 => assumption); k_whole))) | (k_unfold; (try dsimp only)) | (k_end; kc_close) | walk1 | (dsimp only; walk1) | (leave1; (try dsimp only)))
  exact hret _ _ _ _ _ _ _ (by k_asm) (by k_asm) (by assumption) (by assumption) (by assumption)
end
-- C19
def RaisableD (P : Params) (E : Value → Shared → Prop) (v : Value) (s₁ : Shared) : Prop := ∃ e d t, v = .ref e ∧ s₁.heap.get? e = some (excD t d) ∧ (K1 P).In s₁.heap ∧ E v s₁
theorem RaisableD.intro {P : Params} {E : Value → Shared → Prop} {s₁ : Shared} {h₀ : Heap} {L e d t : Addr} {news : List (Addr × Obj)} (N : News h₀ L s₁.heap news) (hm : (e, excD t d) ∈ news) (X : (K1 P).In s₁.heap) (h : E (.ref e) s₁) : RaisableD P E (.ref e) s₁ :=
  ⟨e, d, t, rfl, (N _ hm).1, X, h⟩
theorem raise_D {prog : Program} {w : World} {A : Around} {E : Value → Shared → Prop} {s : Shared} {env : Env} {x : PySem.Expr} {pos : Pos} {Q : Flow → Shared → Prop} (hh : A.handled = none)
    (h : wpAny (model prog w) A (eval x env) (RaisableD w.params E) E s) : wpAny (model prog w) A (exec (.Raise (some x) none pos) env) Q E s := by
  show wpAny _ A (do standAt pos; raiseStmt env (some (do let v ← eval x env; standAt pos; pure v)) none) Q E s
  refine wpAny_bind (wpAny_standAt ?_)
  unfold raiseStmt
  dsimp only
  refine wpAny_bind (wpAny_bind (wpAny_mono h (fun v s₁ h₁ => wpAny_bind (wpAny_standAt (wpAny_pure ?_))) fun _ _ x => x))
  obtain ⟨e, d, t, rfl, he, X, hE⟩ := h₁
  obtain ⟨hp, g, dr, tk, os⟩ := s₁
  obtain ⟨nm, q', bs, hdct, sn, sub, ab, col, dd, k0, k1, k2, k3, k5, hC⟩ := cls122 X
  have hcB : (Value.ref 122 :: bm122).contains (.type "BaseException") = true := by decide +kernel
  dsimp only at he hC
  repeat (first | with_reducible refine wpAny_loadPart_at he ?_ | with_reducible refine wpAny_loadPart_at hC ?_ | (with_reducible refine wpAny_isSubtype_exc hC ?_; rw [hcB]) | wp_step)
  exact wpAny_raiseNew_none hh hE
theorem leave_raiseD3 {M : Model} {A : Around} {E : Value → Shared → Prop} {s' : Shared} {base g : Heap} {outer : List Env} {L a e d t : Addr} {m : Str → Option Value} {name : Str} {scope : Scope} {cd : Value} {Q : Unit → Shared → Prop} {news : List (Addr × Obj)} {od ot : Obj}
    (K : Below A base outer g) (F : Fr g L s'.heap m) (N : News g L s'.heap ((d, od) :: (t, ot) :: (e, excD t d) :: news)) (h1 : ∀ p ∈ news, p.1 < e) (h2 : e < t) (h3 : t < d)
    (hQ : ∀ h', RaisedD base g outer e d ((d, od) :: news) h' → g.UpToSlots h' → Q () { s' with heap := h' }) (hk : scope.kind = .function := by rfl) :
    wpAny M (A.deeper (envOf name scope L a cd)) (leaving (envOf name scope L a cd) (.ref e)) Q E s' :=
  leave_raiseD K F N (.tail _ (.tail _ (.head _))) (kept := (d, od) :: news) (fun q hq => by
    rcases List.mem_cons.mp hq with rfl | hq
    · exact ⟨.head _, Nat.ne_of_gt (Nat.lt_trans h2 h3)⟩
    · exact ⟨.tail _ (.tail _ (.tail _ hq)), Nat.ne_of_lt (h1 q hq)⟩) hQ hk
theorem asked_len {wd : Str} (h : OneWord wd) : wd.length + (Str.ofString " is asked here").length ≤ sizeLine := by
  have e : (Str.ofString " is asked here").length = 14 := by decide +kernel
  rw [e, sizeLine_eq]
  have := h.2
  omega
/-- behind every token but the full stop stands another -/
def Closed (toks : List TR) : Prop := ∀ p t, tokAt toks p 0 = some t → t.w ≠ "." → (tokAt toks (p + 1) 0).isSome = true
theorem nextTok {toks : List TR} {p : Int} {wd : Str} (hc : Closed toks) (h : isWord toks p wd = true) (hne : (wd == ("." : Str)) = false) : (tokAt toks (p + 1) 0).isSome = true := by
  unfold isWord isWordK at h
  split at h
  · rename_i t ht
    refine hc p t ht fun q => ?_
    rw [q] at h
    simp only [Bool.and_eq_true, beq_iff_eq] at h
    rw [← h.2] at hne
    simp at hne
  · cases h
section
variable {prog : Program} {w : World} {p : Program} {loose : List Str} {mean : ExcName → Option Value} {mg mb : Str → Option Value}
  {dp un : Nat} {gd : Option (List Code)} {cn : Str} {cs : Scope} {a : Addr} {ccd : Value} {cl : List (Str × Addr)} {outer : List Env} {A₀ : Around} {base h₀ : Heap} {L : Addr} {m : Str → Option Value} {s : Shared} {Q E : Value → Shared → Prop}
  {r : RR} {pos : Int} {ta : Tok} {news : List (Addr × Obj)} {news' : Tok → List (Addr × Obj)} {k : Int} {u : Tok}
variable (B : Below A₀ base outer h₀) (F : Fr h₀ L s.heap m) (X : (Mine.kMake.heap_1 w.params).In h₀) (T : Top p loose mean mg mb h₀) (hk : cs.kind = .function) (N : News h₀ L s.heap news) (R : RIn w.params news r pos ta)
include B F X T hk N R
theorem fault_any {x : Str} {v : Tok} (hd : dp + 5 < recursionLimit) (hs : (tokAt r.toks pos 0).isSome = true)
    (hret : ∀ t e d t1 k1 k2 h' tk', tokAt r.toks pos 0 = some t → Fr h₀ L h' m → News h₀ L h' ((d, excDict w.params x v t.p k1 k2) :: (t1, tupObj [.str x v]) :: (e, excD t1 d) :: news) → (∀ p ∈ news, p.1 < e) → e < t1 → t1 < d → Q (.ref e) { s with heap := h', toks := tk' }) :
    wpAny (model prog w) (ktrTop dp un gd cn cs L a ccd cl outer) (call (.ref 365) [.ref r.x, .str x v]) Q E s := by
  obtain ⟨t, ht⟩ := Option.isSome_iff_exists.mp hs
  exact fault_ok B F X T hk N R hd ht (fun e d t1 k1 k2 h' tk' => hret t e d t1 k1 k2 h' tk' ht)
theorem need_any {wd : Str} {v : Tok} (hd : dp + 7 < recursionLimit) (hw : OneWord wd) (U : ∀ ta', Upd r.dx (r.D w.params pos ta) (r.D w.params (pos + 1) ta') news (news' ta')) (hs : (tokAt r.toks pos 0).isSome = true)
    (hret1 : isWord r.toks pos wd = true → ∀ h' tk' ta', Fr h₀ L h' m → News h₀ L h' (news' ta') → RIn w.params (news' ta') r (pos + 1) ta' → Q .none { s with heap := h', toks := tk' })
    (hraise : ∀ t g' e d x v k1 k2 h' tk', isWord r.toks pos wd = false → tokAt r.toks pos 0 = some t → Fr h₀ L g' m → RaisedD base g' (envX cn cs L a ccd cl :: outer) e d ((d, excDict w.params x v t.p k1 k2) :: news) h' → g'.UpToSlots h' → E (.ref e) { s with heap := h', toks := tk' }) :
    wpAny (model prog w) (ktrTop dp un gd cn cs L a ccd cl outer) (call (.ref 401) [.ref r.x, .str wd v]) Q E s := by
  w_top off
  have ⟨ix, id, il, it, le, lo⟩ := R
  refine wpAny_call ?_
  k_dflt (refine' code_def ?zk1 ?zk2 ?zk3 ?zk4 ?zk5 ?zkA ?zkF ?zkK ?zk6 ?zk7 ?zk8 ?zk9 ?zkB ?_ ?zc2 ?zc3 ?zc4 ?zc5; (case zkA => exact rfl); (case zkF => exact rfl); (case zkK => assumption); (case zk1 => k_asm); (case zk2 => k_asm); (case zk3 => k_asm); (case zk4 => k_asm); (case zk5 => k_asm); (case zk6 => k_is); (case zk7 => k_is); (case zk8 => ktr_room); (case zk9 => first | exact BindsTo.of_eq rfl | exact binds_K (by k_in) rfl (by k_is) rfl rfl rfl); (case zc5 => decide); (case zkB => exact locs rfl); (case zc2 => exact rfl); (case zc3 => exact rfl); (case zc4 => exact rfl); k_whole; intro _ _ _ _ _ _ _ _ _; (try dsimp only); (try k_fold))
  repeat' (first | (((with_reducible show wpAny _ _ (call (Value.ref 365) [Value.ref _, Value.str _ _]) _ _ _); k_dflt (refine' fault_any ?zb ?zf ?zx ?zt ?zhk ?zn ?zr ?zd ?zht ?_; (case zb => k_asm); (case zf => k_asm); (case zx => k_asm); (case zt => k_asm); (case zhk => first | exact rfl | assumption); (case zn => k_asm); (case zr => k_intsEnd); (case zd => ktr_room); (case zht => first | assumption | exact nextTok (by assumption) (by assumption) (by decide +kernel)); k_whole); intro tt'ζ e'ζ d'ζ t1'ζ k1'ζ k2'ζ h'ζ tk'ζ ht'ζ F'ζ N'ζ l1ζ l2ζ l3ζ; (try k_sweep))) | (((with_reducible show wpAny _ _ (call (Value.ref 394) [Value.ref _, _]) _ _ _); k_dflt (refine' skip1 ?zb ?zf ?zx ?zt ?zhk ?zn ?zr ?zd ?zo ?zu ?_ ?_; (case zb => k_asm); (case zf => k_asm); (case zx => k_asm); (case zt => k_asm); (case zhk => first | exact rfl | assumption); (case zn => k_asm); (case zr => k_intsEnd); (case zd => ktr_room); (case zo => first | assumption | exact ⟨by decide +kernel, by decide +kernel⟩); (case zu => intro ta9ζ; k_upd); k_whole); (all_goals intros); (all_goals (try k_sweep)))) | ((with_reducible show wpAny _ _ (binaryOp Operator.Add (Value.str _ _) (Value.str _ _)) _ _ _); ((k_dflt (refine' PyProof.Rows.add_str ?_ ?zhsz; (case zhsz => exact asked_len (by assumption)); k_whole); intro t9ζ k9ζ))) | ((with_reducible show wpAny _ _ (leaving _ (Value.ref _)) _ _ _); ((first
  | (refine' leave_raiseD3 ?zk1 ?zk2 ?zk3 ?zk4 ?zk5 ?zk6 ?_; (case zk1 => assumption); (case zk2 => k_asm); (case zk3 => k_asm); (case zk4 => assumption); (case zk5 => assumption); (case zk6 => assumption); intro h'ζ R'ζ U'ζ; (try dsimp only at R'ζ U'ζ ⊢))
  | (refine' leave_onD ?zk1 ?zk2 ?zk3 ?zk4 ?_; (case zk3 => assumption); (case zk1 => assumption); (case zk4 => assumption); (case zk2 => assumption); intro h'ζ R'ζ U'ζ; (try dsimp only at R'ζ U'ζ ⊢))))) | ((with_reducible show RaisableD _ _ _ _); ((refine' RaisableD.intro ?zN ?zm ?zX ?_; (case zN => k_asm); (case zm => first | exact List.Mem.tail _ (List.Mem.tail _ (List.Mem.head _)) | k_mem); (case zX => k_in); (try dsimp only)))) | ((with_reducible show wpAny _ _ (exec (Stmt.Raise _ _ _) _) _ _ _); ((k_dflt (refine' raise_D ?zhh ?_; (case zhh => exact rfl); k_whole)))) | (k_unfold; (try dsimp only)) | (k_end; kc_close) | walk1 | (dsimp only; walk1) | (leave1; (try dsimp only)))
  · exact hraise _ _ _ _ _ _ _ _ _ _ (by assumption) (by assumption) (by k_asm) (by assumption) (by assumption)
  · exact hret1 (by assumption) _ _ _ (by k_asm) (by first | k_asm | exact cb_drop (by k_asm) (fun _ hp => List.Mem.tail _ hp) | exact cb_drop (by k_asm) (fun _ hp => List.Mem.tail _ (List.Mem.tail _ hp)) | exact cb_drop (by k_asm) (fun _ hp => List.Mem.tail _ (List.Mem.tail _ (List.Mem.tail _ hp)))) (by assumption)
end
-- C20
inductive KR where
  | ok (rel : Str) (n : Int)
  | bad (n : Int)
/-- the relation that START reads, by what stands there -/
def keyRelW (wd sg : Int → Str → Bool) (p : Int) : KR :=
  if wd p "NOT" then
    if wd (p + 1) "LESS" then KR.ok ">=" (if wd (p + 1 + 1) "THAN" then p + 1 + 1 + 1 else p + 1 + 1)
    else if sg (p + 1) "<" then KR.ok ">=" (if wd (p + 1 + 1) "THAN" then p + 1 + 1 + 1 else p + 1 + 1)
    else KR.bad (p + 1)
  else if wd p "EQUAL" then KR.ok "=" (if wd (p + 1) "TO" then p + 1 + 1 else p + 1)
  else if sg p "=" then KR.ok "=" (if wd (p + 1) "TO" then p + 1 + 1 else p + 1)
  else if sg p ">=" then KR.ok ">=" (p + 1)
  else if wd p "GREATER" then
    if wd (p + 1) "THAN" then
      if wd (p + 1 + 1) "OR" then
        if wd (p + 1 + 1 + 1) "EQUAL" then KR.ok ">=" (if wd (p + 1 + 1 + 1 + 1) "TO" then p + 1 + 1 + 1 + 1 + 1 else p + 1 + 1 + 1 + 1)
        else KR.bad (p + 1 + 1 + 1)
      else KR.ok ">" (p + 1 + 1)
    else
      if wd (p + 1) "OR" then
        if wd (p + 1 + 1) "EQUAL" then KR.ok ">=" (if wd (p + 1 + 1 + 1) "TO" then p + 1 + 1 + 1 + 1 else p + 1 + 1 + 1)
        else KR.bad (p + 1 + 1)
      else KR.ok ">" (p + 1)
  else if sg p ">" then
    if wd (p + 1) "THAN" then
      if wd (p + 1 + 1) "OR" then
        if wd (p + 1 + 1 + 1) "EQUAL" then KR.ok ">=" (if wd (p + 1 + 1 + 1 + 1) "TO" then p + 1 + 1 + 1 + 1 + 1 else p + 1 + 1 + 1 + 1)
        else KR.bad (p + 1 + 1 + 1)
      else KR.ok ">" (p + 1 + 1)
    else
      if wd (p + 1) "OR" then
        if wd (p + 1 + 1) "EQUAL" then KR.ok ">=" (if wd (p + 1 + 1 + 1) "TO" then p + 1 + 1 + 1 + 1 else p + 1 + 1 + 1)
        else KR.bad (p + 1 + 1)
      else KR.ok ">" (p + 1)
  else KR.bad p
abbrev keyRel (toks : List TR) : Int → KR := keyRelW (isWord toks) (fun p => isSign toks p 0)
theorem ffNe {b : Bool} (h : b = false) : ¬ b = true := by rw [h]; decide
section
variable {prog : Program} {w : World} {p : Program} {loose : List Str} {mean : ExcName → Option Value} {mg mb : Str → Option Value}
  {dp un : Nat} {gd : Option (List Code)} {cn : Str} {cs : Scope} {a : Addr} {ccd : Value} {cl : List (Str × Addr)} {outer : List Env} {A₀ : Around} {base h₀ : Heap} {L : Addr} {m : Str → Option Value} {s : Shared} {Q E : Value → Shared → Prop}
  {r : RR} {W : Int → Tok → Obj → List (Addr × Obj)} {pos : Int} {ta : Tok} {o : Obj} {ps : Array Value} {k : Int} {u : Tok}
variable (B : Below A₀ base outer h₀) (F : Fr h₀ L s.heap m) (X : (Mine.kMake.heap_1 w.params).In h₀) (T : Top p loose mean mg mb h₀) (hk : cs.kind = .function) (H : Hole w.params r W) (hp : 0 ≤ pos)
include B F X T hk H hp
theorem key_rel (N : News h₀ L s.heap (W pos ta o)) (hd : dp + 9 < recursionLimit) (hc : Closed r.toks) (h0 : (tokAt r.toks pos 0).isSome = true)
    (hret : ∀ rel n t' ta' h' tk', Fr h₀ L h' m → News h₀ L h' (W n ta' o) → 0 ≤ n → keyRel r.toks pos = .ok rel n → Q (.str rel t') { s with heap := h', toks := tk' })
    (hraise : ∀ n t g' e d x v k1 k2 ta' h' tk', tokAt r.toks n 0 = some t → Fr h₀ L g' m → RaisedD base g' (envX cn cs L a ccd cl :: outer) e d ((d, excDict w.params x v t.p k1 k2) :: W n ta' o) h' → g'.UpToSlots h' → keyRel r.toks pos = .bad n → E (.ref e) { s with heap := h', toks := tk' }) :
    wpAny (model prog w) (ktrTop dp un gd cn cs L a ccd cl outer) (call (.ref 279) [.ref r.x]) Q E s := by
  w_top off
  have R := H.rin pos ta o hp
  have ⟨ix, id, il, it, le, lo⟩ := R
  refine wpAny_call ?_
  k_dflt (refine' code_def ?zk1 ?zk2 ?zk3 ?zk4 ?zk5 ?zkA ?zkF ?zkK ?zk6 ?zk7 ?zk8 ?zk9 ?zkB ?_ ?zc2 ?zc3 ?zc4 ?zc5; (case zkA => exact rfl); (case zkF => exact rfl); (case zkK => assumption); (case zk1 => k_asm); (case zk2 => k_asm); (case zk3 => k_asm); (case zk4 => k_asm); (case zk5 => k_asm); (case zk6 => k_is); (case zk7 => k_is); (case zk8 => ktr_room); (case zk9 => first | exact BindsTo.of_eq rfl | exact binds_K (by k_in) rfl (by k_is) rfl rfl rfl); (case zc5 => decide); (case zkB => exact locs rfl); (case zc2 => exact rfl); (case zc3 => exact rfl); (case zc4 => exact rfl); k_whole; intro _ _ _ _ _ _ _ _ _; (try dsimp only); (try k_fold))
  repeat' (first | (((with_reducible show wpAny _ _ (call (Value.ref 365) [Value.ref _, Value.str _ _]) _ _ _); k_dflt (refine' fault_any ?zb ?zf ?zx ?zt ?zhk ?zn ?zr ?zd ?zht ?_; (case zb => k_asm); (case zf => k_asm); (case zx => k_asm); (case zt => k_asm); (case zhk => first | exact rfl | assumption); (case zn => k_asm); (case zr => k_intsEnd); (case zd => ktr_room); (case zht => first | assumption | exact nextTok (by assumption) (by assumption) (by decide +kernel)); k_whole); intro tt'ζ e'ζ d'ζ t1'ζ k1'ζ k2'ζ h'ζ tk'ζ ht'ζ F'ζ N'ζ l1ζ l2ζ l3ζ; (try k_sweep))) | (((with_reducible show wpAny _ _ (call (Value.ref 401) [Value.ref _, _]) _ _ _); k_dflt (refine' need_any ?zb ?zf ?zx ?zt ?zhk ?zn ?zr ?zd ?zo ?zu ?zs ?_ ?_; (case zb => k_asm); (case zf => k_asm); (case zx => k_asm); (case zt => k_asm); (case zhk => first | exact rfl | assumption); (case zn => k_asm); (case zr => k_intsEnd); (case zd => ktr_room); (case zo => first | assumption | exact ⟨by decide +kernel, by decide +kernel⟩); (case zu => intro ta9ζ; k_upd); (case zs => first | assumption | exact nextTok (by assumption) (by assumption) (by decide +kernel)); k_whole); (all_goals intros); (all_goals (try k_sweep)))) | (((with_reducible show wpAny _ _ (call (Value.ref 452) [Value.ref _, _]) _ _ _); k_dflt (refine' skip_sign1 ?zb ?zf ?zx ?zt ?zhk ?zn ?zr ?zd ?zu ?_ ?_; (case zb => k_asm); (case zf => k_asm); (case zx => k_asm); (case zt => k_asm); (case zhk => first | exact rfl | assumption); (case zn => k_asm); (case zr => k_intsEnd); (case zd => ktr_room); (case zu => intro ta9ζ; k_upd); k_whole); (all_goals intros); (all_goals (try k_sweep)))) | (((with_reducible show wpAny _ _ (call (Value.ref 394) [Value.ref _, _]) _ _ _); k_dflt (refine' skip1 ?zb ?zf ?zx ?zt ?zhk ?zn ?zr ?zd ?zo ?zu ?_ ?_; (case zb => k_asm); (case zf => k_asm); (case zx => k_asm); (case zt => k_asm); (case zhk => first | exact rfl | assumption); (case zn => k_asm); (case zr => k_intsEnd); (case zd => ktr_room); (case zo => first | assumption | exact ⟨by decide +kernel, by decide +kernel⟩); (case zu => intro ta9ζ; k_upd); k_whole); (all_goals intros); (all_goals (try k_sweep)))) | ((with_reducible show wpAny _ _ (leaving _ (Value.ref _)) _ _ _); ((first
  | (refine' leave_raiseD3 ?zk1 ?zk2 ?zk3 ?zk4 ?zk5 ?zk6 ?_; (case zk1 => assumption); (case zk2 => k_asm); (case zk3 => k_asm); (case zk4 => assumption); (case zk5 => assumption); (case zk6 => assumption); intro h'ζ R'ζ U'ζ; (try dsimp only at R'ζ U'ζ ⊢))
  | (refine' leave_onD ?zk1 ?zk2 ?zk3 ?zk4 ?_; (case zk3 => assumption); (case zk1 => assumption); (case zk4 => assumption); (case zk2 => assumption); intro h'ζ R'ζ U'ζ; (try dsimp only at R'ζ U'ζ ⊢))))) | ((with_reducible show RaisableD _ _ _ _); ((refine' RaisableD.intro ?zN ?zm ?zX ?_; (case zN => k_asm); (case zm => first | exact List.Mem.tail _ (List.Mem.tail _ (List.Mem.head _)) | k_mem); (case zX => k_in); (try dsimp only)))) | ((with_reducible show wpAny _ _ (exec (Stmt.Raise _ _ _) _) _ _ _); ((k_dflt (refine' raise_D ?zhh ?_; (case zhh => exact rfl); k_whole)))) | (k_unfold; (try dsimp only)) | (k_end; kc_close) | walk1 | (dsimp only; walk1) | (leave1; (try dsimp only)))
  all_goals first
    | (refine hret _ _ _ _ _ _ (by k_asm) (by k_asm) (by omega) ?_; unfold keyRel keyRelW; (repeat (first | refine (if_pos (by assumption)).trans ?_ | refine (if_neg (ffNe (by assumption))).trans ?_)); first | exact rfl | exact congrArg (KR.ok _) (if_pos (by assumption)) | exact congrArg (KR.ok _) (if_neg (ffNe (by assumption))))
    | (refine hraise _ _ _ _ _ _ _ _ _ _ _ _ (by assumption) (by k_asm) (by assumption) (by assumption) ?_; unfold keyRel keyRelW; (repeat (first | refine (if_pos (by assumption)).trans ?_ | refine (if_neg (ffNe (by assumption))).trans ?_)); first | exact rfl | exact congrArg (KR.ok _) (if_pos (by assumption)) | exact congrArg (KR.ok _) (if_neg (ffNe (by assumption))))
end
-- C21
theorem isWordK_none {toks : List TR} {pos k : Int} {wd : Str} (h : tokAt toks pos k = none) : isWordK toks pos k wd = false := by unfold isWordK; rw [h]
theorem isWordK_some {toks : List TR} {pos k : Int} {wd : Str} {t : TR} (h : tokAt toks pos k = some t) : isWordK toks pos k wd = (t.k == ("word" : Str) && t.w == wd) := by unfold isWordK; rw [h]
theorem isWordK_w {toks : List TR} {pos k : Int} {wd : Str} {t : TR} (h : tokAt toks pos k = some t) (hk : (t.k == ("word" : Str)) = true) : isWordK toks pos k wd = (t.w == wd) := by rw [isWordK_some h, hk]; rfl
theorem isWordK_n {toks : List TR} {pos k : Int} {wd : Str} {t : TR} (h : tokAt toks pos k = some t) (hk : (t.k == ("word" : Str)) = false) : isWordK toks pos k wd = false := by rw [isWordK_some h, hk]; rfl
theorem unrEndW {h₀ : Heap} {L I : Addr} {it : Obj} {rest : (Str → Option Value) → List (Addr × Obj) → Prop} {s₁ : Shared} {h' : Heap} {tk : Nat} {m' : Str → Option Value} {pre post : List (Addr × Obj)} (F : Fr h₀ L h' m') (N : News h₀ L h' (pre ++ (I, it) :: post))
    (o1 : ∀ p ∈ pre, p.1 ≠ I) (o2 : ∀ p ∈ post, p.1 ≠ I) (r : rest m' (pre ++ post)) : UnrEndW h₀ L s₁ [(I, it)] rest { s₁ with heap := h', toks := tk } := by
  refine ⟨h', tk, m', pre ++ post, rfl, F, ?_, ?_, r⟩
  · intro p hp
    rcases List.mem_append.mp hp with hp | hp
    · rw [List.mem_singleton.mp hp]
      exact N _ (List.mem_append_right _ (.head _))
    · rcases List.mem_append.mp hp with hp | hp
      · exact N p (List.mem_append_left _ hp)
      · exact N p (List.mem_append_right _ (.tail _ hp))
  · intro p hp q hq
    rw [List.mem_singleton.mp hq]
    rcases List.mem_append.mp hp with hp | hp
    · exact o1 p hp
    · exact o2 p hp
theorem isWordK_1 {toks : List TR} {pos : Int} {wd : Str} : isWordK toks pos 1 wd = isWord toks (pos + 1) wd := by unfold isWord isWordK tokAt; rw [Int.add_zero]
theorem isWordK_2 {toks : List TR} {pos : Int} {wd : Str} : isWordK toks pos 2 wd = isWord toks (pos + 1 + 1) wd := by unfold isWord isWordK tokAt; rw [Int.add_zero, show pos + 1 + 1 = pos + 2 from by omega]
theorem isWordK_1' {toks : List TR} {pos : Int} {wd : Str} {b : Bool} (h : isWordK toks pos (0 + 1) wd = b) : isWord toks (pos + 1) wd = b := by rw [← isWordK_1]; exact h
theorem isWordK_1'' {toks : List TR} {pos : Int} {wd : Str} {b : Bool} (h : isWordK toks pos 1 wd = b) : isWord toks (pos + 1) wd = b := by rw [← isWordK_1]; exact h
theorem isWordK_2' {toks : List TR} {pos : Int} {wd : Str} {b : Bool} (h : isWordK toks pos (1 + 1) wd = b) : isWord toks (pos + 1 + 1) wd = b := by rw [← isWordK_2]; exact h
section
variable {prog : Program} {w : World} {p : Program} {loose : List Str} {mean : ExcName → Option Value} {mg mb : Str → Option Value}
  {dp un : Nat} {gd : Option (List Code)} {cn : Str} {cs : Scope} {a : Addr} {ccd : Value} {cl : List (Str × Addr)} {outer : List Env} {A₀ : Around} {base h₀ : Heap} {L : Addr} {m : Str → Option Value} {s : Shared} {Q E : Value → Shared → Prop}
  {r : RR} {pos : Int} {ta : Tok} {news : List (Addr × Obj)} {news' : Tok → List (Addr × Obj)} {k : Int} {u : Tok}
variable (B : Below A₀ base outer h₀) (F : Fr h₀ L s.heap m) (X : (Mine.kMake.heap_1 w.params).In h₀) (T : Top p loose mean mg mb h₀) (hk : cs.kind = .function) (N : News h₀ L s.heap news) (R : RIn w.params news r pos ta)
include B F X T hk N R
theorem word_ahead1 {wd : Str} {v : Tok} (hd : dp + 2 < recursionLimit) (hk0 : 0 ≤ k)
    (hret0 : ∀ h' tk', Fr h₀ L h' m → News h₀ L h' news → Q (.bool (isWordK r.toks pos k wd)) { s with heap := h', toks := tk' }) :
    wpAny (model prog w) (ktrTop dp un gd cn cs L a ccd cl outer) (call (.ref 244) [.ref r.x, .int k u, .str wd v]) Q E s := by
  w_top off
  have ⟨ix, id, il, it, le, lo⟩ := R
  refine wpAny_call ?_
  k_dflt (refine' code_def ?zk1 ?zk2 ?zk3 ?zk4 ?zk5 ?zkA ?zkF ?zkK ?zk6 ?zk7 ?zk8 ?zk9 ?zkB ?_ ?zc2 ?zc3 ?zc4 ?zc5; (case zkA => exact rfl); (case zkF => exact rfl); (case zkK => assumption); (case zk1 => k_asm); (case zk2 => k_asm); (case zk3 => k_asm); (case zk4 => k_asm); (case zk5 => k_asm); (case zk6 => k_is); (case zk7 => k_is); (case zk8 => ktr_room); (case zk9 => first | exact BindsTo.of_eq rfl | exact binds_K (by k_in) rfl (by k_is) rfl rfl rfl); (case zc5 => decide); (case zkB => exact locs rfl); (case zc2 => exact rfl); (case zc3 => exact rfl); (case zc4 => exact rfl); k_whole; intro _ _ _ _ _ _ _ _ _; (try dsimp only); (try k_fold))
  repeat' (first | (((with_reducible show wpAny _ _ (call (Value.ref 351) [Value.ref _, _]) _ _ _); k_dflt (refine' peek1 ?zb ?zf ?zx ?zt ?zhk ?zn ?zr ?zd ?zz ?_ ?_; (case zb => k_asm); (case zf => k_asm); (case zx => k_asm); (case zt => k_asm); (case zhk => first | exact rfl | assumption); (case zn => k_asm); (case zr => k_intsEnd); (case zd => ktr_room); (case zz => first | decide | omega); k_whole); (all_goals intros); (all_goals (try k_sweep)))) | (k_unfold; (try dsimp only)) | (k_end; kc_close) | walk1 | (dsimp only; walk1) | (leave1; (try dsimp only)))
  · rw [isWordK_none (by assumption)] at hret0; exact hret0 _ _ (by k_asm) (by first | k_asm | exact cb_drop (by k_asm) (fun _ hp => List.Mem.tail _ hp) | exact cb_drop (by k_asm) (fun _ hp => List.Mem.tail _ (List.Mem.tail _ hp)) | exact cb_drop (by k_asm) (fun _ hp => List.Mem.tail _ (List.Mem.tail _ (List.Mem.tail _ hp))))
  · rw [isWordK_w (by assumption) (by assumption)] at hret0; exact hret0 _ _ (by k_asm) (by first | k_asm | exact cb_drop (by k_asm) (fun _ hp => List.Mem.tail _ hp) | exact cb_drop (by k_asm) (fun _ hp => List.Mem.tail _ (List.Mem.tail _ hp)) | exact cb_drop (by k_asm) (fun _ hp => List.Mem.tail _ (List.Mem.tail _ (List.Mem.tail _ hp))))
  · rename_i hk9 _ _ _ _
    rw [isWordK_n (by assumption) hk9] at hret0; rw [hk9]; exact hret0 _ _ (by k_asm) (by first | k_asm | exact cb_drop (by k_asm) (fun _ hp => List.Mem.tail _ hp) | exact cb_drop (by k_asm) (fun _ hp => List.Mem.tail _ (List.Mem.tail _ hp)) | exact cb_drop (by k_asm) (fun _ hp => List.Mem.tail _ (List.Mem.tail _ (List.Mem.tail _ hp))))
theorem word_ahead2 {wd : Str} {v : Tok} (hd : dp + 2 < recursionLimit) (hk0 : 0 ≤ k)
    (hretT : isWordK r.toks pos k wd = true → ∀ h' tk', Fr h₀ L h' m → News h₀ L h' news → Q (.bool true) { s with heap := h', toks := tk' })
    (hretF : isWordK r.toks pos k wd = false → ∀ h' tk', Fr h₀ L h' m → News h₀ L h' news → Q (.bool false) { s with heap := h', toks := tk' }) :
    wpAny (model prog w) (ktrTop dp un gd cn cs L a ccd cl outer) (call (.ref 244) [.ref r.x, .int k u, .str wd v]) Q E s := by
  refine word_ahead1 B F X T hk N R hd hk0 ?_
  cases h : isWordK r.toks pos k wd
  · exact hretF h
  · exact hretT h
omit N R in
theorem phrase_inv {x : Str} {v : Tok} (hd : dp + 1 < recursionLimit) (N : News h₀ L s.heap news) (hx : x = "invalid")
    (hret : ∀ q0 q1 q2 q t1 t2 h' tk', Fr h₀ L h' m → News h₀ L h' ((q, { cls := .type "tuple", data := .seq #[.ref q0, .ref q1, .ref q2] }) :: (q2, { cls := .type "tuple", data := .seq #[.str "KEY" t2] }) :: (q1, { cls := .type "tuple", data := .seq #[.str "INVALID" t1] }) :: (q0, { cls := .type "tuple", data := .seq #[] }) :: news) → (∀ p ∈ news, p.1 < q0) → q0 < q1 → q1 < q2 → q2 < q → Q (.ref q) { s with heap := h', toks := tk' }) :
    wpAny (model prog w) (ktrTop dp un gd cn cs L a ccd cl outer) (call (.ref 251) [.str x v]) Q E s := by
  w_top off
  subst hx
  refine wpAny_call ?_
  k_dflt (refine' code_def ?zk1 ?zk2 ?zk3 ?zk4 ?zk5 ?zkA ?zkF ?zkK ?zk6 ?zk7 ?zk8 ?zk9 ?zkB ?_ ?zc2 ?zc3 ?zc4 ?zc5; (case zkA => exact rfl); (case zkF => exact rfl); (case zkK => assumption); (case zk1 => k_asm); (case zk2 => k_asm); (case zk3 => k_asm); (case zk4 => k_asm); (case zk5 => k_asm); (case zk6 => k_is); (case zk7 => k_is); (case zk8 => ktr_room); (case zk9 => first | exact BindsTo.of_eq rfl | exact binds_K (by k_in) rfl (by k_is) rfl rfl rfl); (case zc5 => decide); (case zkB => exact locs rfl); (case zc2 => exact rfl); (case zc3 => exact rfl); (case zc4 => exact rfl); k_whole; intro _ _ _ _ _ _ _ _ _; (try dsimp only); (try k_fold))
  repeat' (first | (k_unfold; (try dsimp only)) | (k_end; kc_close) | walk1 | (dsimp only; walk1) | (leave1; (try dsimp only)))
  exact hret _ _ _ _ _ _ _ _ (by k_asm) (by k_asm) (by assumption) (And.left (by assumption)) (And.left (by assumption)) (And.left (by assumption))
theorem open_inv {v : Tok} (hd : dp + 4 < recursionLimit)
    (hr0 : isWord r.toks pos "INVALID" = false → ∀ t', ∀ h' tk', Fr h₀ L h' m → News h₀ L h' news → Q (.int 0 t') { s with heap := h', toks := tk' })
    (hr1 : isWord r.toks pos "INVALID" = true → isWord r.toks (pos + 1) "KEY" = false → ∀ t', ∀ h' tk', Fr h₀ L h' m → News h₀ L h' news → Q (.int 1 t') { s with heap := h', toks := tk' })
    (hr2 : isWord r.toks pos "INVALID" = true → isWord r.toks (pos + 1) "KEY" = true → ∀ t', ∀ h' tk', Fr h₀ L h' m → News h₀ L h' news → Q (.int 2 t') { s with heap := h', toks := tk' }) :
    wpAny (model prog w) (ktrTop dp un gd cn cs L a ccd cl outer) (call (.ref 258) [.ref r.x, .str "invalid" v]) Q E s := by
  w_top off
  have ⟨ix, id, il, it, le, lo⟩ := R
  refine wpAny_call ?_
  k_dflt (refine' code_def ?zk1 ?zk2 ?zk3 ?zk4 ?zk5 ?zkA ?zkF ?zkK ?zk6 ?zk7 ?zk8 ?zk9 ?zkB ?_ ?zc2 ?zc3 ?zc4 ?zc5; (case zkA => exact rfl); (case zkF => exact rfl); (case zkK => assumption); (case zk1 => k_asm); (case zk2 => k_asm); (case zk3 => k_asm); (case zk4 => k_asm); (case zk5 => k_asm); (case zk6 => k_is); (case zk7 => k_is); (case zk8 => ktr_room); (case zk9 => first | exact BindsTo.of_eq rfl | exact binds_K (by k_in) rfl (by k_is) rfl rfl rfl); (case zc5 => decide); (case zkB => exact locs rfl); (case zc2 => exact rfl); (case zc3 => exact rfl); (case zc4 => exact rfl); k_whole; intro _ _ _ _ _ _ _ _ _; (try dsimp only); (try k_fold))
  repeat' (first | (((with_reducible show wpAny _ _ (pyIter (Value.ref _)) (fun it s₂ => TurnsAt _ _ _ _ _ _ _ _ _ it s₂) _ _); (with_unfolding_all refine' iter_tupTurns ?zhh ?zf ?zn ?zm ?zc ?zd ?_; (case zhh => exact rfl); (case zf => k_asm); (case zn => k_asm); (case zm => first | exact List.Mem.head _ | exact List.Mem.tail _ (List.Mem.head _) | exact List.Mem.tail _ (List.Mem.tail _ (List.Mem.head _)) | exact List.Mem.tail _ (List.Mem.tail _ (List.Mem.tail _ (List.Mem.head _))) | exact List.Mem.tail _ (List.Mem.tail _ (List.Mem.tail _ (List.Mem.tail _ (List.Mem.head _)))) | exact List.Mem.tail _ (List.Mem.tail _ (List.Mem.tail _ (List.Mem.tail _ (List.Mem.tail _ (List.Mem.head _))))) | exact List.Mem.tail _ (List.Mem.tail _ (List.Mem.tail _ (List.Mem.tail _ (List.Mem.tail _ (List.Mem.tail _ (List.Mem.head _)))))) | exact List.Mem.tail _ (List.Mem.tail _ (List.Mem.tail _ (List.Mem.tail _ (List.Mem.tail _ (List.Mem.tail _ (List.Mem.tail _ (List.Mem.head _))))))) | exact List.Mem.tail _ (List.Mem.tail _ (List.Mem.tail _ (List.Mem.tail _ (List.Mem.tail _ (List.Mem.tail _ (List.Mem.tail _ (List.Mem.tail _ (List.Mem.head _)))))))) | exact List.Mem.tail _ (List.Mem.tail _ (List.Mem.tail _ (List.Mem.tail _ (List.Mem.tail _ (List.Mem.tail _ (List.Mem.tail _ (List.Mem.tail _ (List.Mem.tail _ (List.Mem.head _)))))))))); (case zc => exact rfl); (case zd => exact rfl)); intro i9ζ l9ζ; (try k_lt l9ζ))) | (((with_reducible show wpAny _ _ (exec (Stmt.For (Expr.Name _ _) (Expr.Name _ _) _ [] _) _) _ _ _); (rename Fr _ _ _ _ => lF'ζ); (with_unfolding_all refine' For_turns lF'ζ ?_; k_whole))) | (((with_reducible show wpAny _ _ (call (Value.ref 251) _ _) _ _ _); (k_dflt show wpAny _ _ (call (Value.ref 251) [_]) _ _ _); k_dflt (refine' phrase_inv ?zb ?zf ?zx ?zt ?zhk ?zd ?zn ?zhx ?_; (case zb => k_asm); (case zf => k_asm); (case zx => k_asm); (case zt => k_asm); (case zhk => first | exact rfl | assumption); (case zn => k_asm); (case zd => ktr_room); (case zhx => first | exact rfl | decide +kernel); k_whole); (all_goals intros); (all_goals (try k_sweep)))) | (((with_reducible show wpAny _ _ (call (Value.ref 244) [Value.ref _, _, _]) _ _ _); k_dflt (refine' word_ahead2 ?zb ?zf ?zx ?zt ?zhk ?zn ?zr ?zd ?zz ?_ ?_; (case zb => k_asm); (case zf => k_asm); (case zx => k_asm); (case zt => k_asm); (case zhk => first | exact rfl | assumption); (case zn => k_asm); (case zr => k_intsEnd); (case zd => ktr_room); (case zz => first | decide | omega); k_whole); (all_goals intros); (all_goals (try k_sweep)))) | ((with_reducible show UnrEndW _ _ _ _ _ _); (first
  | (refine' unrEndW (pre := []) ?zf ?zn ?zo1 ?zo2 ⟨⟨?zmm, trivial⟩, ?_⟩; (case zf => k_asm); (case zn => k_asm); (case zo1 => k_all); (case zo2 => k_all); (case zmm => first | exact List.Mem.head _ | exact List.Mem.tail _ (List.Mem.head _) | exact List.Mem.tail _ (List.Mem.tail _ (List.Mem.head _)) | exact List.Mem.tail _ (List.Mem.tail _ (List.Mem.tail _ (List.Mem.head _))) | exact List.Mem.tail _ (List.Mem.tail _ (List.Mem.tail _ (List.Mem.tail _ (List.Mem.head _)))) | exact List.Mem.tail _ (List.Mem.tail _ (List.Mem.tail _ (List.Mem.tail _ (List.Mem.tail _ (List.Mem.head _))))) | exact List.Mem.tail _ (List.Mem.tail _ (List.Mem.tail _ (List.Mem.tail _ (List.Mem.tail _ (List.Mem.tail _ (List.Mem.head _)))))) | exact List.Mem.tail _ (List.Mem.tail _ (List.Mem.tail _ (List.Mem.tail _ (List.Mem.tail _ (List.Mem.tail _ (List.Mem.tail _ (List.Mem.head _))))))) | exact List.Mem.tail _ (List.Mem.tail _ (List.Mem.tail _ (List.Mem.tail _ (List.Mem.tail _ (List.Mem.tail _ (List.Mem.tail _ (List.Mem.tail _ (List.Mem.head _)))))))) | exact List.Mem.tail _ (List.Mem.tail _ (List.Mem.tail _ (List.Mem.tail _ (List.Mem.tail _ (List.Mem.tail _ (List.Mem.tail _ (List.Mem.tail _ (List.Mem.tail _ (List.Mem.head _)))))))))); (try simp only [List.cons_append, List.nil_append]))
  | (refine' unrEndW (pre := [_]) ?zf ?zn ?zo1 ?zo2 ⟨⟨?zmm, trivial⟩, ?_⟩; (case zf => k_asm); (case zn => k_asm); (case zo1 => k_all); (case zo2 => k_all); (case zmm => first | exact List.Mem.head _ | exact List.Mem.tail _ (List.Mem.head _) | exact List.Mem.tail _ (List.Mem.tail _ (List.Mem.head _)) | exact List.Mem.tail _ (List.Mem.tail _ (List.Mem.tail _ (List.Mem.head _))) | exact List.Mem.tail _ (List.Mem.tail _ (List.Mem.tail _ (List.Mem.tail _ (List.Mem.head _)))) | exact List.Mem.tail _ (List.Mem.tail _ (List.Mem.tail _ (List.Mem.tail _ (List.Mem.tail _ (List.Mem.head _))))) | exact List.Mem.tail _ (List.Mem.tail _ (List.Mem.tail _ (List.Mem.tail _ (List.Mem.tail _ (List.Mem.tail _ (List.Mem.head _)))))) | exact List.Mem.tail _ (List.Mem.tail _ (List.Mem.tail _ (List.Mem.tail _ (List.Mem.tail _ (List.Mem.tail _ (List.Mem.tail _ (List.Mem.head _))))))) | exact List.Mem.tail _ (List.Mem.tail _ (List.Mem.tail _ (List.Mem.tail _ (List.Mem.tail _ (List.Mem.tail _ (List.Mem.tail _ (List.Mem.tail _ (List.Mem.head _)))))))) | exact List.Mem.tail _ (List.Mem.tail _ (List.Mem.tail _ (List.Mem.tail _ (List.Mem.tail _ (List.Mem.tail _ (List.Mem.tail _ (List.Mem.tail _ (List.Mem.tail _ (List.Mem.head _)))))))))); (try simp only [List.cons_append, List.nil_append]))
  | (refine' unrEndW (pre := [_, _]) ?zf ?zn ?zo1 ?zo2 ⟨⟨?zmm, trivial⟩, ?_⟩; (case zf => k_asm); (case zn => k_asm); (case zo1 => k_all); (case zo2 => k_all); (case zmm => first | exact List.Mem.head _ | exact List.Mem.tail _ (List.Mem.head _) | exact List.Mem.tail _ (List.Mem.tail _ (List.Mem.head _)) | exact List.Mem.tail _ (List.Mem.tail _ (List.Mem.tail _ (List.Mem.head _))) | exact List.Mem.tail _ (List.Mem.tail _ (List.Mem.tail _ (List.Mem.tail _ (List.Mem.head _)))) | exact List.Mem.tail _ (List.Mem.tail _ (List.Mem.tail _ (List.Mem.tail _ (List.Mem.tail _ (List.Mem.head _))))) | exact List.Mem.tail _ (List.Mem.tail _ (List.Mem.tail _ (List.Mem.tail _ (List.Mem.tail _ (List.Mem.tail _ (List.Mem.head _)))))) | exact List.Mem.tail _ (List.Mem.tail _ (List.Mem.tail _ (List.Mem.tail _ (List.Mem.tail _ (List.Mem.tail _ (List.Mem.tail _ (List.Mem.head _))))))) | exact List.Mem.tail _ (List.Mem.tail _ (List.Mem.tail _ (List.Mem.tail _ (List.Mem.tail _ (List.Mem.tail _ (List.Mem.tail _ (List.Mem.tail _ (List.Mem.head _)))))))) | exact List.Mem.tail _ (List.Mem.tail _ (List.Mem.tail _ (List.Mem.tail _ (List.Mem.tail _ (List.Mem.tail _ (List.Mem.tail _ (List.Mem.tail _ (List.Mem.tail _ (List.Mem.head _)))))))))); (try simp only [List.cons_append, List.nil_append]))
  | (refine' unrEndW (pre := [_, _, _]) ?zf ?zn ?zo1 ?zo2 ⟨⟨?zmm, trivial⟩, ?_⟩; (case zf => k_asm); (case zn => k_asm); (case zo1 => k_all); (case zo2 => k_all); (case zmm => first | exact List.Mem.head _ | exact List.Mem.tail _ (List.Mem.head _) | exact List.Mem.tail _ (List.Mem.tail _ (List.Mem.head _)) | exact List.Mem.tail _ (List.Mem.tail _ (List.Mem.tail _ (List.Mem.head _))) | exact List.Mem.tail _ (List.Mem.tail _ (List.Mem.tail _ (List.Mem.tail _ (List.Mem.head _)))) | exact List.Mem.tail _ (List.Mem.tail _ (List.Mem.tail _ (List.Mem.tail _ (List.Mem.tail _ (List.Mem.head _))))) | exact List.Mem.tail _ (List.Mem.tail _ (List.Mem.tail _ (List.Mem.tail _ (List.Mem.tail _ (List.Mem.tail _ (List.Mem.head _)))))) | exact List.Mem.tail _ (List.Mem.tail _ (List.Mem.tail _ (List.Mem.tail _ (List.Mem.tail _ (List.Mem.tail _ (List.Mem.tail _ (List.Mem.head _))))))) | exact List.Mem.tail _ (List.Mem.tail _ (List.Mem.tail _ (List.Mem.tail _ (List.Mem.tail _ (List.Mem.tail _ (List.Mem.tail _ (List.Mem.tail _ (List.Mem.head _)))))))) | exact List.Mem.tail _ (List.Mem.tail _ (List.Mem.tail _ (List.Mem.tail _ (List.Mem.tail _ (List.Mem.tail _ (List.Mem.tail _ (List.Mem.tail _ (List.Mem.tail _ (List.Mem.head _)))))))))); (try simp only [List.cons_append, List.nil_append]))
  | (refine' unrEndW (pre := [_, _, _, _]) ?zf ?zn ?zo1 ?zo2 ⟨⟨?zmm, trivial⟩, ?_⟩; (case zf => k_asm); (case zn => k_asm); (case zo1 => k_all); (case zo2 => k_all); (case zmm => first | exact List.Mem.head _ | exact List.Mem.tail _ (List.Mem.head _) | exact List.Mem.tail _ (List.Mem.tail _ (List.Mem.head _)) | exact List.Mem.tail _ (List.Mem.tail _ (List.Mem.tail _ (List.Mem.head _))) | exact List.Mem.tail _ (List.Mem.tail _ (List.Mem.tail _ (List.Mem.tail _ (List.Mem.head _)))) | exact List.Mem.tail _ (List.Mem.tail _ (List.Mem.tail _ (List.Mem.tail _ (List.Mem.tail _ (List.Mem.head _))))) | exact List.Mem.tail _ (List.Mem.tail _ (List.Mem.tail _ (List.Mem.tail _ (List.Mem.tail _ (List.Mem.tail _ (List.Mem.head _)))))) | exact List.Mem.tail _ (List.Mem.tail _ (List.Mem.tail _ (List.Mem.tail _ (List.Mem.tail _ (List.Mem.tail _ (List.Mem.tail _ (List.Mem.head _))))))) | exact List.Mem.tail _ (List.Mem.tail _ (List.Mem.tail _ (List.Mem.tail _ (List.Mem.tail _ (List.Mem.tail _ (List.Mem.tail _ (List.Mem.tail _ (List.Mem.head _)))))))) | exact List.Mem.tail _ (List.Mem.tail _ (List.Mem.tail _ (List.Mem.tail _ (List.Mem.tail _ (List.Mem.tail _ (List.Mem.tail _ (List.Mem.tail _ (List.Mem.tail _ (List.Mem.head _)))))))))); (try simp only [List.cons_append, List.nil_append]))
  | (refine' unrEndW (pre := [_, _, _, _, _]) ?zf ?zn ?zo1 ?zo2 ⟨⟨?zmm, trivial⟩, ?_⟩; (case zf => k_asm); (case zn => k_asm); (case zo1 => k_all); (case zo2 => k_all); (case zmm => first | exact List.Mem.head _ | exact List.Mem.tail _ (List.Mem.head _) | exact List.Mem.tail _ (List.Mem.tail _ (List.Mem.head _)) | exact List.Mem.tail _ (List.Mem.tail _ (List.Mem.tail _ (List.Mem.head _))) | exact List.Mem.tail _ (List.Mem.tail _ (List.Mem.tail _ (List.Mem.tail _ (List.Mem.head _)))) | exact List.Mem.tail _ (List.Mem.tail _ (List.Mem.tail _ (List.Mem.tail _ (List.Mem.tail _ (List.Mem.head _))))) | exact List.Mem.tail _ (List.Mem.tail _ (List.Mem.tail _ (List.Mem.tail _ (List.Mem.tail _ (List.Mem.tail _ (List.Mem.head _)))))) | exact List.Mem.tail _ (List.Mem.tail _ (List.Mem.tail _ (List.Mem.tail _ (List.Mem.tail _ (List.Mem.tail _ (List.Mem.tail _ (List.Mem.head _))))))) | exact List.Mem.tail _ (List.Mem.tail _ (List.Mem.tail _ (List.Mem.tail _ (List.Mem.tail _ (List.Mem.tail _ (List.Mem.tail _ (List.Mem.tail _ (List.Mem.head _)))))))) | exact List.Mem.tail _ (List.Mem.tail _ (List.Mem.tail _ (List.Mem.tail _ (List.Mem.tail _ (List.Mem.tail _ (List.Mem.tail _ (List.Mem.tail _ (List.Mem.tail _ (List.Mem.head _)))))))))); (try simp only [List.cons_append, List.nil_append]))
  | (refine' unrEndW (pre := [_, _, _, _, _, _]) ?zf ?zn ?zo1 ?zo2 ⟨⟨?zmm, trivial⟩, ?_⟩; (case zf => k_asm); (case zn => k_asm); (case zo1 => k_all); (case zo2 => k_all); (case zmm => first | exact List.Mem.head _ | exact List.Mem.tail _ (List.Mem.head _) | exact List.Mem.tail _ (List.Mem.tail _ (List.Mem.head _)) | exact List.Mem.tail _ (List.Mem.tail _ (List.Mem.tail _ (List.Mem.head _))) | exact List.Mem.tail _ (List.Mem.tail _ (List.Mem.tail _ (List.Mem.tail _ (List.Mem.head _)))) | exact List.Mem.tail _ (List.Mem.tail _ (List.Mem.tail _ (List.Mem.tail _ (List.Mem.tail _ (List.Mem.head _))))) | exact List.Mem.tail _ (List.Mem.tail _ (List.Mem.tail _ (List.Mem.tail _ (List.Mem.tail _ (List.Mem.tail _ (List.Mem.head _)))))) | exact List.Mem.tail _ (List.Mem.tail _ (List.Mem.tail _ (List.Mem.tail _ (List.Mem.tail _ (List.Mem.tail _ (List.Mem.tail _ (List.Mem.head _))))))) | exact List.Mem.tail _ (List.Mem.tail _ (List.Mem.tail _ (List.Mem.tail _ (List.Mem.tail _ (List.Mem.tail _ (List.Mem.tail _ (List.Mem.tail _ (List.Mem.head _)))))))) | exact List.Mem.tail _ (List.Mem.tail _ (List.Mem.tail _ (List.Mem.tail _ (List.Mem.tail _ (List.Mem.tail _ (List.Mem.tail _ (List.Mem.tail _ (List.Mem.tail _ (List.Mem.head _)))))))))); (try simp only [List.cons_append, List.nil_append])))) | (k_unfold; (try dsimp only)) | (k_end; kc_close) | walk1 | (dsimp only; walk1) | (leave1; (try dsimp only)))
  all_goals first
    | exact hr2 (by assumption) (isWordK_1' (by assumption)) _ _ _ (by k_asm) (by first | exact news_sub (by k_asm) sub_same | exact news_sub (by k_asm) (sub_skip sub_same) | exact news_sub (by k_asm) (sub_skip (sub_skip sub_same)) | exact news_sub (by k_asm) (sub_skip (sub_skip (sub_skip sub_same))) | exact news_sub (by k_asm) (sub_skip (sub_skip (sub_skip (sub_skip sub_same)))) | exact news_sub (by k_asm) (sub_skip (sub_skip (sub_skip (sub_skip (sub_skip sub_same))))) | exact news_sub (by k_asm) (sub_skip (sub_skip (sub_skip (sub_skip (sub_skip (sub_skip sub_same)))))) | exact news_sub (by k_asm) (sub_skip (sub_skip (sub_skip (sub_skip (sub_skip (sub_skip (sub_skip sub_same))))))) | exact news_sub (by k_asm) (sub_skip (sub_skip (sub_skip (sub_skip (sub_skip (sub_skip (sub_skip (sub_skip sub_same)))))))) | exact news_sub (by k_asm) (sub_skip (sub_skip (sub_skip (sub_skip (sub_skip (sub_skip (sub_skip (sub_skip (sub_skip sub_same))))))))))
    | exact hr1 (by assumption) (isWordK_1' (by assumption)) _ _ _ (by k_asm) (by first | exact news_sub (by k_asm) sub_same | exact news_sub (by k_asm) (sub_skip sub_same) | exact news_sub (by k_asm) (sub_skip (sub_skip sub_same)) | exact news_sub (by k_asm) (sub_skip (sub_skip (sub_skip sub_same))) | exact news_sub (by k_asm) (sub_skip (sub_skip (sub_skip (sub_skip sub_same)))) | exact news_sub (by k_asm) (sub_skip (sub_skip (sub_skip (sub_skip (sub_skip sub_same))))) | exact news_sub (by k_asm) (sub_skip (sub_skip (sub_skip (sub_skip (sub_skip (sub_skip sub_same)))))) | exact news_sub (by k_asm) (sub_skip (sub_skip (sub_skip (sub_skip (sub_skip (sub_skip (sub_skip sub_same))))))) | exact news_sub (by k_asm) (sub_skip (sub_skip (sub_skip (sub_skip (sub_skip (sub_skip (sub_skip (sub_skip sub_same)))))))) | exact news_sub (by k_asm) (sub_skip (sub_skip (sub_skip (sub_skip (sub_skip (sub_skip (sub_skip (sub_skip (sub_skip sub_same))))))))))
    | exact hr0 (by assumption) _ _ _ (by k_asm) (by first | exact news_sub (by k_asm) sub_same | exact news_sub (by k_asm) (sub_skip sub_same) | exact news_sub (by k_asm) (sub_skip (sub_skip sub_same)) | exact news_sub (by k_asm) (sub_skip (sub_skip (sub_skip sub_same))) | exact news_sub (by k_asm) (sub_skip (sub_skip (sub_skip (sub_skip sub_same)))) | exact news_sub (by k_asm) (sub_skip (sub_skip (sub_skip (sub_skip (sub_skip sub_same))))) | exact news_sub (by k_asm) (sub_skip (sub_skip (sub_skip (sub_skip (sub_skip (sub_skip sub_same)))))) | exact news_sub (by k_asm) (sub_skip (sub_skip (sub_skip (sub_skip (sub_skip (sub_skip (sub_skip sub_same))))))) | exact news_sub (by k_asm) (sub_skip (sub_skip (sub_skip (sub_skip (sub_skip (sub_skip (sub_skip (sub_skip sub_same)))))))) | exact news_sub (by k_asm) (sub_skip (sub_skip (sub_skip (sub_skip (sub_skip (sub_skip (sub_skip (sub_skip (sub_skip sub_same))))))))))
theorem open_not {v : Tok} (hd : dp + 4 < recursionLimit)
    (hr0 : isWord r.toks pos "NOT" = false → ∀ t', ∀ h' tk', Fr h₀ L h' m → News h₀ L h' news → Q (.int 0 t') { s with heap := h', toks := tk' })
    (hr1 : isWord r.toks pos "NOT" = true → isWord r.toks (pos + 1) "INVALID" = false → ∀ t', ∀ h' tk', Fr h₀ L h' m → News h₀ L h' news → Q (.int 0 t') { s with heap := h', toks := tk' })
    (hr2 : isWord r.toks pos "NOT" = true → isWord r.toks (pos + 1) "INVALID" = true → isWord r.toks (pos + 1 + 1) "KEY" = false → ∀ t', ∀ h' tk', Fr h₀ L h' m → News h₀ L h' news → Q (.int 2 t') { s with heap := h', toks := tk' })
    (hr3 : isWord r.toks pos "NOT" = true → isWord r.toks (pos + 1) "INVALID" = true → isWord r.toks (pos + 1 + 1) "KEY" = true → ∀ t', ∀ h' tk', Fr h₀ L h' m → News h₀ L h' news → Q (.int 3 t') { s with heap := h', toks := tk' }) :
    wpAny (model prog w) (ktrTop dp un gd cn cs L a ccd cl outer) (call (.ref 258) [.ref r.x, .str "not invalid" v]) Q E s := by
  w_top off
  have ⟨ix, id, il, it, le, lo⟩ := R
  refine wpAny_call ?_
  k_dflt (refine' code_def ?zk1 ?zk2 ?zk3 ?zk4 ?zk5 ?zkA ?zkF ?zkK ?zk6 ?zk7 ?zk8 ?zk9 ?zkB ?_ ?zc2 ?zc3 ?zc4 ?zc5; (case zkA => exact rfl); (case zkF => exact rfl); (case zkK => assumption); (case zk1 => k_asm); (case zk2 => k_asm); (case zk3 => k_asm); (case zk4 => k_asm); (case zk5 => k_asm); (case zk6 => k_is); (case zk7 => k_is); (case zk8 => ktr_room); (case zk9 => first | exact BindsTo.of_eq rfl | exact binds_K (by k_in) rfl (by k_is) rfl rfl rfl); (case zc5 => decide); (case zkB => exact locs rfl); (case zc2 => exact rfl); (case zc3 => exact rfl); (case zc4 => exact rfl); k_whole; intro _ _ _ _ _ _ _ _ _; (try dsimp only); (try k_fold))
  repeat' (first | (((with_reducible show wpAny _ _ (pyIter (Value.ref _)) (fun it s₂ => TurnsAt _ _ _ _ _ _ _ _ _ it s₂) _ _); (with_unfolding_all refine' iter_tupTurns ?zhh ?zf ?zn ?zm ?zc ?zd ?_; (case zhh => exact rfl); (case zf => k_asm); (case zn => k_asm); (case zm => first | exact List.Mem.head _ | exact List.Mem.tail _ (List.Mem.head _) | exact List.Mem.tail _ (List.Mem.tail _ (List.Mem.head _)) | exact List.Mem.tail _ (List.Mem.tail _ (List.Mem.tail _ (List.Mem.head _))) | exact List.Mem.tail _ (List.Mem.tail _ (List.Mem.tail _ (List.Mem.tail _ (List.Mem.head _)))) | exact List.Mem.tail _ (List.Mem.tail _ (List.Mem.tail _ (List.Mem.tail _ (List.Mem.tail _ (List.Mem.head _))))) | exact List.Mem.tail _ (List.Mem.tail _ (List.Mem.tail _ (List.Mem.tail _ (List.Mem.tail _ (List.Mem.tail _ (List.Mem.head _)))))) | exact List.Mem.tail _ (List.Mem.tail _ (List.Mem.tail _ (List.Mem.tail _ (List.Mem.tail _ (List.Mem.tail _ (List.Mem.tail _ (List.Mem.head _))))))) | exact List.Mem.tail _ (List.Mem.tail _ (List.Mem.tail _ (List.Mem.tail _ (List.Mem.tail _ (List.Mem.tail _ (List.Mem.tail _ (List.Mem.tail _ (List.Mem.head _)))))))) | exact List.Mem.tail _ (List.Mem.tail _ (List.Mem.tail _ (List.Mem.tail _ (List.Mem.tail _ (List.Mem.tail _ (List.Mem.tail _ (List.Mem.tail _ (List.Mem.tail _ (List.Mem.head _)))))))))); (case zc => exact rfl); (case zd => exact rfl)); intro i9ζ l9ζ; (try k_lt l9ζ))) | (((with_reducible show wpAny _ _ (exec (Stmt.For (Expr.Name _ _) (Expr.Name _ _) _ [] _) _) _ _ _); (rename Fr _ _ _ _ => lF'ζ); (with_unfolding_all refine' For_turns lF'ζ ?_; k_whole))) | (((with_reducible show wpAny _ _ (call (Value.ref 251) _ _) _ _ _); (k_dflt show wpAny _ _ (call (Value.ref 251) [_]) _ _ _); k_dflt (refine' phrase_inv ?zb ?zf ?zx ?zt ?zhk ?zd ?zn ?zhx ?_; (case zb => k_asm); (case zf => k_asm); (case zx => k_asm); (case zt => k_asm); (case zhk => first | exact rfl | assumption); (case zn => k_asm); (case zd => ktr_room); (case zhx => first | exact rfl | decide +kernel); k_whole); (all_goals intros); (all_goals (try k_sweep)))) | (((with_reducible show wpAny _ _ (call (Value.ref 244) [Value.ref _, _, _]) _ _ _); k_dflt (refine' word_ahead2 ?zb ?zf ?zx ?zt ?zhk ?zn ?zr ?zd ?zz ?_ ?_; (case zb => k_asm); (case zf => k_asm); (case zx => k_asm); (case zt => k_asm); (case zhk => first | exact rfl | assumption); (case zn => k_asm); (case zr => k_intsEnd); (case zd => ktr_room); (case zz => first | decide | omega); k_whole); (all_goals intros); (all_goals (try k_sweep)))) | ((with_reducible show UnrEndW _ _ _ _ _ _); (first
  | (refine' unrEndW (pre := []) ?zf ?zn ?zo1 ?zo2 ⟨⟨?zmm, trivial⟩, ?_⟩; (case zf => k_asm); (case zn => k_asm); (case zo1 => k_all); (case zo2 => k_all); (case zmm => first | exact List.Mem.head _ | exact List.Mem.tail _ (List.Mem.head _) | exact List.Mem.tail _ (List.Mem.tail _ (List.Mem.head _)) | exact List.Mem.tail _ (List.Mem.tail _ (List.Mem.tail _ (List.Mem.head _))) | exact List.Mem.tail _ (List.Mem.tail _ (List.Mem.tail _ (List.Mem.tail _ (List.Mem.head _)))) | exact List.Mem.tail _ (List.Mem.tail _ (List.Mem.tail _ (List.Mem.tail _ (List.Mem.tail _ (List.Mem.head _))))) | exact List.Mem.tail _ (List.Mem.tail _ (List.Mem.tail _ (List.Mem.tail _ (List.Mem.tail _ (List.Mem.tail _ (List.Mem.head _)))))) | exact List.Mem.tail _ (List.Mem.tail _ (List.Mem.tail _ (List.Mem.tail _ (List.Mem.tail _ (List.Mem.tail _ (List.Mem.tail _ (List.Mem.head _))))))) | exact List.Mem.tail _ (List.Mem.tail _ (List.Mem.tail _ (List.Mem.tail _ (List.Mem.tail _ (List.Mem.tail _ (List.Mem.tail _ (List.Mem.tail _ (List.Mem.head _)))))))) | exact List.Mem.tail _ (List.Mem.tail _ (List.Mem.tail _ (List.Mem.tail _ (List.Mem.tail _ (List.Mem.tail _ (List.Mem.tail _ (List.Mem.tail _ (List.Mem.tail _ (List.Mem.head _)))))))))); (try simp only [List.cons_append, List.nil_append]))
  | (refine' unrEndW (pre := [_]) ?zf ?zn ?zo1 ?zo2 ⟨⟨?zmm, trivial⟩, ?_⟩; (case zf => k_asm); (case zn => k_asm); (case zo1 => k_all); (case zo2 => k_all); (case zmm => first | exact List.Mem.head _ | exact List.Mem.tail _ (List.Mem.head _) | exact List.Mem.tail _ (List.Mem.tail _ (List.Mem.head _)) | exact List.Mem.tail _ (List.Mem.tail _ (List.Mem.tail _ (List.Mem.head _))) | exact List.Mem.tail _ (List.Mem.tail _ (List.Mem.tail _ (List.Mem.tail _ (List.Mem.head _)))) | exact List.Mem.tail _ (List.Mem.tail _ (List.Mem.tail _ (List.Mem.tail _ (List.Mem.tail _ (List.Mem.head _))))) | exact List.Mem.tail _ (List.Mem.tail _ (List.Mem.tail _ (List.Mem.tail _ (List.Mem.tail _ (List.Mem.tail _ (List.Mem.head _)))))) | exact List.Mem.tail _ (List.Mem.tail _ (List.Mem.tail _ (List.Mem.tail _ (List.Mem.tail _ (List.Mem.tail _ (List.Mem.tail _ (List.Mem.head _))))))) | exact List.Mem.tail _ (List.Mem.tail _ (List.Mem.tail _ (List.Mem.tail _ (List.Mem.tail _ (List.Mem.tail _ (List.Mem.tail _ (List.Mem.tail _ (List.Mem.head _)))))))) | exact List.Mem.tail _ (List.Mem.tail _ (List.Mem.tail _ (List.Mem.tail _ (List.Mem.tail _ (List.Mem.tail _ (List.Mem.tail _ (List.Mem.tail _ (List.Mem.tail _ (List.Mem.head _)))))))))); (try simp only [List.cons_append, List.nil_append]))
  | (refine' unrEndW (pre := [_, _]) ?zf ?zn ?zo1 ?zo2 ⟨⟨?zmm, trivial⟩, ?_⟩; (case zf => k_asm); (case zn => k_asm); (case zo1 => k_all); (case zo2 => k_all); (case zmm => first | exact List.Mem.head _ | exact List.Mem.tail _ (List.Mem.head _) | exact List.Mem.tail _ (List.Mem.tail _ (List.Mem.head _)) | exact List.Mem.tail _ (List.Mem.tail _ (List.Mem.tail _ (List.Mem.head _))) | exact List.Mem.tail _ (List.Mem.tail _ (List.Mem.tail _ (List.Mem.tail _ (List.Mem.head _)))) | exact List.Mem.tail _ (List.Mem.tail _ (List.Mem.tail _ (List.Mem.tail _ (List.Mem.tail _ (List.Mem.head _))))) | exact List.Mem.tail _ (List.Mem.tail _ (List.Mem.tail _ (List.Mem.tail _ (List.Mem.tail _ (List.Mem.tail _ (List.Mem.head _)))))) | exact List.Mem.tail _ (List.Mem.tail _ (List.Mem.tail _ (List.Mem.tail _ (List.Mem.tail _ (List.Mem.tail _ (List.Mem.tail _ (List.Mem.head _))))))) | exact List.Mem.tail _ (List.Mem.tail _ (List.Mem.tail _ (List.Mem.tail _ (List.Mem.tail _ (List.Mem.tail _ (List.Mem.tail _ (List.Mem.tail _ (List.Mem.head _)))))))) | exact List.Mem.tail _ (List.Mem.tail _ (List.Mem.tail _ (List.Mem.tail _ (List.Mem.tail _ (List.Mem.tail _ (List.Mem.tail _ (List.Mem.tail _ (List.Mem.tail _ (List.Mem.head _)))))))))); (try simp only [List.cons_append, List.nil_append]))
  | (refine' unrEndW (pre := [_, _, _]) ?zf ?zn ?zo1 ?zo2 ⟨⟨?zmm, trivial⟩, ?_⟩; (case zf => k_asm); (case zn => k_asm); (case zo1 => k_all); (case zo2 => k_all); (case zmm => first | exact List.Mem.head _ | exact List.Mem.tail _ (List.Mem.head _) | exact List.Mem.tail _ (List.Mem.tail _ (List.Mem.head _)) | exact List.Mem.tail _ (List.Mem.tail _ (List.Mem.tail _ (List.Mem.head _))) | exact List.Mem.tail _ (List.Mem.tail _ (List.Mem.tail _ (List.Mem.tail _ (List.Mem.head _)))) | exact List.Mem.tail _ (List.Mem.tail _ (List.Mem.tail _ (List.Mem.tail _ (List.Mem.tail _ (List.Mem.head _))))) | exact List.Mem.tail _ (List.Mem.tail _ (List.Mem.tail _ (List.Mem.tail _ (List.Mem.tail _ (List.Mem.tail _ (List.Mem.head _)))))) | exact List.Mem.tail _ (List.Mem.tail _ (List.Mem.tail _ (List.Mem.tail _ (List.Mem.tail _ (List.Mem.tail _ (List.Mem.tail _ (List.Mem.head _))))))) | exact List.Mem.tail _ (List.Mem.tail _ (List.Mem.tail _ (List.Mem.tail _ (List.Mem.tail _ (List.Mem.tail _ (List.Mem.tail _ (List.Mem.tail _ (List.Mem.head _)))))))) | exact List.Mem.tail _ (List.Mem.tail _ (List.Mem.tail _ (List.Mem.tail _ (List.Mem.tail _ (List.Mem.tail _ (List.Mem.tail _ (List.Mem.tail _ (List.Mem.tail _ (List.Mem.head _)))))))))); (try simp only [List.cons_append, List.nil_append]))
  | (refine' unrEndW (pre := [_, _, _, _]) ?zf ?zn ?zo1 ?zo2 ⟨⟨?zmm, trivial⟩, ?_⟩; (case zf => k_asm); (case zn => k_asm); (case zo1 => k_all); (case zo2 => k_all); (case zmm => first | exact List.Mem.head _ | exact List.Mem.tail _ (List.Mem.head _) | exact List.Mem.tail _ (List.Mem.tail _ (List.Mem.head _)) | exact List.Mem.tail _ (List.Mem.tail _ (List.Mem.tail _ (List.Mem.head _))) | exact List.Mem.tail _ (List.Mem.tail _ (List.Mem.tail _ (List.Mem.tail _ (List.Mem.head _)))) | exact List.Mem.tail _ (List.Mem.tail _ (List.Mem.tail _ (List.Mem.tail _ (List.Mem.tail _ (List.Mem.head _))))) | exact List.Mem.tail _ (List.Mem.tail _ (List.Mem.tail _ (List.Mem.tail _ (List.Mem.tail _ (List.Mem.tail _ (List.Mem.head _)))))) | exact List.Mem.tail _ (List.Mem.tail _ (List.Mem.tail _ (List.Mem.tail _ (List.Mem.tail _ (List.Mem.tail _ (List.Mem.tail _ (List.Mem.head _))))))) | exact List.Mem.tail _ (List.Mem.tail _ (List.Mem.tail _ (List.Mem.tail _ (List.Mem.tail _ (List.Mem.tail _ (List.Mem.tail _ (List.Mem.tail _ (List.Mem.head _)))))))) | exact List.Mem.tail _ (List.Mem.tail _ (List.Mem.tail _ (List.Mem.tail _ (List.Mem.tail _ (List.Mem.tail _ (List.Mem.tail _ (List.Mem.tail _ (List.Mem.tail _ (List.Mem.head _)))))))))); (try simp only [List.cons_append, List.nil_append]))
  | (refine' unrEndW (pre := [_, _, _, _, _]) ?zf ?zn ?zo1 ?zo2 ⟨⟨?zmm, trivial⟩, ?_⟩; (case zf => k_asm); (case zn => k_asm); (case zo1 => k_all); (case zo2 => k_all); (case zmm => first | exact List.Mem.head _ | exact List.Mem.tail _ (List.Mem.head _) | exact List.Mem.tail _ (List.Mem.tail _ (List.Mem.head _)) | exact List.Mem.tail _ (List.Mem.tail _ (List.Mem.tail _ (List.Mem.head _))) | exact List.Mem.tail _ (List.Mem.tail _ (List.Mem.tail _ (List.Mem.tail _ (List.Mem.head _)))) | exact List.Mem.tail _ (List.Mem.tail _ (List.Mem.tail _ (List.Mem.tail _ (List.Mem.tail _ (List.Mem.head _))))) | exact List.Mem.tail _ (List.Mem.tail _ (List.Mem.tail _ (List.Mem.tail _ (List.Mem.tail _ (List.Mem.tail _ (List.Mem.head _)))))) | exact List.Mem.tail _ (List.Mem.tail _ (List.Mem.tail _ (List.Mem.tail _ (List.Mem.tail _ (List.Mem.tail _ (List.Mem.tail _ (List.Mem.head _))))))) | exact List.Mem.tail _ (List.Mem.tail _ (List.Mem.tail _ (List.Mem.tail _ (List.Mem.tail _ (List.Mem.tail _ (List.Mem.tail _ (List.Mem.tail _ (List.Mem.head _)))))))) | exact List.Mem.tail _ (List.Mem.tail _ (List.Mem.tail _ (List.Mem.tail _ (List.Mem.tail _ (List.Mem.tail _ (List.Mem.tail _ (List.Mem.tail _ (List.Mem.tail _ (List.Mem.head _)))))))))); (try simp only [List.cons_append, List.nil_append]))
  | (refine' unrEndW (pre := [_, _, _, _, _, _]) ?zf ?zn ?zo1 ?zo2 ⟨⟨?zmm, trivial⟩, ?_⟩; (case zf => k_asm); (case zn => k_asm); (case zo1 => k_all); (case zo2 => k_all); (case zmm => first | exact List.Mem.head _ | exact List.Mem.tail _ (List.Mem.head _) | exact List.Mem.tail _ (List.Mem.tail _ (List.Mem.head _)) | exact List.Mem.tail _ (List.Mem.tail _ (List.Mem.tail _ (List.Mem.head _))) | exact List.Mem.tail _ (List.Mem.tail _ (List.Mem.tail _ (List.Mem.tail _ (List.Mem.head _)))) | exact List.Mem.tail _ (List.Mem.tail _ (List.Mem.tail _ (List.Mem.tail _ (List.Mem.tail _ (List.Mem.head _))))) | exact List.Mem.tail _ (List.Mem.tail _ (List.Mem.tail _ (List.Mem.tail _ (List.Mem.tail _ (List.Mem.tail _ (List.Mem.head _)))))) | exact List.Mem.tail _ (List.Mem.tail _ (List.Mem.tail _ (List.Mem.tail _ (List.Mem.tail _ (List.Mem.tail _ (List.Mem.tail _ (List.Mem.head _))))))) | exact List.Mem.tail _ (List.Mem.tail _ (List.Mem.tail _ (List.Mem.tail _ (List.Mem.tail _ (List.Mem.tail _ (List.Mem.tail _ (List.Mem.tail _ (List.Mem.head _)))))))) | exact List.Mem.tail _ (List.Mem.tail _ (List.Mem.tail _ (List.Mem.tail _ (List.Mem.tail _ (List.Mem.tail _ (List.Mem.tail _ (List.Mem.tail _ (List.Mem.tail _ (List.Mem.head _)))))))))); (try simp only [List.cons_append, List.nil_append])))) | (k_unfold; (try dsimp only)) | (k_end; kc_close) | walk1 | (dsimp only; walk1) | (leave1; (try dsimp only)))
  all_goals first
    | exact hr3 (by assumption) (isWordK_1'' (by assumption)) (isWordK_2' (by assumption)) _ _ _ (by k_asm) (by first | exact news_sub (by k_asm) sub_same | exact news_sub (by k_asm) (sub_skip sub_same) | exact news_sub (by k_asm) (sub_skip (sub_skip sub_same)) | exact news_sub (by k_asm) (sub_skip (sub_skip (sub_skip sub_same))) | exact news_sub (by k_asm) (sub_skip (sub_skip (sub_skip (sub_skip sub_same)))) | exact news_sub (by k_asm) (sub_skip (sub_skip (sub_skip (sub_skip (sub_skip sub_same))))) | exact news_sub (by k_asm) (sub_skip (sub_skip (sub_skip (sub_skip (sub_skip (sub_skip sub_same)))))) | exact news_sub (by k_asm) (sub_skip (sub_skip (sub_skip (sub_skip (sub_skip (sub_skip (sub_skip sub_same))))))) | exact news_sub (by k_asm) (sub_skip (sub_skip (sub_skip (sub_skip (sub_skip (sub_skip (sub_skip (sub_skip sub_same)))))))) | exact news_sub (by k_asm) (sub_skip (sub_skip (sub_skip (sub_skip (sub_skip (sub_skip (sub_skip (sub_skip (sub_skip sub_same))))))))))
    | exact hr2 (by assumption) (isWordK_1'' (by assumption)) (isWordK_2' (by assumption)) _ _ _ (by k_asm) (by first | exact news_sub (by k_asm) sub_same | exact news_sub (by k_asm) (sub_skip sub_same) | exact news_sub (by k_asm) (sub_skip (sub_skip sub_same)) | exact news_sub (by k_asm) (sub_skip (sub_skip (sub_skip sub_same))) | exact news_sub (by k_asm) (sub_skip (sub_skip (sub_skip (sub_skip sub_same)))) | exact news_sub (by k_asm) (sub_skip (sub_skip (sub_skip (sub_skip (sub_skip sub_same))))) | exact news_sub (by k_asm) (sub_skip (sub_skip (sub_skip (sub_skip (sub_skip (sub_skip sub_same)))))) | exact news_sub (by k_asm) (sub_skip (sub_skip (sub_skip (sub_skip (sub_skip (sub_skip (sub_skip sub_same))))))) | exact news_sub (by k_asm) (sub_skip (sub_skip (sub_skip (sub_skip (sub_skip (sub_skip (sub_skip (sub_skip sub_same)))))))) | exact news_sub (by k_asm) (sub_skip (sub_skip (sub_skip (sub_skip (sub_skip (sub_skip (sub_skip (sub_skip (sub_skip sub_same))))))))))
    | exact hr1 (by assumption) (isWordK_1'' (by assumption)) _ _ _ (by k_asm) (by first | exact news_sub (by k_asm) sub_same | exact news_sub (by k_asm) (sub_skip sub_same) | exact news_sub (by k_asm) (sub_skip (sub_skip sub_same)) | exact news_sub (by k_asm) (sub_skip (sub_skip (sub_skip sub_same))) | exact news_sub (by k_asm) (sub_skip (sub_skip (sub_skip (sub_skip sub_same)))) | exact news_sub (by k_asm) (sub_skip (sub_skip (sub_skip (sub_skip (sub_skip sub_same))))) | exact news_sub (by k_asm) (sub_skip (sub_skip (sub_skip (sub_skip (sub_skip (sub_skip sub_same)))))) | exact news_sub (by k_asm) (sub_skip (sub_skip (sub_skip (sub_skip (sub_skip (sub_skip (sub_skip sub_same))))))) | exact news_sub (by k_asm) (sub_skip (sub_skip (sub_skip (sub_skip (sub_skip (sub_skip (sub_skip (sub_skip sub_same)))))))) | exact news_sub (by k_asm) (sub_skip (sub_skip (sub_skip (sub_skip (sub_skip (sub_skip (sub_skip (sub_skip (sub_skip sub_same))))))))))
    | exact hr0 (by assumption) _ _ _ (by k_asm) (by first | exact news_sub (by k_asm) sub_same | exact news_sub (by k_asm) (sub_skip sub_same) | exact news_sub (by k_asm) (sub_skip (sub_skip sub_same)) | exact news_sub (by k_asm) (sub_skip (sub_skip (sub_skip sub_same))) | exact news_sub (by k_asm) (sub_skip (sub_skip (sub_skip (sub_skip sub_same)))) | exact news_sub (by k_asm) (sub_skip (sub_skip (sub_skip (sub_skip (sub_skip sub_same))))) | exact news_sub (by k_asm) (sub_skip (sub_skip (sub_skip (sub_skip (sub_skip (sub_skip sub_same)))))) | exact news_sub (by k_asm) (sub_skip (sub_skip (sub_skip (sub_skip (sub_skip (sub_skip (sub_skip sub_same))))))) | exact news_sub (by k_asm) (sub_skip (sub_skip (sub_skip (sub_skip (sub_skip (sub_skip (sub_skip (sub_skip sub_same)))))))) | exact news_sub (by k_asm) (sub_skip (sub_skip (sub_skip (sub_skip (sub_skip (sub_skip (sub_skip (sub_skip (sub_skip sub_same))))))))))
end
-- C22
section
variable {prog : Program} {w : World} {p : Program} {loose : List Str} {mean : ExcName → Option Value} {mg mb : Str → Option Value}
  {dp un : Nat} {gd : Option (List Code)} {cn : Str} {cs : Scope} {a : Addr} {ccd : Value} {cl : List (Str × Addr)} {outer : List Env} {A₀ : Around} {base h₀ : Heap} {L : Addr} {m : Str → Option Value} {s : Shared} {Q E : Value → Shared → Prop}
  {r : RR} {W : Int → Tok → Obj → List (Addr × Obj)} {pos : Int} {ta : Tok} {o : Obj} {ps : Array Value} {k : Int} {u : Tok}
variable (B : Below A₀ base outer h₀) (F : Fr h₀ L s.heap m) (X : (Mine.kMake.heap_1 w.params).In h₀) (T : Top p loose mean mg mb h₀) (hk : cs.kind = .function) (H : Hole w.params r W) (hp : 0 ≤ pos)
include B F X T hk H hp
theorem law_body0 (N : News h₀ L s.heap (W pos ta o)) (hd : dp + 6 < recursionLimit) (h1 : isWord r.toks pos "CONTINUE" = false)
    (hret0 : ∀ q h' tk', Fr h₀ L h' m → News h₀ L h' ((q, { cls := .type "tuple", data := .seq #[] }) :: W pos ta o) → (∀ p ∈ W pos ta o, p.1 < q) → Q (.ref q) { s with heap := h', toks := tk' }) :
    wpAny (model prog w) (ktrTop dp un gd cn cs L a ccd cl outer) (call (.ref 561) [.ref r.x]) Q E s := by
  w_top off
  have R := H.rin pos ta o hp
  have ⟨ix, id, il, it, le, lo⟩ := R
  refine wpAny_call ?_
  k_dflt (refine' code_def ?zk1 ?zk2 ?zk3 ?zk4 ?zk5 ?zkA ?zkF ?zkK ?zk6 ?zk7 ?zk8 ?zk9 ?zkB ?_ ?zc2 ?zc3 ?zc4 ?zc5; (case zkA => exact rfl); (case zkF => exact rfl); (case zkK => assumption); (case zk1 => k_asm); (case zk2 => k_asm); (case zk3 => k_asm); (case zk4 => k_asm); (case zk5 => k_asm); (case zk6 => k_is); (case zk7 => k_is); (case zk8 => ktr_room); (case zk9 => first | exact BindsTo.of_eq rfl | exact binds_K (by k_in) rfl (by k_is) rfl rfl rfl); (case zc5 => decide); (case zkB => exact locs rfl); (case zc2 => exact rfl); (case zc3 => exact rfl); (case zc4 => exact rfl); k_whole; intro _ _ _ _ _ _ _ _ _; (try dsimp only); (try k_fold))
  repeat' (first | (((with_reducible show wpAny _ _ (call (Value.ref 394) [Value.ref _, _]) _ _ _); k_dflt (refine' skip_no ?zb ?zf ?zx ?zt ?zhk ?zn ?zr ?zd ?zo ?zq1 ?_; (case zb => k_asm); (case zf => k_asm); (case zx => k_asm); (case zt => k_asm); (case zhk => first | exact rfl | assumption); (case zn => k_asm); (case zr => k_intsEnd); (case zd => ktr_room); (case zo => first | assumption | exact ⟨by decide +kernel, by decide +kernel⟩); (case zq1 => first | assumption | (rw [isSign_some (by assumption)]; decide +kernel) | (rw [isWord_some (by assumption)]; decide +kernel)); k_whole); (all_goals intros); (all_goals (try k_sweep)))) | ((with_reducible show WhlIf _ _ _); ((first | (refine WhlIf.yes (by with_unfolding_all rfl) ?_) | (refine WhlIf.no (by with_unfolding_all rfl) ?_) | (refine WhlIf.yes (by assumption) ?_) | (refine WhlIf.no (by assumption) ?_) | (refine whl_split ?_ ?_ <;> intro)))) | ((with_reducible show wpAny _ _ (exec (Stmt.While _ _ _ _) _) _ _ _); ((k_dflt (refine whl_start 100 ?_)))) | (k_unfold; (try dsimp only)) | (k_end; kc_close) | walk1 | (dsimp only; walk1) | (leave1; (try dsimp only)))
  exact hret0 _ _ _ (by k_asm) (news_sub (by k_asm) (sub_keep (sub_skip sub_same))) (by (first | assumption | exact allLt_all (by assumption) | exact allLt_all (And.right (by assumption)) | exact allLt_all (And.right (And.right (by assumption))) | exact allLt_all (And.right (And.right (And.right (by assumption)))) | exact allLt_all (And.right (And.right (And.right (And.right (by assumption))))) | exact allLt_all (And.right (And.right (And.right (And.right (And.right (by assumption)))))) | exact allLt_all (And.right (And.right (And.right (And.right (And.right (And.right (by assumption))))))) | exact allLt_all (And.right (And.right (And.right (And.right (And.right (And.right (And.right (by assumption)))))))) | exact allLt_all (And.right (And.right (And.right (And.right (And.right (And.right (And.right (And.right (by assumption))))))))) | exact ltSucc (by assumption) | exact ltLt (by assumption) (by assumption) | exact ltTail (by assumption) | exact ltTail (ltTail (by assumption)) | exact ltTail (ltTail (ltTail (by assumption))) | exact ltTail (ltTail (ltTail (ltTail (by assumption)))) | exact ltTail (ltTail (ltTail (ltTail (ltTail (by assumption))))) | exact ltLt (ltLt (by assumption) (by assumption)) (by assumption) | exact ltLt (ltTail (ltTail (by assumption))) (by assumption) | exact ltLt (ltLt (ltTail (ltTail (by assumption))) (by assumption)) (by assumption)))
theorem law_body1 (N : News h₀ L s.heap (W pos ta o)) (hd : dp + 6 < recursionLimit) (h1 : isWord r.toks pos "CONTINUE" = true) (h2 : isWord r.toks (pos + 1) "CONTINUE" = false)
    (hret1 : ∀ q q2 t1 ta' h' tk', Fr h₀ L h' m → News h₀ L h' ((q2, { cls := .type "tuple", data := .seq #[.ref q] }) :: (q, { cls := .type "tuple", data := .seq #[.str "continue" t1] }) :: W (pos + 1) ta' o) → (∀ p ∈ W (pos + 1) ta' o, p.1 < q) → q < q2 → Q (.ref q2) { s with heap := h', toks := tk' }) :
    wpAny (model prog w) (ktrTop dp un gd cn cs L a ccd cl outer) (call (.ref 561) [.ref r.x]) Q E s := by
  w_top off
  have R := H.rin pos ta o hp
  have ⟨ix, id, il, it, le, lo⟩ := R
  refine wpAny_call ?_
  k_dflt (refine' code_def ?zk1 ?zk2 ?zk3 ?zk4 ?zk5 ?zkA ?zkF ?zkK ?zk6 ?zk7 ?zk8 ?zk9 ?zkB ?_ ?zc2 ?zc3 ?zc4 ?zc5; (case zkA => exact rfl); (case zkF => exact rfl); (case zkK => assumption); (case zk1 => k_asm); (case zk2 => k_asm); (case zk3 => k_asm); (case zk4 => k_asm); (case zk5 => k_asm); (case zk6 => k_is); (case zk7 => k_is); (case zk8 => ktr_room); (case zk9 => first | exact BindsTo.of_eq rfl | exact binds_K (by k_in) rfl (by k_is) rfl rfl rfl); (case zc5 => decide); (case zkB => exact locs rfl); (case zc2 => exact rfl); (case zc3 => exact rfl); (case zc4 => exact rfl); k_whole; intro _ _ _ _ _ _ _ _ _; (try dsimp only); (try k_fold))
  repeat' (first | (((with_reducible show wpAny _ _ (call (Value.ref 394) [Value.ref _, _]) _ _ _); k_dflt (refine' skip_yes ?zb ?zf ?zx ?zt ?zhk ?zn ?zr ?zd ?zo ?zq1 ?zu ?_; (case zb => k_asm); (case zf => k_asm); (case zx => k_asm); (case zt => k_asm); (case zhk => first | exact rfl | assumption); (case zn => k_asm); (case zr => k_intsEnd); (case zd => ktr_room); (case zo => first | assumption | exact ⟨by decide +kernel, by decide +kernel⟩); (case zq1 => first | assumption | (rw [isSign_some (by assumption)]; decide +kernel) | (rw [isWord_some (by assumption)]; decide +kernel)); (case zu => intro ta9ζ; k_upd); k_whole); (all_goals intros); (all_goals (try k_sweep)))) | (((with_reducible show wpAny _ _ (call (Value.ref 394) [Value.ref _, _]) _ _ _); k_dflt (refine' skip_no ?zb ?zf ?zx ?zt ?zhk ?zn ?zr ?zd ?zo ?zq1 ?_; (case zb => k_asm); (case zf => k_asm); (case zx => k_asm); (case zt => k_asm); (case zhk => first | exact rfl | assumption); (case zn => k_asm); (case zr => k_intsEnd); (case zd => ktr_room); (case zo => first | assumption | exact ⟨by decide +kernel, by decide +kernel⟩); (case zq1 => first | assumption | (rw [isSign_some (by assumption)]; decide +kernel) | (rw [isWord_some (by assumption)]; decide +kernel)); k_whole); (all_goals intros); (all_goals (try k_sweep)))) | ((with_reducible show WhlIf _ _ _); ((first | (refine WhlIf.yes (by with_unfolding_all rfl) ?_) | (refine WhlIf.no (by with_unfolding_all rfl) ?_) | (refine WhlIf.yes (by assumption) ?_) | (refine WhlIf.no (by assumption) ?_) | (refine whl_split ?_ ?_ <;> intro)))) | ((with_reducible show wpAny _ _ (exec (Stmt.While _ _ _ _) _) _ _ _); ((k_dflt (refine whl_start 100 ?_)))) | (k_unfold; (try dsimp only)) | (k_end; kc_close) | walk1 | (dsimp only; walk1) | (leave1; (try dsimp only)))
  exact hret1 _ _ _ _ _ _ (by k_asm) (news_sub (by k_asm) (sub_keep (sub_keep (sub_skip sub_same)))) (by (first | assumption | exact allLt_all (by assumption) | exact allLt_all (And.right (by assumption)) | exact allLt_all (And.right (And.right (by assumption))) | exact allLt_all (And.right (And.right (And.right (by assumption)))) | exact allLt_all (And.right (And.right (And.right (And.right (by assumption))))) | exact allLt_all (And.right (And.right (And.right (And.right (And.right (by assumption)))))) | exact allLt_all (And.right (And.right (And.right (And.right (And.right (And.right (by assumption))))))) | exact allLt_all (And.right (And.right (And.right (And.right (And.right (And.right (And.right (by assumption)))))))) | exact allLt_all (And.right (And.right (And.right (And.right (And.right (And.right (And.right (And.right (by assumption))))))))) | exact ltSucc (by assumption) | exact ltLt (by assumption) (by assumption) | exact ltTail (by assumption) | exact ltTail (ltTail (by assumption)) | exact ltTail (ltTail (ltTail (by assumption))) | exact ltTail (ltTail (ltTail (ltTail (by assumption)))) | exact ltTail (ltTail (ltTail (ltTail (ltTail (by assumption))))) | exact ltLt (ltLt (by assumption) (by assumption)) (by assumption) | exact ltLt (ltTail (ltTail (by assumption))) (by assumption) | exact ltLt (ltLt (ltTail (ltTail (by assumption))) (by assumption)) (by assumption))) (And.left (by assumption))
theorem body_here1 (N : News h₀ L s.heap (W pos ta o)) (hu : un + 80 < cLine) (hd : dp + 8 < recursionLimit) (h1 : isWord r.toks pos "CONTINUE" = true) (h2 : isWord r.toks (pos + 1) "CONTINUE" = false)
    (hret1 : ∀ q q2 t1 ta' h' tk', Fr h₀ L h' m → News h₀ L h' ((q2, { cls := .type "tuple", data := .seq #[.ref q] }) :: (q, { cls := .type "tuple", data := .seq #[.str "continue" t1] }) :: W (pos + 1) ta' o) → (∀ p ∈ W (pos + 1) ta' o, p.1 < q) → q < q2 → Q (.ref q2) { s with heap := h', toks := tk' }) :
    wpAny (model prog w) (ktrTop dp un gd cn cs L a ccd cl outer) (call (.ref 265) [.ref r.x, .ref 561]) Q E s := by
  w_top off
  have R := H.rin pos ta o hp
  have ⟨ix, id, il, it, le, lo⟩ := R
  refine wpAny_call ?_
  k_dflt (refine' code_def ?zk1 ?zk2 ?zk3 ?zk4 ?zk5 ?zkA ?zkF ?zkK ?zk6 ?zk7 ?zk8 ?zk9 ?zkB ?_ ?zc2 ?zc3 ?zc4 ?zc5; (case zkA => exact rfl); (case zkF => exact rfl); (case zkK => assumption); (case zk1 => k_asm); (case zk2 => k_asm); (case zk3 => k_asm); (case zk4 => k_asm); (case zk5 => k_asm); (case zk6 => k_is); (case zk7 => k_is); (case zk8 => ktr_room); (case zk9 => first | exact BindsTo.of_eq rfl | exact binds_K (by k_in) rfl (by k_is) rfl rfl rfl); (case zc5 => decide); (case zkB => exact locs rfl); (case zc2 => exact rfl); (case zc3 => exact rfl); (case zc4 => exact rfl); k_whole; intro _ _ _ _ _ _ _ _ _; (try dsimp only); (try k_fold))
  repeat' (first | (((with_reducible show wpAny _ _ (compareOp CmpOp.Eq (Value.ref _) (Value.ref _)) _ _ _); k_dflt ((refine' eq_dataH ?zza ?zzb ?zsa ?zsb ?zzu ?_; (case zza => ked_read); (case zzb => ked_read); (case zsa => ked_shaped); (case zsb => ked_shaped); (case zzu => (simp only [units_in1, units_deeper]; first | omega | (dsimp only [ktrTop]; omega)))); ked_norm); ke_norm)) | (((with_reducible show wpAny _ _ (call (Value.ref 561) _ _) _ _ _); (k_dflt show wpAny _ _ (call (Value.ref 561) [Value.ref _]) _ _ _); k_dflt (refine' law_body1 ?zb ?zf ?zx ?zt ?zhk ?zhH ?zhp ?zn ?zwhd ?zwh1 ?zwh2 ?_; (case zb => k_asm); (case zf => k_asm); (case zx => k_asm); (case zt => k_asm); (case zhk => first | exact rfl | assumption); (case zhH => assumption); (case zn => first | k_asm | exact news_sub (by k_asm) (sub_skip sub_same)); (case zhp => first | assumption | omega); (case zwhd => ktr_room); (case zwh1 => assumption); (case zwh2 => assumption); k_whole); (all_goals intros); (all_goals (try k_sweep)))) | (k_unfold; (try dsimp only)) | (k_end; kc_close) | walk1 | (dsimp only; walk1) | (leave1; (try dsimp only)))
  exact hret1 _ _ _ _ _ _ (by k_asm) (by first | exact news_sub (by k_asm) sub_same | exact news_sub (by k_asm) (sub_skip sub_same) | exact news_sub (by k_asm) (sub_skip (sub_skip sub_same)) | exact news_sub (by k_asm) (sub_skip (sub_skip (sub_skip sub_same))) | exact news_sub (by k_asm) (sub_skip (sub_skip (sub_skip (sub_skip sub_same)))) | exact news_sub (by k_asm) (sub_skip (sub_skip (sub_skip (sub_skip (sub_skip sub_same))))) | exact news_sub (by k_asm) (sub_skip (sub_skip (sub_skip (sub_skip (sub_skip (sub_skip sub_same)))))) | exact news_sub (by k_asm) (sub_skip (sub_skip (sub_skip (sub_skip (sub_skip (sub_skip (sub_skip sub_same))))))) | exact news_sub (by k_asm) (sub_skip (sub_skip (sub_skip (sub_skip (sub_skip (sub_skip (sub_skip (sub_skip sub_same)))))))) | exact news_sub (by k_asm) (sub_skip (sub_skip (sub_skip (sub_skip (sub_skip (sub_skip (sub_skip (sub_skip (sub_skip sub_same)))))))))) (by assumption) (by assumption)
theorem body_here0 (N : News h₀ L s.heap (W pos ta o)) (hu : un + 80 < cLine) (hd : dp + 8 < recursionLimit) (h1 : isWord r.toks pos "CONTINUE" = false) (hs : (tokAt r.toks pos 0).isSome = true)
    (hraise : ∀ t g' e d x v k1 k2 ta' h' tk', tokAt r.toks pos 0 = some t → Fr h₀ L g' m → RaisedD base g' (envX cn cs L a ccd cl :: outer) e d ((d, excDict w.params x v t.p k1 k2) :: W pos ta' o) h' → g'.UpToSlots h' → E (.ref e) { s with heap := h', toks := tk' }) :
    wpAny (model prog w) (ktrTop dp un gd cn cs L a ccd cl outer) (call (.ref 265) [.ref r.x, .ref 561]) Q E s := by
  w_top off
  have R := H.rin pos ta o hp
  have ⟨ix, id, il, it, le, lo⟩ := R
  refine wpAny_call ?_
  k_dflt (refine' code_def ?zk1 ?zk2 ?zk3 ?zk4 ?zk5 ?zkA ?zkF ?zkK ?zk6 ?zk7 ?zk8 ?zk9 ?zkB ?_ ?zc2 ?zc3 ?zc4 ?zc5; (case zkA => exact rfl); (case zkF => exact rfl); (case zkK => assumption); (case zk1 => k_asm); (case zk2 => k_asm); (case zk3 => k_asm); (case zk4 => k_asm); (case zk5 => k_asm); (case zk6 => k_is); (case zk7 => k_is); (case zk8 => ktr_room); (case zk9 => first | exact BindsTo.of_eq rfl | exact binds_K (by k_in) rfl (by k_is) rfl rfl rfl); (case zc5 => decide); (case zkB => exact locs rfl); (case zc2 => exact rfl); (case zc3 => exact rfl); (case zc4 => exact rfl); k_whole; intro _ _ _ _ _ _ _ _ _; (try dsimp only); (try k_fold))
  repeat' (first | (((with_reducible show wpAny _ _ (compareOp CmpOp.Eq (Value.ref _) (Value.ref _)) _ _ _); k_dflt ((refine' eq_dataH ?zza ?zzb ?zsa ?zsb ?zzu ?_; (case zza => ked_read); (case zzb => ked_read); (case zsa => ked_shaped); (case zsb => ked_shaped); (case zzu => (simp only [units_in1, units_deeper]; first | omega | (dsimp only [ktrTop]; omega)))); ked_norm); ke_norm)) | (((with_reducible show wpAny _ _ (call (Value.ref 561) _ _) _ _ _); (k_dflt show wpAny _ _ (call (Value.ref 561) [Value.ref _]) _ _ _); k_dflt (refine' law_body0 ?zb ?zf ?zx ?zt ?zhk ?zhH ?zhp ?zn ?zwhd ?zwh1 ?_; (case zb => k_asm); (case zf => k_asm); (case zx => k_asm); (case zt => k_asm); (case zhk => first | exact rfl | assumption); (case zhH => assumption); (case zn => first | k_asm | exact news_sub (by k_asm) (sub_skip sub_same)); (case zhp => first | assumption | omega); (case zwhd => ktr_room); (case zwh1 => assumption); k_whole); (all_goals intros); (all_goals (try k_sweep)))) | (((with_reducible show wpAny _ _ (call (Value.ref 365) [Value.ref _, Value.str _ _]) _ _ _); k_dflt (refine' fault_any ?zb ?zf ?zx ?zt ?zhk ?zn ?zr ?zd ?zht ?_; (case zb => k_asm); (case zf => k_asm); (case zx => k_asm); (case zt => k_asm); (case zhk => first | exact rfl | assumption); (case zn => k_asm); (case zr => k_intsEnd); (case zd => ktr_room); (case zht => first | assumption | exact nextTok (by assumption) (by assumption) (by decide +kernel)); k_whole); intro tt'ζ e'ζ d'ζ t1'ζ k1'ζ k2'ζ h'ζ tk'ζ ht'ζ F'ζ N'ζ l1ζ l2ζ l3ζ; (try k_sweep))) | ((with_reducible show wpAny _ _ (leaving _ (Value.ref _)) _ _ _); ((first
  | (refine' leave_raiseD3 ?zk1 ?zk2 ?zk3 ?zk4 ?zk5 ?zk6 ?_; (case zk1 => assumption); (case zk2 => k_asm); (case zk3 => k_asm); (case zk4 => assumption); (case zk5 => assumption); (case zk6 => assumption); intro h'ζ R'ζ U'ζ; (try dsimp only at R'ζ U'ζ ⊢))
  | (refine' leave_onD ?zk1 ?zk2 ?zk3 ?zk4 ?_; (case zk3 => assumption); (case zk1 => assumption); (case zk4 => assumption); (case zk2 => assumption); intro h'ζ R'ζ U'ζ; (try dsimp only at R'ζ U'ζ ⊢))))) | ((with_reducible show RaisableD _ _ _ _); ((refine' RaisableD.intro ?zN ?zm ?zX ?_; (case zN => k_asm); (case zm => first | exact List.Mem.tail _ (List.Mem.tail _ (List.Mem.head _)) | k_mem); (case zX => k_in); (try dsimp only)))) | ((with_reducible show wpAny _ _ (exec (Stmt.Raise _ _ _) _) _ _ _); ((k_dflt (refine' raise_D ?zhh ?_; (case zhh => exact rfl); k_whole)))) | (k_unfold; (try dsimp only)) | (k_end; kc_close) | walk1 | (dsimp only; walk1) | (leave1; (try dsimp only)))
  exact hraise _ _ _ _ _ _ _ _ _ _ _ (by assumption) (by k_asm) (by first | assumption | exact RaisedD.less (by assumption) (sub_keep sub_same) | exact RaisedD.less (by assumption) (sub_keep (sub_skip sub_same)) | exact RaisedD.less (by assumption) (sub_keep (sub_skip (sub_skip sub_same))) | exact RaisedD.less (by assumption) (sub_keep (sub_skip (sub_skip (sub_skip sub_same)))) | exact RaisedD.less (by assumption) (sub_keep (sub_skip (sub_skip (sub_skip (sub_skip sub_same))))) | exact RaisedD.less (by assumption) (sub_keep (sub_skip (sub_skip (sub_skip (sub_skip (sub_skip sub_same)))))) | exact RaisedD.less (by assumption) (sub_keep (sub_skip (sub_skip (sub_skip (sub_skip (sub_skip (sub_skip sub_same))))))) | exact RaisedD.less (by assumption) (sub_keep (sub_skip (sub_skip (sub_skip (sub_skip (sub_skip (sub_skip (sub_skip sub_same)))))))) | exact RaisedD.less (by assumption) (sub_keep (sub_skip (sub_skip (sub_skip (sub_skip (sub_skip (sub_skip (sub_skip (sub_skip sub_same))))))))) | exact RaisedD.less (by assumption) (sub_keep (sub_skip (sub_skip (sub_skip (sub_skip (sub_skip (sub_skip (sub_skip (sub_skip (sub_skip sub_same)))))))))) | exact RaisedD.less (by assumption) (sub_keep (sub_skip (sub_skip (sub_skip (sub_skip (sub_skip (sub_skip (sub_skip (sub_skip (sub_skip (sub_skip sub_same))))))))))) | exact RaisedD.less (by assumption) (sub_keep (sub_skip (sub_skip (sub_skip (sub_skip (sub_skip (sub_skip (sub_skip (sub_skip (sub_skip (sub_skip (sub_skip sub_same)))))))))))) | exact RaisedD.less (by assumption) (sub_keep (sub_skip (sub_skip (sub_skip (sub_skip (sub_skip (sub_skip (sub_skip (sub_skip (sub_skip (sub_skip (sub_skip (sub_skip sub_same))))))))))))) | exact RaisedD.less (by assumption) (sub_keep (sub_skip (sub_skip (sub_skip (sub_skip (sub_skip (sub_skip (sub_skip (sub_skip (sub_skip (sub_skip (sub_skip (sub_skip (sub_skip sub_same))))))))))))))) (by assumption)
theorem body_any (N : News h₀ L s.heap (W pos ta o)) (hu : un + 80 < cLine) (hd : dp + 8 < recursionLimit) (hcc : isWord r.toks pos "CONTINUE" = true → isWord r.toks (pos + 1) "CONTINUE" = false) (hs : (tokAt r.toks pos 0).isSome = true)
    (hret1 : isWord r.toks pos "CONTINUE" = true → ∀ q q2 t1 ta' h' tk', Fr h₀ L h' m → News h₀ L h' ((q2, { cls := .type "tuple", data := .seq #[.ref q] }) :: (q, { cls := .type "tuple", data := .seq #[.str "continue" t1] }) :: W (pos + 1) ta' o) → (∀ p ∈ W (pos + 1) ta' o, p.1 < q) → q < q2 → (∀ p ∈ W (pos + 1) ta' o, p.1 < q2) → Q (.ref q2) { s with heap := h', toks := tk' })
    (hraise : isWord r.toks pos "CONTINUE" = false → ∀ t g' e d x v k1 k2 ta' h' tk', tokAt r.toks pos 0 = some t → Fr h₀ L g' m → RaisedD base g' (envX cn cs L a ccd cl :: outer) e d ((d, excDict w.params x v t.p k1 k2) :: W pos ta' o) h' → g'.UpToSlots h' → E (.ref e) { s with heap := h', toks := tk' }) :
    wpAny (model prog w) (ktrTop dp un gd cn cs L a ccd cl outer) (call (.ref 265) [.ref r.x, .ref 561]) Q E s := by
  cases h1 : isWord r.toks pos "CONTINUE"
  · exact body_here0 B F X T hk H hp N hu hd h1 hs (hraise h1)
  · exact body_here1 B F X T hk H hp N hu hd h1 (hcc h1) (fun q q2 t1 ta' h' tk' F' N' l1 l2 => hret1 h1 q q2 t1 ta' h' tk' F' N' l1 l2 (ltLt l1 l2))
end
-- C23
theorem isSomeW {toks : List TR} {p : Int} {wd : Str} (h : isWord toks p wd = true) : (tokAt toks p 0).isSome = true := by
  unfold isWord isWordK at h
  split at h
  · rename_i ht; rw [ht]; rfl
  · cases h
def NoCC (toks : List TR) : Prop := ∀ p, isWord toks p "CONTINUE" = true → isWord toks (p + 1) "CONTINUE" = false
inductive BR where
  | ok (d : List Dat) (n : Int)
  | bad (n : Int)
abbrev dBr (key : Str) : Dat := .tuple [.str key, .tuple [.tuple [.str "continue"]]]
def invTurn (wd : Int → Str → Bool) (k : List Dat → Int → BR) (acc : List Dat) (p : Int) : BR :=
  if wd p "INVALID" then
    if wd (p + 1) "KEY" then
      if wd (p + 1 + 1) "CONTINUE" then k (acc ++ [dBr "invalid"]) (p + 1 + 1 + 1) else BR.bad (p + 1 + 1)
    else if wd (p + 1) "CONTINUE" then k (acc ++ [dBr "invalid"]) (p + 1 + 1) else BR.bad (p + 1)
  else k acc p
def notTurn (wd : Int → Str → Bool) (k : List Dat → Int → BR) (acc : List Dat) (p : Int) : BR :=
  if wd p "NOT" then
    if wd (p + 1) "INVALID" then
      if wd (p + 1 + 1) "KEY" then
        if wd (p + 1 + 1 + 1) "CONTINUE" then k (acc ++ [dBr "not invalid"]) (p + 1 + 1 + 1 + 1) else BR.bad (p + 1 + 1 + 1)
      else if wd (p + 1 + 1) "CONTINUE" then k (acc ++ [dBr "not invalid"]) (p + 1 + 1 + 1) else BR.bad (p + 1 + 1)
    else k acc p
  else k acc p
def brW (wd : Int → Str → Bool) (p : Int) : BR := invTurn wd (notTurn wd BR.ok) [] p
abbrev brOf (toks : List TR) (p : Int) : BR := brW (isWord toks) p
theorem inAll {W : Int → Tok → Obj → List (Addr × Obj)} {q : Addr × Obj} (h : ∀ pos ta o, q ∈ W pos ta o) (pos : Int) (ta : Tok) (o : Obj) : q ∈ W pos ta o := h pos ta o
theorem br_b1 {toks : List TR} {p : Int} (h0 : isWord toks (p) "INVALID" = true) (h1 : isWord toks (p + 1) "KEY" = false) (h2 : isWord toks (p + 1) "CONTINUE" = false) : brOf toks p = BR.bad (p + 1) := by
  simp only [brOf, brW, invTurn, notTurn, h0, h1, h2, Bool.false_eq_true, if_true, if_false]; try rfl
theorem br_b2 {toks : List TR} {p : Int} (h0 : isWord toks (p) "INVALID" = true) (h1 : isWord toks (p + 1) "KEY" = true) (h2 : isWord toks (p + 1 + 1) "CONTINUE" = false) : brOf toks p = BR.bad (p + 1 + 1) := by
  simp only [brOf, brW, invTurn, notTurn, h0, h1, h2, Bool.false_eq_true, if_true, if_false]; try rfl
theorem items_cut {prog : Program} {w : World} {A : Around} {E : Value → Shared → Prop} {h₀ : Heap} {env : Env} {target : PySem.Expr} {body : List Stmt} {Q : Flow → Shared → Prop} {s : Shared} {nm : String} {keep : List (Addr × Obj)} {v1 v2 : Itm} {m : Str → Option Value} {news : List (Addr × Obj)}
    (C : Addr → Addr → (Str → Option Value) → (Str → Option Value) → List (Addr × Obj) → Prop) (I l : Addr) (hl : news.head?.map (·.1) = some l) (h2 : ∀ m' news', C I l m m' news' → ItemsRest prog w A E h₀ env target body Q s [(I, nm)] keep [v2] m' news')
    (h1 : (∀ m' news', C I l m m' news' → ItemsRest prog w A E h₀ env target body Q s [(I, nm)] keep [v2] m' news') → ItemsRest prog w A E h₀ env target body Q s [(I, nm)] keep [v1, v2] m news) : ItemsRest prog w A E h₀ env target body Q s [(I, nm)] keep [v1, v2] m news := h1 h2
theorem unrEndX {h₀ : Heap} {L I : Addr} {it : Obj} {rest : (Str → Option Value) → List (Addr × Obj) → Prop} {s₁ : Shared} {h' : Heap} {tk : Nat} {m' : Str → Option Value} {all : List (Addr × Obj)} (F : Fr h₀ L h' m') (N : News h₀ L h' all) (news' : List (Addr × Obj)) (hI : (I, it) ∈ all) (hs : ∀ p ∈ news', p ∈ all ∧ p.1 ≠ I) (r : rest m' news') : UnrEndW h₀ L s₁ [(I, it)] rest { s₁ with heap := h', toks := tk } :=
  ⟨h', tk, m', news', rfl, F, fun p hp => by
    rcases List.mem_append.mp hp with hp | hp
    · rw [List.mem_singleton.mp hp]
      exact N _ hI
    · exact N p (hs p hp).1, fun p hp q hq => by
    rw [List.mem_singleton.mp hq]
    exact (hs p hp).2, r⟩
/-- between the two keys -/
structure BrMid (P : Params) (r : RR) (W : Int → Tok → Obj → List (Addr × Obj)) (pos : Int) (o : Obj) (I l : Addr) (m m' : Str → Option Value) (news' : List (Addr × Obj)) : Prop where
  is : ∃ W' pos' ta' vs n acc a b c, Hole P r W' ∧ (∀ pos ta o, ∀ p ∈ W pos ta o, p ∈ W' pos ta o) ∧ 0 ≤ pos' ∧ (∀ pos ta o, ∀ p ∈ W' pos ta o, p.1 ≠ l) ∧ l ≠ r.dx ∧ l ≠ 232 ∧ (∀ pos ta o, ∀ p ∈ W' pos ta o, p.1 ≠ I) ∧ I ≠ r.dx ∧ I ≠ 232 ∧ l ≠ I ∧ I ≠ l ∧ news' = (l, PySem.W.listOf (List.toArray vs) n) :: W' pos' ta' o ∧ (∀ pos ta o, DatAll (W' pos ta o) vs acc) ∧ vs.length ≤ 1
    ∧ brOf r.toks pos = notTurn (isWord r.toks) BR.ok acc pos' ∧ m' = fun y => if y = Str.ofString "turn" then a else if y = Str.ofString "length" then b else if y = Str.ofString "key" then c else m y
theorem allNe {W : Int → Tok → Obj → List (Addr × Obj)} {l : Addr} (h : ∀ pos ta o, ∀ p ∈ W pos ta o, p.1 ≠ l) (pos : Int) (ta : Tok) (o : Obj) : ∀ p ∈ W pos ta o, p.1 ≠ l := h pos ta o
theorem unrEndB3 {h₀ : Heap} {L I l : Addr} {it lo : Obj} {x1 x2 x3 : Addr × Obj} {W : Int → Tok → Obj → List (Addr × Obj)} {pos : Int} {ta : Tok} {o : Obj} {rest : (Str → Option Value) → List (Addr × Obj) → Prop} {s₁ : Shared} {h' : Heap} {tk : Nat} {m' : Str → Option Value} (F : Fr h₀ L h' m') (N : News h₀ L h' (x1 :: x2 :: x3 :: (I, it) :: (l, lo) :: W pos ta o))
    (h1 : x1.1 ≠ I) (h2 : x2.1 ≠ I) (h3 : x3.1 ≠ I) (h4 : l ≠ I) (h5 : ∀ p ∈ W pos ta o, p.1 ≠ I) (r : rest m' ((l, lo) :: app [x1, x2, x3] W pos ta o)) : UnrEndW h₀ L s₁ [(I, it)] rest { s₁ with heap := h', toks := tk } := by
  refine unrEndX F N _ (.tail _ (.tail _ (.tail _ (.head _)))) (fun p hp => ?_) r
  rcases List.mem_cons.mp hp with rfl | hp
  · exact ⟨.tail _ (.tail _ (.tail _ (.tail _ (.head _)))), h4⟩
  · have hp : p ∈ x1 :: x2 :: x3 :: W pos ta o := hp
    rcases List.mem_cons.mp hp with rfl | hp
    · exact ⟨.head _, h1⟩
    · rcases List.mem_cons.mp hp with rfl | hp
      · exact ⟨.tail _ (.head _), h2⟩
      · rcases List.mem_cons.mp hp with rfl | hp
        · exact ⟨.tail _ (.tail _ (.head _)), h3⟩
        · exact ⟨.tail _ (.tail _ (.tail _ (.tail _ (.tail _ hp)))), h5 p hp⟩
theorem unrEndB0 {h₀ : Heap} {L I l : Addr} {it lo : Obj} {W : Int → Tok → Obj → List (Addr × Obj)} {pos : Int} {ta : Tok} {o : Obj} {rest : (Str → Option Value) → List (Addr × Obj) → Prop} {s₁ : Shared} {h' : Heap} {tk : Nat} {m' : Str → Option Value} (F : Fr h₀ L h' m') (N : News h₀ L h' ((I, it) :: (l, lo) :: W pos ta o))
    (h4 : l ≠ I) (h5 : ∀ p ∈ W pos ta o, p.1 ≠ I) (r : rest m' ((l, lo) :: W pos ta o)) : UnrEndW h₀ L s₁ [(I, it)] rest { s₁ with heap := h', toks := tk } := by
  refine unrEndX F N _ (.head _) (fun p hp => ?_) r
  rcases List.mem_cons.mp hp with rfl | hp
  · exact ⟨.tail _ (.head _), h4⟩
  · exact ⟨.tail _ (.tail _ hp), h5 p hp⟩
theorem app_ne {tl : List (Addr × Obj)} {W : Int → Tok → Obj → List (Addr × Obj)} {l : Addr} (h1 : ∀ q ∈ tl, q.1 ≠ l) (h2 : ∀ pos ta o, ∀ p ∈ W pos ta o, p.1 ≠ l) : ∀ pos ta o, ∀ p ∈ app tl W pos ta o, p.1 ≠ l := by
  intro pos ta o p hp
  rcases List.mem_append.mp hp with hp | hp
  · exact h1 p hp
  · exact h2 pos ta o p hp
theorem map3 {m m' : Str → Option Value} (h : ∀ y, y ≠ Str.ofString "turn" → y ≠ Str.ofString "length" → y ≠ Str.ofString "key" → m' y = m y) :
    m' = fun y => if y = Str.ofString "turn" then m' (Str.ofString "turn") else if y = Str.ofString "length" then m' (Str.ofString "length") else if y = Str.ofString "key" then m' (Str.ofString "key") else m y := by
  funext y
  by_cases h1 : y = Str.ofString "turn"
  · rw [if_pos h1, h1]
  · by_cases h2 : y = Str.ofString "length"
    · rw [if_neg h1, if_pos h2, h2]
    · by_cases h3 : y = Str.ofString "key"
      · rw [if_neg h1, if_neg h2, if_pos h3, h3]
      · rw [if_neg h1, if_neg h2, if_neg h3]; exact h y h1 h2 h3
theorem bm_0 {toks : List TR} {p : Int} (h0 : isWord toks (p) "INVALID" = false) : brOf toks p = notTurn (isWord toks) BR.ok [] p := by
  simp only [brOf, brW, invTurn, notTurn, h0, Bool.false_eq_true, if_true, if_false]; try rfl
theorem bm_1 {toks : List TR} {p : Int} (h0 : isWord toks (p) "INVALID" = true) (h1 : isWord toks (p + 1) "KEY" = false) (h2 : isWord toks (p + 1) "CONTINUE" = true) : brOf toks p = notTurn (isWord toks) BR.ok [dBr "invalid"] (p + 1 + 1) := by
  simp only [brOf, brW, invTurn, notTurn, h0, h1, h2, Bool.false_eq_true, if_true, if_false]; try rfl
theorem bm_2 {toks : List TR} {p : Int} (h0 : isWord toks (p) "INVALID" = true) (h1 : isWord toks (p + 1) "KEY" = true) (h2 : isWord toks (p + 1 + 1) "CONTINUE" = true) : brOf toks p = notTurn (isWord toks) BR.ok [dBr "invalid"] (p + 1 + 1 + 1) := by
  simp only [brOf, brW, invTurn, notTurn, h0, h1, h2, Bool.false_eq_true, if_true, if_false]; try rfl
theorem nt_0 {toks : List TR} {p : Int} {acc : List Dat} (h0 : isWord toks (p) "NOT" = false) : notTurn (isWord toks) BR.ok acc p = BR.ok acc p := by
  simp only [brOf, brW, invTurn, notTurn, h0, Bool.false_eq_true, if_true, if_false]; try rfl
theorem nt_1 {toks : List TR} {p : Int} {acc : List Dat} (h0 : isWord toks (p) "NOT" = true) (h1 : isWord toks (p + 1) "INVALID" = false) : notTurn (isWord toks) BR.ok acc p = BR.ok acc p := by
  simp only [brOf, brW, invTurn, notTurn, h0, h1, Bool.false_eq_true, if_true, if_false]; try rfl
theorem nt_2 {toks : List TR} {p : Int} {acc : List Dat} (h0 : isWord toks (p) "NOT" = true) (h1 : isWord toks (p + 1) "INVALID" = true) (h2 : isWord toks (p + 1 + 1) "KEY" = false) (h3 : isWord toks (p + 1 + 1) "CONTINUE" = true) : notTurn (isWord toks) BR.ok acc p = BR.ok (acc ++ [dBr "not invalid"]) (p + 1 + 1 + 1) := by
  simp only [brOf, brW, invTurn, notTurn, h0, h1, h2, h3, Bool.false_eq_true, if_true, if_false]; try rfl
theorem nt_3 {toks : List TR} {p : Int} {acc : List Dat} (h0 : isWord toks (p) "NOT" = true) (h1 : isWord toks (p + 1) "INVALID" = true) (h2 : isWord toks (p + 1 + 1) "KEY" = true) (h3 : isWord toks (p + 1 + 1 + 1) "CONTINUE" = true) : notTurn (isWord toks) BR.ok acc p = BR.ok (acc ++ [dBr "not invalid"]) (p + 1 + 1 + 1 + 1) := by
  simp only [brOf, brW, invTurn, notTurn, h0, h1, h2, h3, Bool.false_eq_true, if_true, if_false]; try rfl
theorem nb_2 {toks : List TR} {p : Int} {acc : List Dat} (h0 : isWord toks (p) "NOT" = true) (h1 : isWord toks (p + 1) "INVALID" = true) (h2 : isWord toks (p + 1 + 1) "KEY" = false) (h3 : isWord toks (p + 1 + 1) "CONTINUE" = false) : notTurn (isWord toks) BR.ok acc p = BR.bad (p + 1 + 1) := by
  simp only [brOf, brW, invTurn, notTurn, h0, h1, h2, h3, Bool.false_eq_true, if_true, if_false]; try rfl
theorem nb_3 {toks : List TR} {p : Int} {acc : List Dat} (h0 : isWord toks (p) "NOT" = true) (h1 : isWord toks (p + 1) "INVALID" = true) (h2 : isWord toks (p + 1 + 1) "KEY" = true) (h3 : isWord toks (p + 1 + 1 + 1) "CONTINUE" = false) : notTurn (isWord toks) BR.ok acc p = BR.bad (p + 1 + 1 + 1) := by
  simp only [brOf, brW, invTurn, notTurn, h0, h1, h2, h3, Bool.false_eq_true, if_true, if_false]; try rfl
theorem BrMid.elim {P : Params} {r : RR} {W : Int → Tok → Obj → List (Addr × Obj)} {pos : Int} {o : Obj} {I l : Addr} {m m' : Str → Option Value} {news' : List (Addr × Obj)} {K : (Str → Option Value) → List (Addr × Obj) → Prop} (hC : BrMid P r W pos o I l m m' news')
    (k : ∀ (W' : Int → Tok → Obj → List (Addr × Obj)) pos' ta' vs n acc a b c, Hole P r W' → (∀ pos ta o, ∀ p ∈ W pos ta o, p ∈ W' pos ta o) → 0 ≤ pos' → (∀ pos ta o, ∀ p ∈ W' pos ta o, p.1 ≠ l) → l ≠ r.dx → l ≠ 232 → (∀ pos ta o, ∀ p ∈ W' pos ta o, p.1 ≠ I) → I ≠ r.dx → I ≠ 232 → l ≠ I → I ≠ l → (∀ pos ta o, DatAll (W' pos ta o) vs acc) → vs.length ≤ 1
    → brOf r.toks pos = notTurn (isWord r.toks) BR.ok acc pos' → K (fun y => if y = Str.ofString "turn" then a else if y = Str.ofString "length" then b else if y = Str.ofString "key" then c else m y) ((l, PySem.W.listOf (List.toArray vs) n) :: W' pos' ta' o)) : K m' news' := by
  obtain ⟨W', pos', ta', vs, n, acc, a', b', c', H', sub', hp', hne, hl1, hl2, hI1, hI2, hI3, hI4, hI5, e1, D', hlen, hbr, e2⟩ := hC.is
  rw [e1, e2]
  exact k W' pos' ta' vs n acc a' b' c' H' sub' hp' hne hl1 hl2 hI1 hI2 hI3 hI4 hI5 D' hlen hbr
theorem items_turnE {prog : Program} {w : World} {A : Around} {E : Value → Shared → Prop} {h₀ : Heap} {env : Env} {target : PySem.Expr} {body : List Stmt} {Q : Flow → Shared → Prop} {s : Shared} {L I : Addr} {nm : String} {keep : List (Addr × Obj)} {v : Value} {r : List Itm} {m : Str → Option Value} {news : List (Addr × Obj)}
    (hL : env.locals = L) (C : (Str → Option Value) → List (Addr × Obj) → Prop) (hC : ∀ m' n', C m' n' → SubL keep n' ∧ ItemsRest prog w A E h₀ env target body Q s [(I, nm)] keep r m' n')
    (h : ∀ h tk (o : Obj), o.cls = .type nm → Fr h₀ L h m → News h₀ L h ((I, o) :: news) → ∀ Q1 : Flow → Shared → Prop, (∀ s₃, UnrEndW h₀ L { s with heap := h, toks := tk } [(I, o)] C s₃ → Q1 .next s₃ ∧ Q1 .cont s₃) → wpAny (model prog w) A (assign target env v) (fun _ s₂ => wpAny (model prog w) A (execs body env) Q1 E s₂) E { s with heap := h, toks := tk }) : ItemsRest prog w A E h₀ env target body Q s [(I, nm)] keep (.val v :: r) m news := by
  subst hL
  refine ItemsRest.val fun h' tk F => ?_
  intro o ho N
  refine wpAny_mono (h h' tk o ho F N (fun f s₃ => (f = .next ∨ f = .cont) ∧ UnrEndW h₀ env.locals { s with heap := h', toks := tk } [(I, o)] C s₃) fun _ x => ⟨⟨.inl rfl, x⟩, ⟨.inr rfl, x⟩⟩) (fun _ s₂ x => wpAny_mono x (fun f s₃ y => ?_) (fun _ _ z => z)) (fun _ _ z => z)
  obtain ⟨rfl | rfl, h2, tk2, m2, n2, e, F2, N2, off, hc⟩ := y
  · exact ⟨h2, tk2, m2, n2, e, F2, N2, off, hC _ _ hc⟩
  · exact ⟨h2, tk2, m2, n2, e, F2, N2, off, hC _ _ hc⟩
theorem items_turnE2 {prog : Program} {w : World} {A : Around} {E : Value → Shared → Prop} {h₀ : Heap} {env : Env} {target : PySem.Expr} {body : List Stmt} {Q : Flow → Shared → Prop} {s : Shared} {L I : Addr} {nm : String} {keep : List (Addr × Obj)} {v : Value} {r : List Itm} {m : Str → Option Value} {news : List (Addr × Obj)} {C0 : (Str → Option Value) → List (Addr × Obj) → Prop}
    (hL : env.locals = L) (h2 : ∀ m' n', C0 m' n' → ItemsRest prog w A E h₀ env target body Q s [(I, nm)] keep r m' n')
    (h : ∀ h tk (o : Obj), o.cls = .type nm → Fr h₀ L h m → News h₀ L h ((I, o) :: news) → ∀ Q1 : Flow → Shared → Prop, (∀ s₃, UnrEndW h₀ L { s with heap := h, toks := tk } [(I, o)] (fun m' n' => SubL keep n' ∧ C0 m' n') s₃ → Q1 .next s₃ ∧ Q1 .cont s₃) → wpAny (model prog w) A (assign target env v) (fun _ s₂ => wpAny (model prog w) A (execs body env) Q1 E s₂) E { s with heap := h, toks := tk }) : ItemsRest prog w A E h₀ env target body Q s [(I, nm)] keep (.val v :: r) m news :=
  items_turnE hL _ (fun m' n' c => ⟨c.1, h2 m' n' c.2⟩) h
section
variable {prog : Program} {w : World} {p : Program} {loose : List Str} {mean : ExcName → Option Value} {mg mb : Str → Option Value}
  {dp un : Nat} {gd : Option (List Code)} {cn : Str} {cs : Scope} {a : Addr} {ccd : Value} {cl : List (Str × Addr)} {outer : List Env} {A₀ : Around} {base h₀ : Heap} {L : Addr} {m : Str → Option Value} {s : Shared} {Q E : Value → Shared → Prop}
  {r : RR} {pos : Int} {ta : Tok} {news : List (Addr × Obj)} {news' : Tok → List (Addr × Obj)} {k : Int} {u : Tok}
variable (B : Below A₀ base outer h₀) (F : Fr h₀ L s.heap m) (X : (Mine.kMake.heap_1 w.params).In h₀) (T : Top p loose mean mg mb h₀) (hk : cs.kind = .function) (N : News h₀ L s.heap news) (R : RIn w.params news r pos ta)
include B F X T hk N R
theorem take_any (hd : dp + 2 < recursionLimit) (U : ∀ ta', Upd r.dx (r.D w.params pos ta) (r.D w.params (pos + 1) ta') news (news' ta')) (hs : (tokAt r.toks pos 0).isSome = true)
    (hret1 : ∀ (t : TR) h' tk' ta', Fr h₀ L h' m → News h₀ L h' (news' ta') → RIn w.params (news' ta') r (pos + 1) ta' → Q (.ref t.a) { s with heap := h', toks := tk' }) :
    wpAny (model prog w) (ktrTop dp un gd cn cs L a ccd cl outer) (call (.ref 372) [.ref r.x]) Q E s := by
  obtain ⟨t, ht⟩ := Option.isSome_iff_exists.mp hs
  exact take_ok B F X T hk N R hd U ht (fun h' tk' ta' F' N' R' _ _ _ => hret1 t h' tk' ta' F' N' R')
end
-- C24
section
variable {prog : Program} {w : World} {p : Program} {loose : List Str} {mean : ExcName → Option Value} {mg mb : Str → Option Value}
  {dp un : Nat} {gd : Option (List Code)} {cn : Str} {cs : Scope} {a : Addr} {ccd : Value} {cl : List (Str × Addr)} {outer : List Env} {A₀ : Around} {base h₀ : Heap} {L : Addr} {m : Str → Option Value} {s : Shared} {Q E : Value → Shared → Prop}
  {r : RR} {W : Int → Tok → Obj → List (Addr × Obj)} {pos : Int} {ta : Tok} {o : Obj} {ps : Array Value} {k : Int} {u : Tok}
variable (B : Below A₀ base outer h₀) (F : Fr h₀ L s.heap m) (X : (Mine.kMake.heap_1 w.params).In h₀) (T : Top p loose mean mg mb h₀) (hk : cs.kind = .function) (H : Hole w.params r W) (hp : 0 ≤ pos)
include B F X T hk H hp
end
local macro_rules | `(tactic| k_ne) => `(tactic| (first | exact Nat.ne_of_lt (And.left (by assumption)) | exact Nat.ne_of_gt (And.left (by assumption)) | exact Nat.ne_of_lt (And.left (And.right (by assumption))) | exact Nat.ne_of_gt (And.left (And.right (by assumption))) | exact Nat.ne_of_lt (And.left (And.right (And.right (by assumption)))) | exact Nat.ne_of_gt (And.left (And.right (And.right (by assumption)))) | exact Nat.ne_of_lt (And.left (And.right (And.right (And.right (by assumption))))) | exact Nat.ne_of_gt (And.left (And.right (And.right (And.right (by assumption))))) | exact Nat.ne_of_lt (And.left (And.right (And.right (And.right (And.right (by assumption)))))) | exact Nat.ne_of_gt (And.left (And.right (And.right (And.right (And.right (by assumption)))))) | exact Nat.ne_of_lt (And.left (And.right (And.right (And.right (And.right (And.right (by assumption))))))) | exact Nat.ne_of_gt (And.left (And.right (And.right (And.right (And.right (And.right (by assumption))))))) | exact Nat.ne_of_lt (And.left (And.right (And.right (And.right (And.right (And.right (And.right (by assumption)))))))) | exact Nat.ne_of_gt (And.left (And.right (And.right (And.right (And.right (And.right (And.right (by assumption)))))))) | exact Nat.ne_of_lt (And.left (And.right (And.right (And.right (And.right (And.right (And.right (And.right (by assumption))))))))) | exact Nat.ne_of_gt (And.left (And.right (And.right (And.right (And.right (And.right (And.right (And.right (by assumption))))))))) | exact Nat.ne_of_lt (by assumption) | exact Nat.ne_of_gt (by assumption) | assumption))
section
variable {prog : Program} {w : World} {p : Program} {loose : List Str} {mean : ExcName → Option Value} {mg mb : Str → Option Value}
  {dp un : Nat} {gd : Option (List Code)} {cn : Str} {cs : Scope} {a : Addr} {ccd : Value} {cl : List (Str × Addr)} {outer : List Env} {A₀ : Around} {base h₀ : Heap} {L : Addr} {m : Str → Option Value} {s : Shared} {Q E : Value → Shared → Prop}
  {r : RR} {W : Int → Tok → Obj → List (Addr × Obj)} {pos : Int} {ta : Tok} {o : Obj} {ps : Array Value} {k : Int} {u : Tok}
variable (B : Below A₀ base outer h₀) (F : Fr h₀ L s.heap m) (X : (Mine.kMake.heap_1 w.params).In h₀) (T : Top p loose mean mg mb h₀) (hk : cs.kind = .function) (H : Hole w.params r W) (hp : 0 ≤ pos)
include B F X T hk H hp
end
local macro_rules | `(tactic| k_all) => `(tactic| (first | exact List.forall_mem_nil _ | exact allNe (by assumption) _ _ _ | exact lt_ne2 (by first | assumption | exact allLt_all (by assumption) | exact allLt_all (And.right (by assumption)) | exact allLt_all (And.right (And.right (by assumption))) | exact allLt_all (And.right (And.right (And.right (by assumption)))) | exact allLt_all (And.right (And.right (And.right (And.right (by assumption))))) | exact allLt_all (And.right (And.right (And.right (And.right (And.right (by assumption)))))) | exact allLt_all (And.right (And.right (And.right (And.right (And.right (And.right (by assumption))))))) | exact allLt_all (And.right (And.right (And.right (And.right (And.right (And.right (And.right (by assumption)))))))) | exact allLt_all (And.right (And.right (And.right (And.right (And.right (And.right (And.right (And.right (by assumption))))))))) | exact ltSucc (by assumption) | exact ltLt (by assumption) (by assumption) | exact ltTail (by assumption) | exact ltTail (ltTail (by assumption)) | exact ltTail (ltTail (ltTail (by assumption))) | exact ltTail (ltTail (ltTail (ltTail (by assumption)))) | exact ltTail (ltTail (ltTail (ltTail (ltTail (by assumption))))) | exact ltLt (ltLt (by assumption) (by assumption)) (by assumption) | exact ltLt (ltTail (ltTail (by assumption))) (by assumption) | exact ltLt (ltLt (ltTail (ltTail (by assumption))) (by assumption)) (by assumption)) | exact lt_ne2 (Hole.lt (by assumption) (by first | assumption | exact allLt_all (by assumption) | exact allLt_all (And.right (by assumption)) | exact allLt_all (And.right (And.right (by assumption))) | exact allLt_all (And.right (And.right (And.right (by assumption)))) | exact allLt_all (And.right (And.right (And.right (And.right (by assumption))))) | exact allLt_all (And.right (And.right (And.right (And.right (And.right (by assumption)))))) | exact allLt_all (And.right (And.right (And.right (And.right (And.right (And.right (by assumption))))))) | exact allLt_all (And.right (And.right (And.right (And.right (And.right (And.right (And.right (by assumption)))))))) | exact allLt_all (And.right (And.right (And.right (And.right (And.right (And.right (And.right (And.right (by assumption))))))))) | exact ltSucc (by assumption) | exact ltLt (by assumption) (by assumption) | exact ltTail (by assumption) | exact ltTail (ltTail (by assumption)) | exact ltTail (ltTail (ltTail (by assumption))) | exact ltTail (ltTail (ltTail (ltTail (by assumption)))) | exact ltTail (ltTail (ltTail (ltTail (ltTail (by assumption))))) | exact ltLt (ltLt (by assumption) (by assumption)) (by assumption) | exact ltLt (ltTail (ltTail (by assumption))) (by assumption) | exact ltLt (ltLt (ltTail (ltTail (by assumption))) (by assumption)) (by assumption))) | (refine List.forall_mem_cons.mpr ⟨?_, ?_⟩; k_ne; k_all) | fail "no"))
section
variable {prog : Program} {w : World} {p : Program} {loose : List Str} {mean : ExcName → Option Value} {mg mb : Str → Option Value}
  {dp un : Nat} {gd : Option (List Code)} {cn : Str} {cs : Scope} {a : Addr} {ccd : Value} {cl : List (Str × Addr)} {outer : List Env} {A₀ : Around} {base h₀ : Heap} {L : Addr} {m : Str → Option Value} {s : Shared} {Q E : Value → Shared → Prop}
  {r : RR} {W : Int → Tok → Obj → List (Addr × Obj)} {pos : Int} {ta : Tok} {o : Obj} {ps : Array Value} {k : Int} {u : Tok}
variable (B : Below A₀ base outer h₀) (F : Fr h₀ L s.heap m) (X : (Mine.kMake.heap_1 w.params).In h₀) (T : Top p loose mean mg mb h₀) (hk : cs.kind = .function) (H : Hole w.params r W) (hp : 0 ≤ pos)
include B F X T hk H hp
theorem branches_ok {qk : Addr} {tk1 tk2 : Tok} (N : News h₀ L s.heap (W pos ta o)) (hu : un + 100 < cLine) (hd : dp + 12 < recursionLimit) (hkeys : ∀ pos ta o, (qk, ({ cls := .type "tuple", data := .seq #[.str "invalid" tk1, .str "not invalid" tk2] } : Obj)) ∈ W pos ta o) (hc : Closed r.toks) (hcc : NoCC r.toks)
    (hret : ∀ d n, brOf r.toks pos = .ok d n → ∀ v W' h' tk' ta', Hole w.params r W' → (∀ pos ta o, ∀ p ∈ W pos ta o, p ∈ W' pos ta o) → (∀ pos ta o, DatIn (W' pos ta o) v (Dat.tuple d)) → Fr h₀ L h' m → News h₀ L h' (W' n ta' o) → Q v { s with heap := h', toks := tk' })
    (hraise : ∀ n, brOf r.toks pos = .bad n → ∀ t g' e d x v k1 k2 ta' h' tk', tokAt r.toks n 0 = some t → Fr h₀ L g' m → RaisedD base g' (envX cn cs L a ccd cl :: outer) e d ((d, excDict w.params x v t.p k1 k2) :: W n ta' o) h' → g'.UpToSlots h' → E (.ref e) { s with heap := h', toks := tk' }) :
    wpAny (model prog w) (ktrTop dp un gd cn cs L a ccd cl outer) (call (.ref 272) [.ref r.x, .ref 561, .ref qk]) Q E s := by
  w_top off
  have R := H.rin pos ta o hp
  have ⟨ix, id, il, it, le, lo⟩ := R
  refine wpAny_call ?_
  k_dflt (refine' code_def ?zk1 ?zk2 ?zk3 ?zk4 ?zk5 ?zkA ?zkF ?zkK ?zk6 ?zk7 ?zk8 ?zk9 ?zkB ?_ ?zc2 ?zc3 ?zc4 ?zc5; (case zkA => exact rfl); (case zkF => exact rfl); (case zkK => assumption); (case zk1 => k_asm); (case zk2 => k_asm); (case zk3 => k_asm); (case zk4 => k_asm); (case zk5 => k_asm); (case zk6 => k_is); (case zk7 => k_is); (case zk8 => ktr_room); (case zk9 => first | exact BindsTo.of_eq rfl | exact binds_K (by k_in) rfl (by k_is) rfl rfl rfl); (case zc5 => decide); (case zkB => exact locs rfl); (case zc2 => exact rfl); (case zc3 => exact rfl); (case zc4 => exact rfl); k_whole; intro _ _ _ _ _ _ _ _ _; (try dsimp only); (try k_fold))
  repeat' (first | ((fail_if_success (with_reducible show PySem.W.ItemsRest _ _ _ _ _ _ _ _ _ _ _ _ _ _ _)); (((with_reducible show wpAny _ _ (call (Value.ref 265) [Value.ref _, _]) _ _ _); k_dflt (refine' body_any ?zb ?zf ?zx ?zt ?zhk (Hole.cons (Hole.cons ?zhH ?zna0 ?znb0) ?zna1 ?znb1) ?zhp ?zn ?zwu ?zwhd ?zwcc ?zws ?_ ?_; (case zb => k_asm); (case zf => k_asm); (case zx => k_asm); (case zt => k_asm); (case zhk => first | exact rfl | assumption); (case zhH => assumption); (case zn => k_asm); (case zna0 => first | assumption | exact Hole.ne (by assumption) (by first | assumption | exact allLt_all (by assumption) | exact allLt_all (And.right (by assumption)) | exact allLt_all (And.right (And.right (by assumption))) | exact allLt_all (And.right (And.right (And.right (by assumption)))) | exact allLt_all (And.right (And.right (And.right (And.right (by assumption))))) | exact allLt_all (And.right (And.right (And.right (And.right (And.right (by assumption)))))) | exact allLt_all (And.right (And.right (And.right (And.right (And.right (And.right (by assumption))))))) | exact allLt_all (And.right (And.right (And.right (And.right (And.right (And.right (And.right (by assumption)))))))) | exact allLt_all (And.right (And.right (And.right (And.right (And.right (And.right (And.right (And.right (by assumption))))))))) | exact ltSucc (by assumption) | exact ltLt (by assumption) (by assumption) | exact ltTail (by assumption) | exact ltTail (ltTail (by assumption)) | exact ltTail (ltTail (ltTail (by assumption))) | exact ltTail (ltTail (ltTail (ltTail (by assumption)))) | exact ltTail (ltTail (ltTail (ltTail (ltTail (by assumption))))) | exact ltLt (ltLt (by assumption) (by assumption)) (by assumption) | exact ltLt (ltTail (ltTail (by assumption))) (by assumption) | exact ltLt (ltLt (ltTail (ltTail (by assumption))) (by assumption)) (by assumption))); (case znb0 => first | assumption | exact Hole.neT (by assumption) (by first | assumption | exact allLt_all (by assumption) | exact allLt_all (And.right (by assumption)) | exact allLt_all (And.right (And.right (by assumption))) | exact allLt_all (And.right (And.right (And.right (by assumption)))) | exact allLt_all (And.right (And.right (And.right (And.right (by assumption))))) | exact allLt_all (And.right (And.right (And.right (And.right (And.right (by assumption)))))) | exact allLt_all (And.right (And.right (And.right (And.right (And.right (And.right (by assumption))))))) | exact allLt_all (And.right (And.right (And.right (And.right (And.right (And.right (And.right (by assumption)))))))) | exact allLt_all (And.right (And.right (And.right (And.right (And.right (And.right (And.right (And.right (by assumption))))))))) | exact ltSucc (by assumption) | exact ltLt (by assumption) (by assumption) | exact ltTail (by assumption) | exact ltTail (ltTail (by assumption)) | exact ltTail (ltTail (ltTail (by assumption))) | exact ltTail (ltTail (ltTail (ltTail (by assumption)))) | exact ltTail (ltTail (ltTail (ltTail (ltTail (by assumption))))) | exact ltLt (ltLt (by assumption) (by assumption)) (by assumption) | exact ltLt (ltTail (ltTail (by assumption))) (by assumption) | exact ltLt (ltLt (ltTail (ltTail (by assumption))) (by assumption)) (by assumption))); (case zna1 => first | assumption | exact Hole.ne (by assumption) (by first | assumption | exact allLt_all (by assumption) | exact allLt_all (And.right (by assumption)) | exact allLt_all (And.right (And.right (by assumption))) | exact allLt_all (And.right (And.right (And.right (by assumption)))) | exact allLt_all (And.right (And.right (And.right (And.right (by assumption))))) | exact allLt_all (And.right (And.right (And.right (And.right (And.right (by assumption)))))) | exact allLt_all (And.right (And.right (And.right (And.right (And.right (And.right (by assumption))))))) | exact allLt_all (And.right (And.right (And.right (And.right (And.right (And.right (And.right (by assumption)))))))) | exact allLt_all (And.right (And.right (And.right (And.right (And.right (And.right (And.right (And.right (by assumption))))))))) | exact ltSucc (by assumption) | exact ltLt (by assumption) (by assumption) | exact ltTail (by assumption) | exact ltTail (ltTail (by assumption)) | exact ltTail (ltTail (ltTail (by assumption))) | exact ltTail (ltTail (ltTail (ltTail (by assumption)))) | exact ltTail (ltTail (ltTail (ltTail (ltTail (by assumption))))) | exact ltLt (ltLt (by assumption) (by assumption)) (by assumption) | exact ltLt (ltTail (ltTail (by assumption))) (by assumption) | exact ltLt (ltLt (ltTail (ltTail (by assumption))) (by assumption)) (by assumption))); (case znb1 => first | assumption | exact Hole.neT (by assumption) (by first | assumption | exact allLt_all (by assumption) | exact allLt_all (And.right (by assumption)) | exact allLt_all (And.right (And.right (by assumption))) | exact allLt_all (And.right (And.right (And.right (by assumption)))) | exact allLt_all (And.right (And.right (And.right (And.right (by assumption))))) | exact allLt_all (And.right (And.right (And.right (And.right (And.right (by assumption)))))) | exact allLt_all (And.right (And.right (And.right (And.right (And.right (And.right (by assumption))))))) | exact allLt_all (And.right (And.right (And.right (And.right (And.right (And.right (And.right (by assumption)))))))) | exact allLt_all (And.right (And.right (And.right (And.right (And.right (And.right (And.right (And.right (by assumption))))))))) | exact ltSucc (by assumption) | exact ltLt (by assumption) (by assumption) | exact ltTail (by assumption) | exact ltTail (ltTail (by assumption)) | exact ltTail (ltTail (ltTail (by assumption))) | exact ltTail (ltTail (ltTail (ltTail (by assumption)))) | exact ltTail (ltTail (ltTail (ltTail (ltTail (by assumption))))) | exact ltLt (ltLt (by assumption) (by assumption)) (by assumption) | exact ltLt (ltTail (ltTail (by assumption))) (by assumption) | exact ltLt (ltLt (ltTail (ltTail (by assumption))) (by assumption)) (by assumption))); (case zhp => first | assumption | omega); (case zwu => (dsimp only [ktrTop, Around.deeper]; omega)); (case zwhd => ktr_room); (case zwcc => exact (by assumption : NoCC _) _); (case zws => first | assumption | exact nextTok (by assumption) (by assumption) (by decide +kernel)); k_whole); (all_goals (first | (intro hb9ζ q9ζ q29ζ t9ζ ta9ζ h9ζ k9ζ F9ζ N9ζ l9ζ l29ζ l39ζ; k_lt l9ζ; k_lt l39ζ) | skip)); (all_goals intros); (all_goals (try k_sweep))))) | ((fail_if_success (with_reducible show PySem.W.ItemsRest _ _ _ _ _ _ _ _ _ _ _ _ _ _ _)); (((with_reducible show wpAny _ _ (pyIter (Value.ref _)) (fun it s₂ => TurnsAt _ _ _ _ _ _ _ _ _ it s₂) _ _); (with_unfolding_all refine' iter_tupTurns ?zhh ?zf ?zn ?zm ?zc ?zd ?_; (case zhh => exact rfl); (case zf => k_asm); (case zn => k_asm); (case zm => first | exact inAll (by assumption) _ _ _ | exact List.Mem.tail _ (inAll (by assumption) _ _ _) | exact List.Mem.tail _ (List.Mem.tail _ (inAll (by assumption) _ _ _)) | exact List.Mem.tail _ (List.Mem.tail _ (List.Mem.tail _ (inAll (by assumption) _ _ _))) | exact List.Mem.tail _ (List.Mem.tail _ (List.Mem.tail _ (List.Mem.tail _ (inAll (by assumption) _ _ _)))) | exact List.Mem.tail _ (List.Mem.tail _ (List.Mem.tail _ (List.Mem.tail _ (List.Mem.tail _ (inAll (by assumption) _ _ _))))) | exact List.Mem.tail _ (List.Mem.tail _ (List.Mem.tail _ (List.Mem.tail _ (List.Mem.tail _ (List.Mem.tail _ (inAll (by assumption) _ _ _)))))) | exact List.Mem.tail _ (List.Mem.tail _ (List.Mem.tail _ (List.Mem.tail _ (List.Mem.tail _ (List.Mem.tail _ (List.Mem.tail _ (inAll (by assumption) _ _ _))))))) | exact List.Mem.tail _ (List.Mem.tail _ (List.Mem.tail _ (List.Mem.tail _ (List.Mem.tail _ (List.Mem.tail _ (List.Mem.tail _ (List.Mem.tail _ (inAll (by assumption) _ _ _)))))))) | exact List.Mem.tail _ (List.Mem.tail _ (List.Mem.tail _ (List.Mem.tail _ (List.Mem.tail _ (List.Mem.tail _ (List.Mem.tail _ (List.Mem.tail _ (List.Mem.tail _ (inAll (by assumption) _ _ _))))))))) | exact List.Mem.tail _ (List.Mem.tail _ (List.Mem.tail _ (List.Mem.tail _ (List.Mem.tail _ (List.Mem.tail _ (List.Mem.tail _ (List.Mem.tail _ (List.Mem.tail _ (List.Mem.tail _ (inAll (by assumption) _ _ _)))))))))) | exact List.Mem.tail _ (List.Mem.tail _ (List.Mem.tail _ (List.Mem.tail _ (List.Mem.tail _ (List.Mem.tail _ (List.Mem.tail _ (List.Mem.tail _ (List.Mem.tail _ (List.Mem.tail _ (List.Mem.tail _ (inAll (by assumption) _ _ _))))))))))) | exact List.Mem.tail _ (List.Mem.tail _ (List.Mem.tail _ (List.Mem.tail _ (List.Mem.tail _ (List.Mem.tail _ (List.Mem.tail _ (List.Mem.tail _ (List.Mem.tail _ (List.Mem.tail _ (List.Mem.tail _ (List.Mem.tail _ (inAll (by assumption) _ _ _)))))))))))) | exact List.Mem.tail _ (List.Mem.tail _ (List.Mem.tail _ (List.Mem.tail _ (List.Mem.tail _ (List.Mem.tail _ (List.Mem.tail _ (List.Mem.tail _ (List.Mem.tail _ (List.Mem.tail _ (List.Mem.tail _ (List.Mem.tail _ (List.Mem.tail _ (inAll (by assumption) _ _ _))))))))))))) | exact List.Mem.tail _ (List.Mem.tail _ (List.Mem.tail _ (List.Mem.tail _ (List.Mem.tail _ (List.Mem.tail _ (List.Mem.tail _ (List.Mem.tail _ (List.Mem.tail _ (List.Mem.tail _ (List.Mem.tail _ (List.Mem.tail _ (List.Mem.tail _ (List.Mem.tail _ (inAll (by assumption) _ _ _)))))))))))))) | exact List.Mem.tail _ (List.Mem.tail _ (List.Mem.tail _ (List.Mem.tail _ (List.Mem.tail _ (List.Mem.tail _ (List.Mem.tail _ (List.Mem.tail _ (List.Mem.tail _ (List.Mem.tail _ (List.Mem.tail _ (List.Mem.tail _ (List.Mem.tail _ (List.Mem.tail _ (List.Mem.tail _ (inAll (by assumption) _ _ _)))))))))))))))); (case zc => exact rfl); (case zd => exact rfl)); intro i9ζ l9ζ; (try k_lt l9ζ)))) | ((fail_if_success (with_reducible show PySem.W.ItemsRest _ _ _ _ _ _ _ _ _ _ _ _ _ _ _)); (((with_reducible show wpAny _ _ (call (Value.ref 372) _ _) _ _ _); (k_dflt show wpAny _ _ (call (Value.ref 372) [Value.ref _]) _ _ _); k_dflt (refine' take_any ?zb ?zf ?zx ?zt ?zhk ?zn ?zr ?zd ?zu ?zq1 ?_; (case zb => k_asm); (case zf => k_asm); (case zx => k_asm); (case zt => k_asm); (case zhk => first | exact rfl | assumption); (case zn => k_asm); (case zr => k_intsEnd); (case zd => ktr_room); (case zu => intro ta9ζ; k_upd); (case zq1 => first | assumption | exact isSomeW (by assumption)); k_whole); (all_goals intros); (all_goals (try k_sweep))))) | ((fail_if_success (with_reducible show PySem.W.ItemsRest _ _ _ _ _ _ _ _ _ _ _ _ _ _ _)); (((with_reducible show wpAny _ _ (exec (Stmt.For (Expr.Name _ _) (Expr.Name _ _) _ [] _) _) _ _ _); (rename Fr _ _ _ _ => lF'ζ); (with_unfolding_all refine' For_turns lF'ζ ?_; k_whole)))) | ((fail_if_success (with_reducible show PySem.W.ItemsRest _ _ _ _ _ _ _ _ _ _ _ _ _ _ _)); (((with_reducible show wpAny _ _ (pyIter (Value.ref _)) (fun it s₂ => TurnsAt _ _ _ _ _ _ _ _ _ it s₂) _ _); (with_unfolding_all refine' iter_tupTurns ?zhh ?zf ?zn ?zm ?zc ?zd ?_; (case zhh => exact rfl); (case zf => k_asm); (case zn => k_asm); (case zm => first | exact List.Mem.head _ | exact List.Mem.tail _ (List.Mem.head _) | exact List.Mem.tail _ (List.Mem.tail _ (List.Mem.head _)) | exact List.Mem.tail _ (List.Mem.tail _ (List.Mem.tail _ (List.Mem.head _))) | exact List.Mem.tail _ (List.Mem.tail _ (List.Mem.tail _ (List.Mem.tail _ (List.Mem.head _)))) | exact List.Mem.tail _ (List.Mem.tail _ (List.Mem.tail _ (List.Mem.tail _ (List.Mem.tail _ (List.Mem.head _))))) | exact List.Mem.tail _ (List.Mem.tail _ (List.Mem.tail _ (List.Mem.tail _ (List.Mem.tail _ (List.Mem.tail _ (List.Mem.head _)))))) | exact List.Mem.tail _ (List.Mem.tail _ (List.Mem.tail _ (List.Mem.tail _ (List.Mem.tail _ (List.Mem.tail _ (List.Mem.tail _ (List.Mem.head _))))))) | exact List.Mem.tail _ (List.Mem.tail _ (List.Mem.tail _ (List.Mem.tail _ (List.Mem.tail _ (List.Mem.tail _ (List.Mem.tail _ (List.Mem.tail _ (List.Mem.head _)))))))) | exact List.Mem.tail _ (List.Mem.tail _ (List.Mem.tail _ (List.Mem.tail _ (List.Mem.tail _ (List.Mem.tail _ (List.Mem.tail _ (List.Mem.tail _ (List.Mem.tail _ (List.Mem.head _)))))))))); (case zc => exact rfl); (case zd => exact rfl)); intro i9ζ l9ζ; (try k_lt l9ζ)))) | ((fail_if_success (with_reducible show PySem.W.ItemsRest _ _ _ _ _ _ _ _ _ _ _ _ _ _ _)); (((with_reducible show wpAny _ _ (call (Value.ref 258) [Value.ref _, _]) _ _ _); k_dflt (refine' open_inv ?zb ?zf ?zx ?zt ?zhk ?zn ?zr ?zd ?_ ?_ ?_; (case zb => k_asm); (case zf => k_asm); (case zx => k_asm); (case zt => k_asm); (case zhk => first | exact rfl | assumption); (case zn => k_asm); (case zr => k_intsEnd); (case zd => ktr_room); k_whole); (all_goals intros); (all_goals (try k_sweep))))) | ((fail_if_success (with_reducible show PySem.W.ItemsRest _ _ _ _ _ _ _ _ _ _ _ _ _ _ _)); (((with_reducible show wpAny _ _ (call (Value.ref 258) [Value.ref _, _]) _ _ _); k_dflt (refine' open_not ?zb ?zf ?zx ?zt ?zhk ?zn ?zr ?zd ?_ ?_ ?_ ?_; (case zb => k_asm); (case zf => k_asm); (case zx => k_asm); (case zt => k_asm); (case zhk => first | exact rfl | assumption); (case zn => k_asm); (case zr => k_intsEnd); (case zd => ktr_room); k_whole); (all_goals intros); (all_goals (try k_sweep))))) | ((fail_if_success (with_reducible show PySem.W.ItemsRest _ _ _ _ _ _ _ _ _ _ _ _ _ _ _)); (((with_reducible show wpAny _ _ (exec (Stmt.For _ _ _ [] _) _) _ _ _); k_strName; (rename Fr _ _ _ _ => lF'ζ); (with_unfolding_all refine' For_invVF lF'ζ ?zk1 ?zk2 ?_; (case zk1 => exact rfl); (case zk2 => exact rfl); k_whole)))) | ((fail_if_success (with_reducible show PySem.W.ItemsRest _ _ _ _ _ _ _ _ _ _ _ _ _ _ _)); ((with_reducible show UnrEnd _ _ _ _ _ _ _); ((refine' UnrEnd.intro ?zf ?zn _ (fun _ hp => hp) ?zo ?_; (case zf => k_asm); (case zn => k_asm); (case zo => k_all))))) | ((fail_if_success (with_reducible show PySem.W.ItemsRest _ _ _ _ _ _ _ _ _ _ _ _ _ _ _)); ((with_reducible show wpAny _ _ (leaving _ (Value.ref _)) _ _ _); ((first
  | (refine' leave_raiseD3 ?zk1 ?zk2 ?zk3 ?zk4 ?zk5 ?zk6 ?_; (case zk1 => assumption); (case zk2 => k_asm); (case zk3 => k_asm); (case zk4 => assumption); (case zk5 => assumption); (case zk6 => assumption); intro h'ζ R'ζ U'ζ; (try dsimp only at R'ζ U'ζ ⊢))
  | (refine' leave_onD ?zk1 ?zk2 ?zk3 ?zk4 ?_; (case zk3 => assumption); (case zk1 => assumption); (case zk4 => assumption); (case zk2 => assumption); intro h'ζ R'ζ U'ζ; (try dsimp only at R'ζ U'ζ ⊢)))))) | ((fail_if_success (with_reducible show PySem.W.ItemsRest _ _ _ _ _ _ _ _ _ _ _ _ _ _ _)); ((with_reducible show UnrEnd _ _ _ _ _ _ _); (first
  | (refine' UnrEnd.intro ?zf ?zn _ (fun _ hp => hp) ?zo ⟨?zm, ?_⟩; (case zf => k_asm); (case zn => k_asm); (case zo => first | exact off_allLt (by assumption) | (intro p9ζ hp9ζ; exact Nat.ne_of_lt ((by assumption : ∀ p ∈ _, p.1 < _) p9ζ hp9ζ))); (case zm => first | exact List.Mem.head _ | exact List.Mem.tail _ (List.Mem.head _)))
  | (refine' UnrEnd.intro ?zf ?zn _ (fun _ hp => hp) ?zo ?_; (case zf => k_asm); (case zn => k_asm); (case zo => first | exact off_allLt (by assumption) | (intro p9ζ hp9ζ; exact Nat.ne_of_lt ((by assumption : ∀ p ∈ _, p.1 < _) p9ζ hp9ζ))))))) | ((fail_if_success (with_reducible show PySem.W.ItemsRest _ _ _ _ _ _ _ _ _ _ _ _ _ _ _)); ((with_reducible show UnrEnd _ _ _ _ _ _ _); ((refine' UnrEnd.intro ?zf ?zn _ (fun _ hp => hp) ?zo ⟨?zm, ?_⟩; (case zf => k_asm); (case zn => k_asm); (case zo => intro p9ζ hp9ζ; exact Nat.ne_of_lt ((by assumption : ∀ p ∈ _, p.1 < _) p9ζ hp9ζ)); (case zm => first | exact List.Mem.head _ | exact List.Mem.tail _ (List.Mem.head _)))))) | (k_unfold; (try dsimp only)) | ((fail_if_success (with_reducible show PySem.W.ItemsRest _ _ _ _ _ _ _ _ _ _ _ _ _ _ _)); walk1) | (dsimp only; (fail_if_success (with_reducible show PySem.W.ItemsRest _ _ _ _ _ _ _ _ _ _ _ _ _ _ _)); walk1))
  refine items_cut (fun I l m m' news' => BrMid w.params r W pos o I l m m' news') _ _ rfl ?h2 ?h1
  case h1 =>
    intro h2
    refine items_turnE2 rfl h2 fun h tk oI hoI FI NI Q1 hQ1 => ?_
    repeat' (first | (((with_reducible show wpAny _ _ (call (Value.ref 265) [Value.ref _, _]) _ _ _); k_dflt (refine' body_any ?zb ?zf ?zx ?zt ?zhk (Hole.cons (Hole.cons ?zhH ?zna0 ?znb0) ?zna1 ?znb1) ?zhp ?zn ?zwu ?zwhd ?zwcc ?zws ?_ ?_; (case zb => k_asm); (case zf => k_asm); (case zx => k_asm); (case zt => k_asm); (case zhk => first | exact rfl | assumption); (case zhH => assumption); (case zn => k_asm); (case zna0 => first | assumption | exact Hole.ne (by assumption) (by first | assumption | exact allLt_all (by assumption) | exact allLt_all (And.right (by assumption)) | exact allLt_all (And.right (And.right (by assumption))) | exact allLt_all (And.right (And.right (And.right (by assumption)))) | exact allLt_all (And.right (And.right (And.right (And.right (by assumption))))) | exact allLt_all (And.right (And.right (And.right (And.right (And.right (by assumption)))))) | exact allLt_all (And.right (And.right (And.right (And.right (And.right (And.right (by assumption))))))) | exact allLt_all (And.right (And.right (And.right (And.right (And.right (And.right (And.right (by assumption)))))))) | exact allLt_all (And.right (And.right (And.right (And.right (And.right (And.right (And.right (And.right (by assumption))))))))) | exact ltSucc (by assumption) | exact ltLt (by assumption) (by assumption) | exact ltTail (by assumption) | exact ltTail (ltTail (by assumption)) | exact ltTail (ltTail (ltTail (by assumption))) | exact ltTail (ltTail (ltTail (ltTail (by assumption)))) | exact ltTail (ltTail (ltTail (ltTail (ltTail (by assumption))))) | exact ltLt (ltLt (by assumption) (by assumption)) (by assumption) | exact ltLt (ltTail (ltTail (by assumption))) (by assumption) | exact ltLt (ltLt (ltTail (ltTail (by assumption))) (by assumption)) (by assumption))); (case znb0 => first | assumption | exact Hole.neT (by assumption) (by first | assumption | exact allLt_all (by assumption) | exact allLt_all (And.right (by assumption)) | exact allLt_all (And.right (And.right (by assumption))) | exact allLt_all (And.right (And.right (And.right (by assumption)))) | exact allLt_all (And.right (And.right (And.right (And.right (by assumption))))) | exact allLt_all (And.right (And.right (And.right (And.right (And.right (by assumption)))))) | exact allLt_all (And.right (And.right (And.right (And.right (And.right (And.right (by assumption))))))) | exact allLt_all (And.right (And.right (And.right (And.right (And.right (And.right (And.right (by assumption)))))))) | exact allLt_all (And.right (And.right (And.right (And.right (And.right (And.right (And.right (And.right (by assumption))))))))) | exact ltSucc (by assumption) | exact ltLt (by assumption) (by assumption) | exact ltTail (by assumption) | exact ltTail (ltTail (by assumption)) | exact ltTail (ltTail (ltTail (by assumption))) | exact ltTail (ltTail (ltTail (ltTail (by assumption)))) | exact ltTail (ltTail (ltTail (ltTail (ltTail (by assumption))))) | exact ltLt (ltLt (by assumption) (by assumption)) (by assumption) | exact ltLt (ltTail (ltTail (by assumption))) (by assumption) | exact ltLt (ltLt (ltTail (ltTail (by assumption))) (by assumption)) (by assumption))); (case zna1 => first | assumption | exact Hole.ne (by assumption) (by first | assumption | exact allLt_all (by assumption) | exact allLt_all (And.right (by assumption)) | exact allLt_all (And.right (And.right (by assumption))) | exact allLt_all (And.right (And.right (And.right (by assumption)))) | exact allLt_all (And.right (And.right (And.right (And.right (by assumption))))) | exact allLt_all (And.right (And.right (And.right (And.right (And.right (by assumption)))))) | exact allLt_all (And.right (And.right (And.right (And.right (And.right (And.right (by assumption))))))) | exact allLt_all (And.right (And.right (And.right (And.right (And.right (And.right (And.right (by assumption)))))))) | exact allLt_all (And.right (And.right (And.right (And.right (And.right (And.right (And.right (And.right (by assumption))))))))) | exact ltSucc (by assumption) | exact ltLt (by assumption) (by assumption) | exact ltTail (by assumption) | exact ltTail (ltTail (by assumption)) | exact ltTail (ltTail (ltTail (by assumption))) | exact ltTail (ltTail (ltTail (ltTail (by assumption)))) | exact ltTail (ltTail (ltTail (ltTail (ltTail (by assumption))))) | exact ltLt (ltLt (by assumption) (by assumption)) (by assumption) | exact ltLt (ltTail (ltTail (by assumption))) (by assumption) | exact ltLt (ltLt (ltTail (ltTail (by assumption))) (by assumption)) (by assumption))); (case znb1 => first | assumption | exact Hole.neT (by assumption) (by first | assumption | exact allLt_all (by assumption) | exact allLt_all (And.right (by assumption)) | exact allLt_all (And.right (And.right (by assumption))) | exact allLt_all (And.right (And.right (And.right (by assumption)))) | exact allLt_all (And.right (And.right (And.right (And.right (by assumption))))) | exact allLt_all (And.right (And.right (And.right (And.right (And.right (by assumption)))))) | exact allLt_all (And.right (And.right (And.right (And.right (And.right (And.right (by assumption))))))) | exact allLt_all (And.right (And.right (And.right (And.right (And.right (And.right (And.right (by assumption)))))))) | exact allLt_all (And.right (And.right (And.right (And.right (And.right (And.right (And.right (And.right (by assumption))))))))) | exact ltSucc (by assumption) | exact ltLt (by assumption) (by assumption) | exact ltTail (by assumption) | exact ltTail (ltTail (by assumption)) | exact ltTail (ltTail (ltTail (by assumption))) | exact ltTail (ltTail (ltTail (ltTail (by assumption)))) | exact ltTail (ltTail (ltTail (ltTail (ltTail (by assumption))))) | exact ltLt (ltLt (by assumption) (by assumption)) (by assumption) | exact ltLt (ltTail (ltTail (by assumption))) (by assumption) | exact ltLt (ltLt (ltTail (ltTail (by assumption))) (by assumption)) (by assumption))); (case zhp => first | assumption | omega); (case zwu => (dsimp only [ktrTop, Around.deeper]; omega)); (case zwhd => ktr_room); (case zwcc => exact (by assumption : NoCC _) _); (case zws => first | assumption | exact nextTok (by assumption) (by assumption) (by decide +kernel)); k_whole); (all_goals (first | (intro hb9ζ q9ζ q29ζ t9ζ ta9ζ h9ζ k9ζ F9ζ N9ζ l9ζ l29ζ l39ζ; k_lt l9ζ; k_lt l39ζ) | skip)); (all_goals intros); (all_goals (try k_sweep)))) | (((with_reducible show wpAny _ _ (pyIter (Value.ref _)) (fun it s₂ => TurnsAt _ _ _ _ _ _ _ _ _ it s₂) _ _); (with_unfolding_all refine' iter_tupTurns ?zhh ?zf ?zn ?zm ?zc ?zd ?_; (case zhh => exact rfl); (case zf => k_asm); (case zn => k_asm); (case zm => first | exact inAll (by assumption) _ _ _ | exact List.Mem.tail _ (inAll (by assumption) _ _ _) | exact List.Mem.tail _ (List.Mem.tail _ (inAll (by assumption) _ _ _)) | exact List.Mem.tail _ (List.Mem.tail _ (List.Mem.tail _ (inAll (by assumption) _ _ _))) | exact List.Mem.tail _ (List.Mem.tail _ (List.Mem.tail _ (List.Mem.tail _ (inAll (by assumption) _ _ _)))) | exact List.Mem.tail _ (List.Mem.tail _ (List.Mem.tail _ (List.Mem.tail _ (List.Mem.tail _ (inAll (by assumption) _ _ _))))) | exact List.Mem.tail _ (List.Mem.tail _ (List.Mem.tail _ (List.Mem.tail _ (List.Mem.tail _ (List.Mem.tail _ (inAll (by assumption) _ _ _)))))) | exact List.Mem.tail _ (List.Mem.tail _ (List.Mem.tail _ (List.Mem.tail _ (List.Mem.tail _ (List.Mem.tail _ (List.Mem.tail _ (inAll (by assumption) _ _ _))))))) | exact List.Mem.tail _ (List.Mem.tail _ (List.Mem.tail _ (List.Mem.tail _ (List.Mem.tail _ (List.Mem.tail _ (List.Mem.tail _ (List.Mem.tail _ (inAll (by assumption) _ _ _)))))))) | exact List.Mem.tail _ (List.Mem.tail _ (List.Mem.tail _ (List.Mem.tail _ (List.Mem.tail _ (List.Mem.tail _ (List.Mem.tail _ (List.Mem.tail _ (List.Mem.tail _ (inAll (by assumption) _ _ _))))))))) | exact List.Mem.tail _ (List.Mem.tail _ (List.Mem.tail _ (List.Mem.tail _ (List.Mem.tail _ (List.Mem.tail _ (List.Mem.tail _ (List.Mem.tail _ (List.Mem.tail _ (List.Mem.tail _ (inAll (by assumption) _ _ _)))))))))) | exact List.Mem.tail _ (List.Mem.tail _ (List.Mem.tail _ (List.Mem.tail _ (List.Mem.tail _ (List.Mem.tail _ (List.Mem.tail _ (List.Mem.tail _ (List.Mem.tail _ (List.Mem.tail _ (List.Mem.tail _ (inAll (by assumption) _ _ _))))))))))) | exact List.Mem.tail _ (List.Mem.tail _ (List.Mem.tail _ (List.Mem.tail _ (List.Mem.tail _ (List.Mem.tail _ (List.Mem.tail _ (List.Mem.tail _ (List.Mem.tail _ (List.Mem.tail _ (List.Mem.tail _ (List.Mem.tail _ (inAll (by assumption) _ _ _)))))))))))) | exact List.Mem.tail _ (List.Mem.tail _ (List.Mem.tail _ (List.Mem.tail _ (List.Mem.tail _ (List.Mem.tail _ (List.Mem.tail _ (List.Mem.tail _ (List.Mem.tail _ (List.Mem.tail _ (List.Mem.tail _ (List.Mem.tail _ (List.Mem.tail _ (inAll (by assumption) _ _ _))))))))))))) | exact List.Mem.tail _ (List.Mem.tail _ (List.Mem.tail _ (List.Mem.tail _ (List.Mem.tail _ (List.Mem.tail _ (List.Mem.tail _ (List.Mem.tail _ (List.Mem.tail _ (List.Mem.tail _ (List.Mem.tail _ (List.Mem.tail _ (List.Mem.tail _ (List.Mem.tail _ (inAll (by assumption) _ _ _)))))))))))))) | exact List.Mem.tail _ (List.Mem.tail _ (List.Mem.tail _ (List.Mem.tail _ (List.Mem.tail _ (List.Mem.tail _ (List.Mem.tail _ (List.Mem.tail _ (List.Mem.tail _ (List.Mem.tail _ (List.Mem.tail _ (List.Mem.tail _ (List.Mem.tail _ (List.Mem.tail _ (List.Mem.tail _ (inAll (by assumption) _ _ _)))))))))))))))); (case zc => exact rfl); (case zd => exact rfl)); intro i9ζ l9ζ; (try k_lt l9ζ))) | (((with_reducible show wpAny _ _ (call (Value.ref 372) _ _) _ _ _); (k_dflt show wpAny _ _ (call (Value.ref 372) [Value.ref _]) _ _ _); k_dflt (refine' take_any ?zb ?zf ?zx ?zt ?zhk ?zn ?zr ?zd ?zu ?zq1 ?_; (case zb => k_asm); (case zf => k_asm); (case zx => k_asm); (case zt => k_asm); (case zhk => first | exact rfl | assumption); (case zn => k_asm); (case zr => k_intsEnd); (case zd => ktr_room); (case zu => intro ta9ζ; k_upd); (case zq1 => first | assumption | exact isSomeW (by assumption)); k_whole); (all_goals intros); (all_goals (try k_sweep)))) | (((with_reducible show wpAny _ _ (exec (Stmt.For (Expr.Name _ _) (Expr.Name _ _) _ [] _) _) _ _ _); (rename Fr _ _ _ _ => lF'ζ); (with_unfolding_all refine' For_turns lF'ζ ?_; k_whole))) | (((with_reducible show wpAny _ _ (pyIter (Value.ref _)) (fun it s₂ => TurnsAt _ _ _ _ _ _ _ _ _ it s₂) _ _); (with_unfolding_all refine' iter_tupTurns ?zhh ?zf ?zn ?zm ?zc ?zd ?_; (case zhh => exact rfl); (case zf => k_asm); (case zn => k_asm); (case zm => first | exact List.Mem.head _ | exact List.Mem.tail _ (List.Mem.head _) | exact List.Mem.tail _ (List.Mem.tail _ (List.Mem.head _)) | exact List.Mem.tail _ (List.Mem.tail _ (List.Mem.tail _ (List.Mem.head _))) | exact List.Mem.tail _ (List.Mem.tail _ (List.Mem.tail _ (List.Mem.tail _ (List.Mem.head _)))) | exact List.Mem.tail _ (List.Mem.tail _ (List.Mem.tail _ (List.Mem.tail _ (List.Mem.tail _ (List.Mem.head _))))) | exact List.Mem.tail _ (List.Mem.tail _ (List.Mem.tail _ (List.Mem.tail _ (List.Mem.tail _ (List.Mem.tail _ (List.Mem.head _)))))) | exact List.Mem.tail _ (List.Mem.tail _ (List.Mem.tail _ (List.Mem.tail _ (List.Mem.tail _ (List.Mem.tail _ (List.Mem.tail _ (List.Mem.head _))))))) | exact List.Mem.tail _ (List.Mem.tail _ (List.Mem.tail _ (List.Mem.tail _ (List.Mem.tail _ (List.Mem.tail _ (List.Mem.tail _ (List.Mem.tail _ (List.Mem.head _)))))))) | exact List.Mem.tail _ (List.Mem.tail _ (List.Mem.tail _ (List.Mem.tail _ (List.Mem.tail _ (List.Mem.tail _ (List.Mem.tail _ (List.Mem.tail _ (List.Mem.tail _ (List.Mem.head _)))))))))); (case zc => exact rfl); (case zd => exact rfl)); intro i9ζ l9ζ; (try k_lt l9ζ))) | (((with_reducible show wpAny _ _ (call (Value.ref 258) [Value.ref _, _]) _ _ _); k_dflt (refine' open_inv ?zb ?zf ?zx ?zt ?zhk ?zn ?zr ?zd ?_ ?_ ?_; (case zb => k_asm); (case zf => k_asm); (case zx => k_asm); (case zt => k_asm); (case zhk => first | exact rfl | assumption); (case zn => k_asm); (case zr => k_intsEnd); (case zd => ktr_room); k_whole); (all_goals intros); (all_goals (try k_sweep)))) | (((with_reducible show wpAny _ _ (call (Value.ref 258) [Value.ref _, _]) _ _ _); k_dflt (refine' open_not ?zb ?zf ?zx ?zt ?zhk ?zn ?zr ?zd ?_ ?_ ?_ ?_; (case zb => k_asm); (case zf => k_asm); (case zx => k_asm); (case zt => k_asm); (case zhk => first | exact rfl | assumption); (case zn => k_asm); (case zr => k_intsEnd); (case zd => ktr_room); k_whole); (all_goals intros); (all_goals (try k_sweep)))) | (((with_reducible show wpAny _ _ (exec (Stmt.For _ _ _ [] _) _) _ _ _); k_strName; (rename Fr _ _ _ _ => lF'ζ); (with_unfolding_all refine' For_invVF lF'ζ ?zk1 ?zk2 ?_; (case zk1 => exact rfl); (case zk2 => exact rfl); k_whole))) | ((with_reducible show UnrEnd _ _ _ _ _ _ _); ((refine' UnrEnd.intro ?zf ?zn _ (fun _ hp => hp) ?zo ?_; (case zf => k_asm); (case zn => k_asm); (case zo => k_all)))) | ((with_reducible show wpAny _ _ (leaving _ (Value.ref _)) _ _ _); ((first
  | (refine' leave_raiseD3 ?zk1 ?zk2 ?zk3 ?zk4 ?zk5 ?zk6 ?_; (case zk1 => assumption); (case zk2 => k_asm); (case zk3 => k_asm); (case zk4 => assumption); (case zk5 => assumption); (case zk6 => assumption); intro h'ζ R'ζ U'ζ; (try dsimp only at R'ζ U'ζ ⊢))
  | (refine' leave_onD ?zk1 ?zk2 ?zk3 ?zk4 ?_; (case zk3 => assumption); (case zk1 => assumption); (case zk4 => assumption); (case zk2 => assumption); intro h'ζ R'ζ U'ζ; (try dsimp only at R'ζ U'ζ ⊢))))) | ((with_reducible show UnrEnd _ _ _ _ _ _ _); (first
  | (refine' UnrEnd.intro ?zf ?zn _ (fun _ hp => hp) ?zo ⟨?zm, ?_⟩; (case zf => k_asm); (case zn => k_asm); (case zo => first | exact off_allLt (by assumption) | (intro p9ζ hp9ζ; exact Nat.ne_of_lt ((by assumption : ∀ p ∈ _, p.1 < _) p9ζ hp9ζ))); (case zm => first | exact List.Mem.head _ | exact List.Mem.tail _ (List.Mem.head _)))
  | (refine' UnrEnd.intro ?zf ?zn _ (fun _ hp => hp) ?zo ?_; (case zf => k_asm); (case zn => k_asm); (case zo => first | exact off_allLt (by assumption) | (intro p9ζ hp9ζ; exact Nat.ne_of_lt ((by assumption : ∀ p ∈ _, p.1 < _) p9ζ hp9ζ)))))) | ((with_reducible show UnrEnd _ _ _ _ _ _ _); ((refine' UnrEnd.intro ?zf ?zn _ (fun _ hp => hp) ?zo ⟨?zm, ?_⟩; (case zf => k_asm); (case zn => k_asm); (case zo => intro p9ζ hp9ζ; exact Nat.ne_of_lt ((by assumption : ∀ p ∈ _, p.1 < _) p9ζ hp9ζ)); (case zm => first | exact List.Mem.head _ | exact List.Mem.tail _ (List.Mem.head _))))) | (k_unfold; (try dsimp only)) | (k_end; kc_close) | walk1 | (dsimp only; walk1) | (leave1; (try dsimp only)))
    all_goals first
      | exact hraise _ (br_b1 (by assumption) (by assumption) (by assumption)) _ _ _ _ _ _ _ _ _ _ _ (by assumption) (by k_asm) (by first | assumption | exact RaisedD.less (by assumption) (sub_keep sub_same) | exact RaisedD.less (by assumption) (sub_keep (sub_skip sub_same)) | exact RaisedD.less (by assumption) (sub_keep (sub_skip (sub_skip sub_same))) | exact RaisedD.less (by assumption) (sub_keep (sub_skip (sub_skip (sub_skip sub_same)))) | exact RaisedD.less (by assumption) (sub_keep (sub_skip (sub_skip (sub_skip (sub_skip sub_same))))) | exact RaisedD.less (by assumption) (sub_keep (sub_skip (sub_skip (sub_skip (sub_skip (sub_skip sub_same)))))) | exact RaisedD.less (by assumption) (sub_keep (sub_skip (sub_skip (sub_skip (sub_skip (sub_skip (sub_skip sub_same))))))) | exact RaisedD.less (by assumption) (sub_keep (sub_skip (sub_skip (sub_skip (sub_skip (sub_skip (sub_skip (sub_skip sub_same)))))))) | exact RaisedD.less (by assumption) (sub_keep (sub_skip (sub_skip (sub_skip (sub_skip (sub_skip (sub_skip (sub_skip (sub_skip sub_same))))))))) | exact RaisedD.less (by assumption) (sub_keep (sub_skip (sub_skip (sub_skip (sub_skip (sub_skip (sub_skip (sub_skip (sub_skip (sub_skip sub_same)))))))))) | exact RaisedD.less (by assumption) (sub_keep (sub_skip (sub_skip (sub_skip (sub_skip (sub_skip (sub_skip (sub_skip (sub_skip (sub_skip (sub_skip sub_same))))))))))) | exact RaisedD.less (by assumption) (sub_keep (sub_skip (sub_skip (sub_skip (sub_skip (sub_skip (sub_skip (sub_skip (sub_skip (sub_skip (sub_skip (sub_skip sub_same)))))))))))) | exact RaisedD.less (by assumption) (sub_keep (sub_skip (sub_skip (sub_skip (sub_skip (sub_skip (sub_skip (sub_skip (sub_skip (sub_skip (sub_skip (sub_skip (sub_skip sub_same))))))))))))) | exact RaisedD.less (by assumption) (sub_keep (sub_skip (sub_skip (sub_skip (sub_skip (sub_skip (sub_skip (sub_skip (sub_skip (sub_skip (sub_skip (sub_skip (sub_skip (sub_skip sub_same))))))))))))))) (by assumption)
      | exact hraise _ (br_b2 (by assumption) (by assumption) (by assumption)) _ _ _ _ _ _ _ _ _ _ _ (by assumption) (by k_asm) (by first | assumption | exact RaisedD.less (by assumption) (sub_keep sub_same) | exact RaisedD.less (by assumption) (sub_keep (sub_skip sub_same)) | exact RaisedD.less (by assumption) (sub_keep (sub_skip (sub_skip sub_same))) | exact RaisedD.less (by assumption) (sub_keep (sub_skip (sub_skip (sub_skip sub_same)))) | exact RaisedD.less (by assumption) (sub_keep (sub_skip (sub_skip (sub_skip (sub_skip sub_same))))) | exact RaisedD.less (by assumption) (sub_keep (sub_skip (sub_skip (sub_skip (sub_skip (sub_skip sub_same)))))) | exact RaisedD.less (by assumption) (sub_keep (sub_skip (sub_skip (sub_skip (sub_skip (sub_skip (sub_skip sub_same))))))) | exact RaisedD.less (by assumption) (sub_keep (sub_skip (sub_skip (sub_skip (sub_skip (sub_skip (sub_skip (sub_skip sub_same)))))))) | exact RaisedD.less (by assumption) (sub_keep (sub_skip (sub_skip (sub_skip (sub_skip (sub_skip (sub_skip (sub_skip (sub_skip sub_same))))))))) | exact RaisedD.less (by assumption) (sub_keep (sub_skip (sub_skip (sub_skip (sub_skip (sub_skip (sub_skip (sub_skip (sub_skip (sub_skip sub_same)))))))))) | exact RaisedD.less (by assumption) (sub_keep (sub_skip (sub_skip (sub_skip (sub_skip (sub_skip (sub_skip (sub_skip (sub_skip (sub_skip (sub_skip sub_same))))))))))) | exact RaisedD.less (by assumption) (sub_keep (sub_skip (sub_skip (sub_skip (sub_skip (sub_skip (sub_skip (sub_skip (sub_skip (sub_skip (sub_skip (sub_skip sub_same)))))))))))) | exact RaisedD.less (by assumption) (sub_keep (sub_skip (sub_skip (sub_skip (sub_skip (sub_skip (sub_skip (sub_skip (sub_skip (sub_skip (sub_skip (sub_skip (sub_skip sub_same))))))))))))) | exact RaisedD.less (by assumption) (sub_keep (sub_skip (sub_skip (sub_skip (sub_skip (sub_skip (sub_skip (sub_skip (sub_skip (sub_skip (sub_skip (sub_skip (sub_skip (sub_skip sub_same))))))))))))))) (by assumption)
      | exact And.left (hQ1 _ (unrEndB0 (by k_asm) (by k_asm) (by k_ne) (by k_all) ⟨⟨List.Mem.tail _ (hkeys _ _ _), trivial⟩, ⟨⟨W, _, _, [], _, [], _, _, _, H, (fun _ _ _ _ h => h), (by omega), (fun _ _ _ => lt_ne2 (H.lt (by assumption))), (by k_ne), (by k_ne), (fun _ _ _ => lt_ne2 (H.lt (allLt_all (And.right (by assumption))))), (by k_ne), (by k_ne), (by k_ne), (by k_ne), rfl, (fun _ _ _ => .nil), (by decide), bm_0 (by assumption), map3 (by intro y h1 h2 h3; simp only [h1, h2, h3, if_false])⟩⟩⟩))
      | exact And.right (hQ1 _ (unrEndB0 (by k_asm) (by k_asm) (by k_ne) (by k_all) ⟨⟨List.Mem.tail _ (hkeys _ _ _), trivial⟩, ⟨⟨W, _, _, [], _, [], _, _, _, H, (fun _ _ _ _ h => h), (by omega), (fun _ _ _ => lt_ne2 (H.lt (by assumption))), (by k_ne), (by k_ne), (fun _ _ _ => lt_ne2 (H.lt (allLt_all (And.right (by assumption))))), (by k_ne), (by k_ne), (by k_ne), (by k_ne), rfl, (fun _ _ _ => .nil), (by decide), bm_0 (by assumption), map3 (by intro y h1 h2 h3; simp only [h1, h2, h3, if_false])⟩⟩⟩))
      | exact And.left (hQ1 _ (unrEndB3 (by k_asm) (by k_asm) (by k_ne) (by k_ne) (by k_ne) (by k_ne) (by k_all) ⟨⟨List.Mem.tail _ (app_sub _ _ _ _ (hkeys _ _ _)), trivial⟩, ⟨⟨app [_, _, _] W, _, _, [_], _, [_], _, _, _, H.app (by (repeat (first | exact off_nil | refine off_cons (by first | assumption | exact Hole.ne (by assumption) (by first | assumption | exact allLt_all (by assumption) | exact allLt_all (And.right (by assumption)) | exact allLt_all (And.right (And.right (by assumption))) | exact allLt_all (And.right (And.right (And.right (by assumption)))) | exact allLt_all (And.right (And.right (And.right (And.right (by assumption))))) | exact allLt_all (And.right (And.right (And.right (And.right (And.right (by assumption)))))) | exact allLt_all (And.right (And.right (And.right (And.right (And.right (And.right (by assumption))))))) | exact allLt_all (And.right (And.right (And.right (And.right (And.right (And.right (And.right (by assumption)))))))) | exact allLt_all (And.right (And.right (And.right (And.right (And.right (And.right (And.right (And.right (by assumption))))))))) | exact ltSucc (by assumption) | exact ltLt (by assumption) (by assumption) | exact ltTail (by assumption) | exact ltTail (ltTail (by assumption)) | exact ltTail (ltTail (ltTail (by assumption))) | exact ltTail (ltTail (ltTail (ltTail (by assumption)))) | exact ltTail (ltTail (ltTail (ltTail (ltTail (by assumption))))) | exact ltLt (ltLt (by assumption) (by assumption)) (by assumption) | exact ltLt (ltTail (ltTail (by assumption))) (by assumption) | exact ltLt (ltLt (ltTail (ltTail (by assumption))) (by assumption)) (by assumption))) (by first | assumption | exact Hole.neT (by assumption) (by first | assumption | exact allLt_all (by assumption) | exact allLt_all (And.right (by assumption)) | exact allLt_all (And.right (And.right (by assumption))) | exact allLt_all (And.right (And.right (And.right (by assumption)))) | exact allLt_all (And.right (And.right (And.right (And.right (by assumption))))) | exact allLt_all (And.right (And.right (And.right (And.right (And.right (by assumption)))))) | exact allLt_all (And.right (And.right (And.right (And.right (And.right (And.right (by assumption))))))) | exact allLt_all (And.right (And.right (And.right (And.right (And.right (And.right (And.right (by assumption)))))))) | exact allLt_all (And.right (And.right (And.right (And.right (And.right (And.right (And.right (And.right (by assumption))))))))) | exact ltSucc (by assumption) | exact ltLt (by assumption) (by assumption) | exact ltTail (by assumption) | exact ltTail (ltTail (by assumption)) | exact ltTail (ltTail (ltTail (by assumption))) | exact ltTail (ltTail (ltTail (ltTail (by assumption)))) | exact ltTail (ltTail (ltTail (ltTail (ltTail (by assumption))))) | exact ltLt (ltLt (by assumption) (by assumption)) (by assumption) | exact ltLt (ltTail (ltTail (by assumption))) (by assumption) | exact ltLt (ltLt (ltTail (ltTail (by assumption))) (by assumption)) (by assumption))) ?_))), app_sub, (by omega), app_ne (by k_all) (fun _ _ _ => lt_ne2 (H.lt (by assumption))), (by k_ne), (by k_ne), app_ne (by k_all) (fun _ _ _ => lt_ne2 (H.lt (allLt_all (And.right (by assumption))))), (by k_ne), (by k_ne), (by k_ne), (by k_ne), rfl, (fun _ _ _ => by (repeat (first | assumption | exact DatAll.nil | (refine DatAll.cons ?_ ?_) | exact DatIn.str _ _ | exact DatIn.int _ _ | exact DatIn.none | exact DatIn.bool _ | refine DatIn.tuple (List.Mem.head _) ?_ | refine DatIn.tuple (List.Mem.tail _ (List.Mem.head _)) ?_ | refine DatIn.tuple (List.Mem.tail _ (List.Mem.tail _ (List.Mem.head _))) ?_ | refine DatIn.tuple (List.Mem.tail _ (List.Mem.tail _ (List.Mem.tail _ (List.Mem.head _)))) ?_ | refine DatIn.tuple (List.Mem.tail _ (List.Mem.tail _ (List.Mem.tail _ (List.Mem.tail _ (List.Mem.head _))))) ?_ | refine DatIn.tuple (List.Mem.tail _ (List.Mem.tail _ (List.Mem.tail _ (List.Mem.tail _ (List.Mem.tail _ (List.Mem.head _)))))) ?_ | refine DatIn.tuple (List.Mem.tail _ (List.Mem.tail _ (List.Mem.tail _ (List.Mem.tail _ (List.Mem.tail _ (List.Mem.tail _ (List.Mem.head _))))))) ?_ | refine DatIn.tuple (List.Mem.tail _ (List.Mem.tail _ (List.Mem.tail _ (List.Mem.tail _ (List.Mem.tail _ (List.Mem.tail _ (List.Mem.tail _ (List.Mem.head _)))))))) ?_ | exact dat_sub (by assumption) (by assumption)))), Nat.le_refl _, (bm_1 (by assumption) (by assumption) (by assumption)), map3 (by intro y h1 h2 h3; simp only [h1, h2, h3, if_false])⟩⟩⟩))
      | exact And.right (hQ1 _ (unrEndB3 (by k_asm) (by k_asm) (by k_ne) (by k_ne) (by k_ne) (by k_ne) (by k_all) ⟨⟨List.Mem.tail _ (app_sub _ _ _ _ (hkeys _ _ _)), trivial⟩, ⟨⟨app [_, _, _] W, _, _, [_], _, [_], _, _, _, H.app (by (repeat (first | exact off_nil | refine off_cons (by first | assumption | exact Hole.ne (by assumption) (by first | assumption | exact allLt_all (by assumption) | exact allLt_all (And.right (by assumption)) | exact allLt_all (And.right (And.right (by assumption))) | exact allLt_all (And.right (And.right (And.right (by assumption)))) | exact allLt_all (And.right (And.right (And.right (And.right (by assumption))))) | exact allLt_all (And.right (And.right (And.right (And.right (And.right (by assumption)))))) | exact allLt_all (And.right (And.right (And.right (And.right (And.right (And.right (by assumption))))))) | exact allLt_all (And.right (And.right (And.right (And.right (And.right (And.right (And.right (by assumption)))))))) | exact allLt_all (And.right (And.right (And.right (And.right (And.right (And.right (And.right (And.right (by assumption))))))))) | exact ltSucc (by assumption) | exact ltLt (by assumption) (by assumption) | exact ltTail (by assumption) | exact ltTail (ltTail (by assumption)) | exact ltTail (ltTail (ltTail (by assumption))) | exact ltTail (ltTail (ltTail (ltTail (by assumption)))) | exact ltTail (ltTail (ltTail (ltTail (ltTail (by assumption))))) | exact ltLt (ltLt (by assumption) (by assumption)) (by assumption) | exact ltLt (ltTail (ltTail (by assumption))) (by assumption) | exact ltLt (ltLt (ltTail (ltTail (by assumption))) (by assumption)) (by assumption))) (by first | assumption | exact Hole.neT (by assumption) (by first | assumption | exact allLt_all (by assumption) | exact allLt_all (And.right (by assumption)) | exact allLt_all (And.right (And.right (by assumption))) | exact allLt_all (And.right (And.right (And.right (by assumption)))) | exact allLt_all (And.right (And.right (And.right (And.right (by assumption))))) | exact allLt_all (And.right (And.right (And.right (And.right (And.right (by assumption)))))) | exact allLt_all (And.right (And.right (And.right (And.right (And.right (And.right (by assumption))))))) | exact allLt_all (And.right (And.right (And.right (And.right (And.right (And.right (And.right (by assumption)))))))) | exact allLt_all (And.right (And.right (And.right (And.right (And.right (And.right (And.right (And.right (by assumption))))))))) | exact ltSucc (by assumption) | exact ltLt (by assumption) (by assumption) | exact ltTail (by assumption) | exact ltTail (ltTail (by assumption)) | exact ltTail (ltTail (ltTail (by assumption))) | exact ltTail (ltTail (ltTail (ltTail (by assumption)))) | exact ltTail (ltTail (ltTail (ltTail (ltTail (by assumption))))) | exact ltLt (ltLt (by assumption) (by assumption)) (by assumption) | exact ltLt (ltTail (ltTail (by assumption))) (by assumption) | exact ltLt (ltLt (ltTail (ltTail (by assumption))) (by assumption)) (by assumption))) ?_))), app_sub, (by omega), app_ne (by k_all) (fun _ _ _ => lt_ne2 (H.lt (by assumption))), (by k_ne), (by k_ne), app_ne (by k_all) (fun _ _ _ => lt_ne2 (H.lt (allLt_all (And.right (by assumption))))), (by k_ne), (by k_ne), (by k_ne), (by k_ne), rfl, (fun _ _ _ => by (repeat (first | assumption | exact DatAll.nil | (refine DatAll.cons ?_ ?_) | exact DatIn.str _ _ | exact DatIn.int _ _ | exact DatIn.none | exact DatIn.bool _ | refine DatIn.tuple (List.Mem.head _) ?_ | refine DatIn.tuple (List.Mem.tail _ (List.Mem.head _)) ?_ | refine DatIn.tuple (List.Mem.tail _ (List.Mem.tail _ (List.Mem.head _))) ?_ | refine DatIn.tuple (List.Mem.tail _ (List.Mem.tail _ (List.Mem.tail _ (List.Mem.head _)))) ?_ | refine DatIn.tuple (List.Mem.tail _ (List.Mem.tail _ (List.Mem.tail _ (List.Mem.tail _ (List.Mem.head _))))) ?_ | refine DatIn.tuple (List.Mem.tail _ (List.Mem.tail _ (List.Mem.tail _ (List.Mem.tail _ (List.Mem.tail _ (List.Mem.head _)))))) ?_ | refine DatIn.tuple (List.Mem.tail _ (List.Mem.tail _ (List.Mem.tail _ (List.Mem.tail _ (List.Mem.tail _ (List.Mem.tail _ (List.Mem.head _))))))) ?_ | refine DatIn.tuple (List.Mem.tail _ (List.Mem.tail _ (List.Mem.tail _ (List.Mem.tail _ (List.Mem.tail _ (List.Mem.tail _ (List.Mem.tail _ (List.Mem.head _)))))))) ?_ | exact dat_sub (by assumption) (by assumption)))), Nat.le_refl _, (bm_1 (by assumption) (by assumption) (by assumption)), map3 (by intro y h1 h2 h3; simp only [h1, h2, h3, if_false])⟩⟩⟩))
      | exact And.left (hQ1 _ (unrEndB3 (by k_asm) (by k_asm) (by k_ne) (by k_ne) (by k_ne) (by k_ne) (by k_all) ⟨⟨List.Mem.tail _ (app_sub _ _ _ _ (hkeys _ _ _)), trivial⟩, ⟨⟨app [_, _, _] W, _, _, [_], _, [_], _, _, _, H.app (by (repeat (first | exact off_nil | refine off_cons (by first | assumption | exact Hole.ne (by assumption) (by first | assumption | exact allLt_all (by assumption) | exact allLt_all (And.right (by assumption)) | exact allLt_all (And.right (And.right (by assumption))) | exact allLt_all (And.right (And.right (And.right (by assumption)))) | exact allLt_all (And.right (And.right (And.right (And.right (by assumption))))) | exact allLt_all (And.right (And.right (And.right (And.right (And.right (by assumption)))))) | exact allLt_all (And.right (And.right (And.right (And.right (And.right (And.right (by assumption))))))) | exact allLt_all (And.right (And.right (And.right (And.right (And.right (And.right (And.right (by assumption)))))))) | exact allLt_all (And.right (And.right (And.right (And.right (And.right (And.right (And.right (And.right (by assumption))))))))) | exact ltSucc (by assumption) | exact ltLt (by assumption) (by assumption) | exact ltTail (by assumption) | exact ltTail (ltTail (by assumption)) | exact ltTail (ltTail (ltTail (by assumption))) | exact ltTail (ltTail (ltTail (ltTail (by assumption)))) | exact ltTail (ltTail (ltTail (ltTail (ltTail (by assumption))))) | exact ltLt (ltLt (by assumption) (by assumption)) (by assumption) | exact ltLt (ltTail (ltTail (by assumption))) (by assumption) | exact ltLt (ltLt (ltTail (ltTail (by assumption))) (by assumption)) (by assumption))) (by first | assumption | exact Hole.neT (by assumption) (by first | assumption | exact allLt_all (by assumption) | exact allLt_all (And.right (by assumption)) | exact allLt_all (And.right (And.right (by assumption))) | exact allLt_all (And.right (And.right (And.right (by assumption)))) | exact allLt_all (And.right (And.right (And.right (And.right (by assumption))))) | exact allLt_all (And.right (And.right (And.right (And.right (And.right (by assumption)))))) | exact allLt_all (And.right (And.right (And.right (And.right (And.right (And.right (by assumption))))))) | exact allLt_all (And.right (And.right (And.right (And.right (And.right (And.right (And.right (by assumption)))))))) | exact allLt_all (And.right (And.right (And.right (And.right (And.right (And.right (And.right (And.right (by assumption))))))))) | exact ltSucc (by assumption) | exact ltLt (by assumption) (by assumption) | exact ltTail (by assumption) | exact ltTail (ltTail (by assumption)) | exact ltTail (ltTail (ltTail (by assumption))) | exact ltTail (ltTail (ltTail (ltTail (by assumption)))) | exact ltTail (ltTail (ltTail (ltTail (ltTail (by assumption))))) | exact ltLt (ltLt (by assumption) (by assumption)) (by assumption) | exact ltLt (ltTail (ltTail (by assumption))) (by assumption) | exact ltLt (ltLt (ltTail (ltTail (by assumption))) (by assumption)) (by assumption))) ?_))), app_sub, (by omega), app_ne (by k_all) (fun _ _ _ => lt_ne2 (H.lt (by assumption))), (by k_ne), (by k_ne), app_ne (by k_all) (fun _ _ _ => lt_ne2 (H.lt (allLt_all (And.right (by assumption))))), (by k_ne), (by k_ne), (by k_ne), (by k_ne), rfl, (fun _ _ _ => by (repeat (first | assumption | exact DatAll.nil | (refine DatAll.cons ?_ ?_) | exact DatIn.str _ _ | exact DatIn.int _ _ | exact DatIn.none | exact DatIn.bool _ | refine DatIn.tuple (List.Mem.head _) ?_ | refine DatIn.tuple (List.Mem.tail _ (List.Mem.head _)) ?_ | refine DatIn.tuple (List.Mem.tail _ (List.Mem.tail _ (List.Mem.head _))) ?_ | refine DatIn.tuple (List.Mem.tail _ (List.Mem.tail _ (List.Mem.tail _ (List.Mem.head _)))) ?_ | refine DatIn.tuple (List.Mem.tail _ (List.Mem.tail _ (List.Mem.tail _ (List.Mem.tail _ (List.Mem.head _))))) ?_ | refine DatIn.tuple (List.Mem.tail _ (List.Mem.tail _ (List.Mem.tail _ (List.Mem.tail _ (List.Mem.tail _ (List.Mem.head _)))))) ?_ | refine DatIn.tuple (List.Mem.tail _ (List.Mem.tail _ (List.Mem.tail _ (List.Mem.tail _ (List.Mem.tail _ (List.Mem.tail _ (List.Mem.head _))))))) ?_ | refine DatIn.tuple (List.Mem.tail _ (List.Mem.tail _ (List.Mem.tail _ (List.Mem.tail _ (List.Mem.tail _ (List.Mem.tail _ (List.Mem.tail _ (List.Mem.head _)))))))) ?_ | exact dat_sub (by assumption) (by assumption)))), Nat.le_refl _, (bm_2 (by assumption) (by assumption) (by assumption)), map3 (by intro y h1 h2 h3; simp only [h1, h2, h3, if_false])⟩⟩⟩))
      | exact And.right (hQ1 _ (unrEndB3 (by k_asm) (by k_asm) (by k_ne) (by k_ne) (by k_ne) (by k_ne) (by k_all) ⟨⟨List.Mem.tail _ (app_sub _ _ _ _ (hkeys _ _ _)), trivial⟩, ⟨⟨app [_, _, _] W, _, _, [_], _, [_], _, _, _, H.app (by (repeat (first | exact off_nil | refine off_cons (by first | assumption | exact Hole.ne (by assumption) (by first | assumption | exact allLt_all (by assumption) | exact allLt_all (And.right (by assumption)) | exact allLt_all (And.right (And.right (by assumption))) | exact allLt_all (And.right (And.right (And.right (by assumption)))) | exact allLt_all (And.right (And.right (And.right (And.right (by assumption))))) | exact allLt_all (And.right (And.right (And.right (And.right (And.right (by assumption)))))) | exact allLt_all (And.right (And.right (And.right (And.right (And.right (And.right (by assumption))))))) | exact allLt_all (And.right (And.right (And.right (And.right (And.right (And.right (And.right (by assumption)))))))) | exact allLt_all (And.right (And.right (And.right (And.right (And.right (And.right (And.right (And.right (by assumption))))))))) | exact ltSucc (by assumption) | exact ltLt (by assumption) (by assumption) | exact ltTail (by assumption) | exact ltTail (ltTail (by assumption)) | exact ltTail (ltTail (ltTail (by assumption))) | exact ltTail (ltTail (ltTail (ltTail (by assumption)))) | exact ltTail (ltTail (ltTail (ltTail (ltTail (by assumption))))) | exact ltLt (ltLt (by assumption) (by assumption)) (by assumption) | exact ltLt (ltTail (ltTail (by assumption))) (by assumption) | exact ltLt (ltLt (ltTail (ltTail (by assumption))) (by assumption)) (by assumption))) (by first | assumption | exact Hole.neT (by assumption) (by first | assumption | exact allLt_all (by assumption) | exact allLt_all (And.right (by assumption)) | exact allLt_all (And.right (And.right (by assumption))) | exact allLt_all (And.right (And.right (And.right (by assumption)))) | exact allLt_all (And.right (And.right (And.right (And.right (by assumption))))) | exact allLt_all (And.right (And.right (And.right (And.right (And.right (by assumption)))))) | exact allLt_all (And.right (And.right (And.right (And.right (And.right (And.right (by assumption))))))) | exact allLt_all (And.right (And.right (And.right (And.right (And.right (And.right (And.right (by assumption)))))))) | exact allLt_all (And.right (And.right (And.right (And.right (And.right (And.right (And.right (And.right (by assumption))))))))) | exact ltSucc (by assumption) | exact ltLt (by assumption) (by assumption) | exact ltTail (by assumption) | exact ltTail (ltTail (by assumption)) | exact ltTail (ltTail (ltTail (by assumption))) | exact ltTail (ltTail (ltTail (ltTail (by assumption)))) | exact ltTail (ltTail (ltTail (ltTail (ltTail (by assumption))))) | exact ltLt (ltLt (by assumption) (by assumption)) (by assumption) | exact ltLt (ltTail (ltTail (by assumption))) (by assumption) | exact ltLt (ltLt (ltTail (ltTail (by assumption))) (by assumption)) (by assumption))) ?_))), app_sub, (by omega), app_ne (by k_all) (fun _ _ _ => lt_ne2 (H.lt (by assumption))), (by k_ne), (by k_ne), app_ne (by k_all) (fun _ _ _ => lt_ne2 (H.lt (allLt_all (And.right (by assumption))))), (by k_ne), (by k_ne), (by k_ne), (by k_ne), rfl, (fun _ _ _ => by (repeat (first | assumption | exact DatAll.nil | (refine DatAll.cons ?_ ?_) | exact DatIn.str _ _ | exact DatIn.int _ _ | exact DatIn.none | exact DatIn.bool _ | refine DatIn.tuple (List.Mem.head _) ?_ | refine DatIn.tuple (List.Mem.tail _ (List.Mem.head _)) ?_ | refine DatIn.tuple (List.Mem.tail _ (List.Mem.tail _ (List.Mem.head _))) ?_ | refine DatIn.tuple (List.Mem.tail _ (List.Mem.tail _ (List.Mem.tail _ (List.Mem.head _)))) ?_ | refine DatIn.tuple (List.Mem.tail _ (List.Mem.tail _ (List.Mem.tail _ (List.Mem.tail _ (List.Mem.head _))))) ?_ | refine DatIn.tuple (List.Mem.tail _ (List.Mem.tail _ (List.Mem.tail _ (List.Mem.tail _ (List.Mem.tail _ (List.Mem.head _)))))) ?_ | refine DatIn.tuple (List.Mem.tail _ (List.Mem.tail _ (List.Mem.tail _ (List.Mem.tail _ (List.Mem.tail _ (List.Mem.tail _ (List.Mem.head _))))))) ?_ | refine DatIn.tuple (List.Mem.tail _ (List.Mem.tail _ (List.Mem.tail _ (List.Mem.tail _ (List.Mem.tail _ (List.Mem.tail _ (List.Mem.tail _ (List.Mem.head _)))))))) ?_ | exact dat_sub (by assumption) (by assumption)))), Nat.le_refl _, (bm_2 (by assumption) (by assumption) (by assumption)), map3 (by intro y h1 h2 h3; simp only [h1, h2, h3, if_false])⟩⟩⟩))
  case h2 =>
    intro m' news' hC
    refine BrMid.elim (K := fun m' n' => PySem.W.ItemsRest _ _ _ _ _ _ _ _ _ _ _ _ _ m' n') hC ?_
    intro W' pos' ta' vs n acc a' b' c' H' sub' hp' hne hl1 hl2 hI1 hI2 hI3 hI4 hI5 D' hlen hbr
    have hkeys' : ∀ pos ta o, _ ∈ W' pos ta o := fun pos ta o => sub' pos ta o _ (hkeys pos ta o)
    clear hkeys H R hC ix id il it
    refine items_turnE2 (C0 := fun m' n' => PySem.W.ItemsRest _ _ _ _ _ _ _ _ _ _ _ _ [] m' n') rfl (fun _ _ c => c) fun h tk oI hoI FI NI Q1 hQ1 => ?_
    repeat' (first | (((with_reducible show wpAny _ _ (call (Value.ref 265) [Value.ref _, _]) _ _ _); k_dflt (refine' body_any ?zb ?zf ?zx ?zt ?zhk (Hole.cons (Hole.cons ?zhH ?zna0 ?znb0) ?zna1 ?znb1) ?zhp ?zn ?zwu ?zwhd ?zwcc ?zws ?_ ?_; (case zb => k_asm); (case zf => k_asm); (case zx => k_asm); (case zt => k_asm); (case zhk => first | exact rfl | assumption); (case zhH => assumption); (case zn => k_asm); (case zna0 => first | assumption | exact Hole.ne (by assumption) (by first | assumption | exact allLt_all (by assumption) | exact allLt_all (And.right (by assumption)) | exact allLt_all (And.right (And.right (by assumption))) | exact allLt_all (And.right (And.right (And.right (by assumption)))) | exact allLt_all (And.right (And.right (And.right (And.right (by assumption))))) | exact allLt_all (And.right (And.right (And.right (And.right (And.right (by assumption)))))) | exact allLt_all (And.right (And.right (And.right (And.right (And.right (And.right (by assumption))))))) | exact allLt_all (And.right (And.right (And.right (And.right (And.right (And.right (And.right (by assumption)))))))) | exact allLt_all (And.right (And.right (And.right (And.right (And.right (And.right (And.right (And.right (by assumption))))))))) | exact ltSucc (by assumption) | exact ltLt (by assumption) (by assumption) | exact ltTail (by assumption) | exact ltTail (ltTail (by assumption)) | exact ltTail (ltTail (ltTail (by assumption))) | exact ltTail (ltTail (ltTail (ltTail (by assumption)))) | exact ltTail (ltTail (ltTail (ltTail (ltTail (by assumption))))) | exact ltLt (ltLt (by assumption) (by assumption)) (by assumption) | exact ltLt (ltTail (ltTail (by assumption))) (by assumption) | exact ltLt (ltLt (ltTail (ltTail (by assumption))) (by assumption)) (by assumption))); (case znb0 => first | assumption | exact Hole.neT (by assumption) (by first | assumption | exact allLt_all (by assumption) | exact allLt_all (And.right (by assumption)) | exact allLt_all (And.right (And.right (by assumption))) | exact allLt_all (And.right (And.right (And.right (by assumption)))) | exact allLt_all (And.right (And.right (And.right (And.right (by assumption))))) | exact allLt_all (And.right (And.right (And.right (And.right (And.right (by assumption)))))) | exact allLt_all (And.right (And.right (And.right (And.right (And.right (And.right (by assumption))))))) | exact allLt_all (And.right (And.right (And.right (And.right (And.right (And.right (And.right (by assumption)))))))) | exact allLt_all (And.right (And.right (And.right (And.right (And.right (And.right (And.right (And.right (by assumption))))))))) | exact ltSucc (by assumption) | exact ltLt (by assumption) (by assumption) | exact ltTail (by assumption) | exact ltTail (ltTail (by assumption)) | exact ltTail (ltTail (ltTail (by assumption))) | exact ltTail (ltTail (ltTail (ltTail (by assumption)))) | exact ltTail (ltTail (ltTail (ltTail (ltTail (by assumption))))) | exact ltLt (ltLt (by assumption) (by assumption)) (by assumption) | exact ltLt (ltTail (ltTail (by assumption))) (by assumption) | exact ltLt (ltLt (ltTail (ltTail (by assumption))) (by assumption)) (by assumption))); (case zna1 => first | assumption | exact Hole.ne (by assumption) (by first | assumption | exact allLt_all (by assumption) | exact allLt_all (And.right (by assumption)) | exact allLt_all (And.right (And.right (by assumption))) | exact allLt_all (And.right (And.right (And.right (by assumption)))) | exact allLt_all (And.right (And.right (And.right (And.right (by assumption))))) | exact allLt_all (And.right (And.right (And.right (And.right (And.right (by assumption)))))) | exact allLt_all (And.right (And.right (And.right (And.right (And.right (And.right (by assumption))))))) | exact allLt_all (And.right (And.right (And.right (And.right (And.right (And.right (And.right (by assumption)))))))) | exact allLt_all (And.right (And.right (And.right (And.right (And.right (And.right (And.right (And.right (by assumption))))))))) | exact ltSucc (by assumption) | exact ltLt (by assumption) (by assumption) | exact ltTail (by assumption) | exact ltTail (ltTail (by assumption)) | exact ltTail (ltTail (ltTail (by assumption))) | exact ltTail (ltTail (ltTail (ltTail (by assumption)))) | exact ltTail (ltTail (ltTail (ltTail (ltTail (by assumption))))) | exact ltLt (ltLt (by assumption) (by assumption)) (by assumption) | exact ltLt (ltTail (ltTail (by assumption))) (by assumption) | exact ltLt (ltLt (ltTail (ltTail (by assumption))) (by assumption)) (by assumption))); (case znb1 => first | assumption | exact Hole.neT (by assumption) (by first | assumption | exact allLt_all (by assumption) | exact allLt_all (And.right (by assumption)) | exact allLt_all (And.right (And.right (by assumption))) | exact allLt_all (And.right (And.right (And.right (by assumption)))) | exact allLt_all (And.right (And.right (And.right (And.right (by assumption))))) | exact allLt_all (And.right (And.right (And.right (And.right (And.right (by assumption)))))) | exact allLt_all (And.right (And.right (And.right (And.right (And.right (And.right (by assumption))))))) | exact allLt_all (And.right (And.right (And.right (And.right (And.right (And.right (And.right (by assumption)))))))) | exact allLt_all (And.right (And.right (And.right (And.right (And.right (And.right (And.right (And.right (by assumption))))))))) | exact ltSucc (by assumption) | exact ltLt (by assumption) (by assumption) | exact ltTail (by assumption) | exact ltTail (ltTail (by assumption)) | exact ltTail (ltTail (ltTail (by assumption))) | exact ltTail (ltTail (ltTail (ltTail (by assumption)))) | exact ltTail (ltTail (ltTail (ltTail (ltTail (by assumption))))) | exact ltLt (ltLt (by assumption) (by assumption)) (by assumption) | exact ltLt (ltTail (ltTail (by assumption))) (by assumption) | exact ltLt (ltLt (ltTail (ltTail (by assumption))) (by assumption)) (by assumption))); (case zhp => first | assumption | omega); (case zwu => (dsimp only [ktrTop, Around.deeper]; omega)); (case zwhd => ktr_room); (case zwcc => exact (by assumption : NoCC _) _); (case zws => first | assumption | exact nextTok (by assumption) (by assumption) (by decide +kernel)); k_whole); (all_goals (first | (intro hb9ζ q9ζ q29ζ t9ζ ta9ζ h9ζ k9ζ F9ζ N9ζ l9ζ l29ζ l39ζ; k_lt l9ζ; k_lt l39ζ) | skip)); (all_goals intros); (all_goals (try k_sweep)))) | (((with_reducible show wpAny _ _ (pyIter (Value.ref _)) (fun it s₂ => TurnsAt _ _ _ _ _ _ _ _ _ it s₂) _ _); (with_unfolding_all refine' iter_tupTurns ?zhh ?zf ?zn ?zm ?zc ?zd ?_; (case zhh => exact rfl); (case zf => k_asm); (case zn => k_asm); (case zm => first | exact inAll (by assumption) _ _ _ | exact List.Mem.tail _ (inAll (by assumption) _ _ _) | exact List.Mem.tail _ (List.Mem.tail _ (inAll (by assumption) _ _ _)) | exact List.Mem.tail _ (List.Mem.tail _ (List.Mem.tail _ (inAll (by assumption) _ _ _))) | exact List.Mem.tail _ (List.Mem.tail _ (List.Mem.tail _ (List.Mem.tail _ (inAll (by assumption) _ _ _)))) | exact List.Mem.tail _ (List.Mem.tail _ (List.Mem.tail _ (List.Mem.tail _ (List.Mem.tail _ (inAll (by assumption) _ _ _))))) | exact List.Mem.tail _ (List.Mem.tail _ (List.Mem.tail _ (List.Mem.tail _ (List.Mem.tail _ (List.Mem.tail _ (inAll (by assumption) _ _ _)))))) | exact List.Mem.tail _ (List.Mem.tail _ (List.Mem.tail _ (List.Mem.tail _ (List.Mem.tail _ (List.Mem.tail _ (List.Mem.tail _ (inAll (by assumption) _ _ _))))))) | exact List.Mem.tail _ (List.Mem.tail _ (List.Mem.tail _ (List.Mem.tail _ (List.Mem.tail _ (List.Mem.tail _ (List.Mem.tail _ (List.Mem.tail _ (inAll (by assumption) _ _ _)))))))) | exact List.Mem.tail _ (List.Mem.tail _ (List.Mem.tail _ (List.Mem.tail _ (List.Mem.tail _ (List.Mem.tail _ (List.Mem.tail _ (List.Mem.tail _ (List.Mem.tail _ (inAll (by assumption) _ _ _))))))))) | exact List.Mem.tail _ (List.Mem.tail _ (List.Mem.tail _ (List.Mem.tail _ (List.Mem.tail _ (List.Mem.tail _ (List.Mem.tail _ (List.Mem.tail _ (List.Mem.tail _ (List.Mem.tail _ (inAll (by assumption) _ _ _)))))))))) | exact List.Mem.tail _ (List.Mem.tail _ (List.Mem.tail _ (List.Mem.tail _ (List.Mem.tail _ (List.Mem.tail _ (List.Mem.tail _ (List.Mem.tail _ (List.Mem.tail _ (List.Mem.tail _ (List.Mem.tail _ (inAll (by assumption) _ _ _))))))))))) | exact List.Mem.tail _ (List.Mem.tail _ (List.Mem.tail _ (List.Mem.tail _ (List.Mem.tail _ (List.Mem.tail _ (List.Mem.tail _ (List.Mem.tail _ (List.Mem.tail _ (List.Mem.tail _ (List.Mem.tail _ (List.Mem.tail _ (inAll (by assumption) _ _ _)))))))))))) | exact List.Mem.tail _ (List.Mem.tail _ (List.Mem.tail _ (List.Mem.tail _ (List.Mem.tail _ (List.Mem.tail _ (List.Mem.tail _ (List.Mem.tail _ (List.Mem.tail _ (List.Mem.tail _ (List.Mem.tail _ (List.Mem.tail _ (List.Mem.tail _ (inAll (by assumption) _ _ _))))))))))))) | exact List.Mem.tail _ (List.Mem.tail _ (List.Mem.tail _ (List.Mem.tail _ (List.Mem.tail _ (List.Mem.tail _ (List.Mem.tail _ (List.Mem.tail _ (List.Mem.tail _ (List.Mem.tail _ (List.Mem.tail _ (List.Mem.tail _ (List.Mem.tail _ (List.Mem.tail _ (inAll (by assumption) _ _ _)))))))))))))) | exact List.Mem.tail _ (List.Mem.tail _ (List.Mem.tail _ (List.Mem.tail _ (List.Mem.tail _ (List.Mem.tail _ (List.Mem.tail _ (List.Mem.tail _ (List.Mem.tail _ (List.Mem.tail _ (List.Mem.tail _ (List.Mem.tail _ (List.Mem.tail _ (List.Mem.tail _ (List.Mem.tail _ (inAll (by assumption) _ _ _)))))))))))))))); (case zc => exact rfl); (case zd => exact rfl)); intro i9ζ l9ζ; (try k_lt l9ζ))) | (((with_reducible show wpAny _ _ (call (Value.ref 372) _ _) _ _ _); (k_dflt show wpAny _ _ (call (Value.ref 372) [Value.ref _]) _ _ _); k_dflt (refine' take_any ?zb ?zf ?zx ?zt ?zhk ?zn ?zr ?zd ?zu ?zq1 ?_; (case zb => k_asm); (case zf => k_asm); (case zx => k_asm); (case zt => k_asm); (case zhk => first | exact rfl | assumption); (case zn => k_asm); (case zr => k_intsEnd); (case zd => ktr_room); (case zu => intro ta9ζ; k_upd); (case zq1 => first | assumption | exact isSomeW (by assumption)); k_whole); (all_goals intros); (all_goals (try k_sweep)))) | (((with_reducible show wpAny _ _ (exec (Stmt.For (Expr.Name _ _) (Expr.Name _ _) _ [] _) _) _ _ _); (rename Fr _ _ _ _ => lF'ζ); (with_unfolding_all refine' For_turns lF'ζ ?_; k_whole))) | (((with_reducible show wpAny _ _ (pyIter (Value.ref _)) (fun it s₂ => TurnsAt _ _ _ _ _ _ _ _ _ it s₂) _ _); (with_unfolding_all refine' iter_tupTurns ?zhh ?zf ?zn ?zm ?zc ?zd ?_; (case zhh => exact rfl); (case zf => k_asm); (case zn => k_asm); (case zm => first | exact List.Mem.head _ | exact List.Mem.tail _ (List.Mem.head _) | exact List.Mem.tail _ (List.Mem.tail _ (List.Mem.head _)) | exact List.Mem.tail _ (List.Mem.tail _ (List.Mem.tail _ (List.Mem.head _))) | exact List.Mem.tail _ (List.Mem.tail _ (List.Mem.tail _ (List.Mem.tail _ (List.Mem.head _)))) | exact List.Mem.tail _ (List.Mem.tail _ (List.Mem.tail _ (List.Mem.tail _ (List.Mem.tail _ (List.Mem.head _))))) | exact List.Mem.tail _ (List.Mem.tail _ (List.Mem.tail _ (List.Mem.tail _ (List.Mem.tail _ (List.Mem.tail _ (List.Mem.head _)))))) | exact List.Mem.tail _ (List.Mem.tail _ (List.Mem.tail _ (List.Mem.tail _ (List.Mem.tail _ (List.Mem.tail _ (List.Mem.tail _ (List.Mem.head _))))))) | exact List.Mem.tail _ (List.Mem.tail _ (List.Mem.tail _ (List.Mem.tail _ (List.Mem.tail _ (List.Mem.tail _ (List.Mem.tail _ (List.Mem.tail _ (List.Mem.head _)))))))) | exact List.Mem.tail _ (List.Mem.tail _ (List.Mem.tail _ (List.Mem.tail _ (List.Mem.tail _ (List.Mem.tail _ (List.Mem.tail _ (List.Mem.tail _ (List.Mem.tail _ (List.Mem.head _)))))))))); (case zc => exact rfl); (case zd => exact rfl)); intro i9ζ l9ζ; (try k_lt l9ζ))) | (((with_reducible show wpAny _ _ (call (Value.ref 258) [Value.ref _, _]) _ _ _); k_dflt (refine' open_inv ?zb ?zf ?zx ?zt ?zhk ?zn ?zr ?zd ?_ ?_ ?_; (case zb => k_asm); (case zf => k_asm); (case zx => k_asm); (case zt => k_asm); (case zhk => first | exact rfl | assumption); (case zn => k_asm); (case zr => k_intsEnd); (case zd => ktr_room); k_whole); (all_goals intros); (all_goals (try k_sweep)))) | (((with_reducible show wpAny _ _ (call (Value.ref 258) [Value.ref _, _]) _ _ _); k_dflt (refine' open_not ?zb ?zf ?zx ?zt ?zhk ?zn ?zr ?zd ?_ ?_ ?_ ?_; (case zb => k_asm); (case zf => k_asm); (case zx => k_asm); (case zt => k_asm); (case zhk => first | exact rfl | assumption); (case zn => k_asm); (case zr => k_intsEnd); (case zd => ktr_room); k_whole); (all_goals intros); (all_goals (try k_sweep)))) | (((with_reducible show wpAny _ _ (exec (Stmt.For _ _ _ [] _) _) _ _ _); k_strName; (rename Fr _ _ _ _ => lF'ζ); (with_unfolding_all refine' For_invVF lF'ζ ?zk1 ?zk2 ?_; (case zk1 => exact rfl); (case zk2 => exact rfl); k_whole))) | ((with_reducible show UnrEnd _ _ _ _ _ _ _); ((refine' UnrEnd.intro ?zf ?zn _ (fun _ hp => hp) ?zo ?_; (case zf => k_asm); (case zn => k_asm); (case zo => k_all)))) | ((with_reducible show wpAny _ _ (leaving _ (Value.ref _)) _ _ _); ((first
  | (refine' leave_raiseD3 ?zk1 ?zk2 ?zk3 ?zk4 ?zk5 ?zk6 ?_; (case zk1 => assumption); (case zk2 => k_asm); (case zk3 => k_asm); (case zk4 => assumption); (case zk5 => assumption); (case zk6 => assumption); intro h'ζ R'ζ U'ζ; (try dsimp only at R'ζ U'ζ ⊢))
  | (refine' leave_onD ?zk1 ?zk2 ?zk3 ?zk4 ?_; (case zk3 => assumption); (case zk1 => assumption); (case zk4 => assumption); (case zk2 => assumption); intro h'ζ R'ζ U'ζ; (try dsimp only at R'ζ U'ζ ⊢))))) | ((with_reducible show UnrEnd _ _ _ _ _ _ _); (first
  | (refine' UnrEnd.intro ?zf ?zn _ (fun _ hp => hp) ?zo ⟨?zm, ?_⟩; (case zf => k_asm); (case zn => k_asm); (case zo => first | exact off_allLt (by assumption) | (intro p9ζ hp9ζ; exact Nat.ne_of_lt ((by assumption : ∀ p ∈ _, p.1 < _) p9ζ hp9ζ))); (case zm => first | exact List.Mem.head _ | exact List.Mem.tail _ (List.Mem.head _)))
  | (refine' UnrEnd.intro ?zf ?zn _ (fun _ hp => hp) ?zo ?_; (case zf => k_asm); (case zn => k_asm); (case zo => first | exact off_allLt (by assumption) | (intro p9ζ hp9ζ; exact Nat.ne_of_lt ((by assumption : ∀ p ∈ _, p.1 < _) p9ζ hp9ζ)))))) | ((with_reducible show UnrEnd _ _ _ _ _ _ _); ((refine' UnrEnd.intro ?zf ?zn _ (fun _ hp => hp) ?zo ⟨?zm, ?_⟩; (case zf => k_asm); (case zn => k_asm); (case zo => intro p9ζ hp9ζ; exact Nat.ne_of_lt ((by assumption : ∀ p ∈ _, p.1 < _) p9ζ hp9ζ)); (case zm => first | exact List.Mem.head _ | exact List.Mem.tail _ (List.Mem.head _))))) | (k_unfold; (try dsimp only)) | (k_end; kc_close) | walk1 | (dsimp only; walk1) | (leave1; (try dsimp only)))
    all_goals first
      | exact hraise _ (hbr.trans (nb_2 (by assumption) (by assumption) (by assumption) (by assumption))) _ _ _ _ _ _ _ _ _ _ _ (by assumption) (by k_asm) (RaisedD.less (by assumption) (sub_keep (sub_skip (sub_skip (sub' _ _ _))))) (by assumption)
      | exact hraise _ (hbr.trans (nb_3 (by assumption) (by assumption) (by assumption) (by assumption))) _ _ _ _ _ _ _ _ _ _ _ (by assumption) (by k_asm) (RaisedD.less (by assumption) (sub_keep (sub_skip (sub_skip (sub' _ _ _))))) (by assumption)
      | (refine And.left (hQ1 _ ?_); refine unrEndB0 (by k_asm) (by k_asm) (by k_ne) (by k_all) ⟨⟨List.Mem.tail _ (hkeys' _ _ _), trivial⟩, ?_⟩)
      | (refine And.left (hQ1 _ ?_); refine unrEndB3 (by k_asm) (by k_asm) (by k_ne) (by k_ne) (by k_ne) (by k_ne) (by k_all) ⟨⟨List.Mem.tail _ (app_sub _ _ _ _ (hkeys' _ _ _)), trivial⟩, ?_⟩)
    all_goals (try simp only [app, List.cons_append, List.nil_append])
    all_goals rcases vs with _ | ⟨v0, _ | ⟨v1, vr⟩⟩
    all_goals first | (exfalso; simp only [List.length_cons] at hlen; omega) | skip
    all_goals repeat' (first | (((with_reducible show wpAny _ _ (call (Value.ref 265) [Value.ref _, _]) _ _ _); k_dflt (refine' body_any ?zb ?zf ?zx ?zt ?zhk (Hole.cons (Hole.cons ?zhH ?zna0 ?znb0) ?zna1 ?znb1) ?zhp ?zn ?zwu ?zwhd ?zwcc ?zws ?_ ?_; (case zb => k_asm); (case zf => k_asm); (case zx => k_asm); (case zt => k_asm); (case zhk => first | exact rfl | assumption); (case zhH => assumption); (case zn => k_asm); (case zna0 => first | assumption | exact Hole.ne (by assumption) (by first | assumption | exact allLt_all (by assumption) | exact allLt_all (And.right (by assumption)) | exact allLt_all (And.right (And.right (by assumption))) | exact allLt_all (And.right (And.right (And.right (by assumption)))) | exact allLt_all (And.right (And.right (And.right (And.right (by assumption))))) | exact allLt_all (And.right (And.right (And.right (And.right (And.right (by assumption)))))) | exact allLt_all (And.right (And.right (And.right (And.right (And.right (And.right (by assumption))))))) | exact allLt_all (And.right (And.right (And.right (And.right (And.right (And.right (And.right (by assumption)))))))) | exact allLt_all (And.right (And.right (And.right (And.right (And.right (And.right (And.right (And.right (by assumption))))))))) | exact ltSucc (by assumption) | exact ltLt (by assumption) (by assumption) | exact ltTail (by assumption) | exact ltTail (ltTail (by assumption)) | exact ltTail (ltTail (ltTail (by assumption))) | exact ltTail (ltTail (ltTail (ltTail (by assumption)))) | exact ltTail (ltTail (ltTail (ltTail (ltTail (by assumption))))) | exact ltLt (ltLt (by assumption) (by assumption)) (by assumption) | exact ltLt (ltTail (ltTail (by assumption))) (by assumption) | exact ltLt (ltLt (ltTail (ltTail (by assumption))) (by assumption)) (by assumption))); (case znb0 => first | assumption | exact Hole.neT (by assumption) (by first | assumption | exact allLt_all (by assumption) | exact allLt_all (And.right (by assumption)) | exact allLt_all (And.right (And.right (by assumption))) | exact allLt_all (And.right (And.right (And.right (by assumption)))) | exact allLt_all (And.right (And.right (And.right (And.right (by assumption))))) | exact allLt_all (And.right (And.right (And.right (And.right (And.right (by assumption)))))) | exact allLt_all (And.right (And.right (And.right (And.right (And.right (And.right (by assumption))))))) | exact allLt_all (And.right (And.right (And.right (And.right (And.right (And.right (And.right (by assumption)))))))) | exact allLt_all (And.right (And.right (And.right (And.right (And.right (And.right (And.right (And.right (by assumption))))))))) | exact ltSucc (by assumption) | exact ltLt (by assumption) (by assumption) | exact ltTail (by assumption) | exact ltTail (ltTail (by assumption)) | exact ltTail (ltTail (ltTail (by assumption))) | exact ltTail (ltTail (ltTail (ltTail (by assumption)))) | exact ltTail (ltTail (ltTail (ltTail (ltTail (by assumption))))) | exact ltLt (ltLt (by assumption) (by assumption)) (by assumption) | exact ltLt (ltTail (ltTail (by assumption))) (by assumption) | exact ltLt (ltLt (ltTail (ltTail (by assumption))) (by assumption)) (by assumption))); (case zna1 => first | assumption | exact Hole.ne (by assumption) (by first | assumption | exact allLt_all (by assumption) | exact allLt_all (And.right (by assumption)) | exact allLt_all (And.right (And.right (by assumption))) | exact allLt_all (And.right (And.right (And.right (by assumption)))) | exact allLt_all (And.right (And.right (And.right (And.right (by assumption))))) | exact allLt_all (And.right (And.right (And.right (And.right (And.right (by assumption)))))) | exact allLt_all (And.right (And.right (And.right (And.right (And.right (And.right (by assumption))))))) | exact allLt_all (And.right (And.right (And.right (And.right (And.right (And.right (And.right (by assumption)))))))) | exact allLt_all (And.right (And.right (And.right (And.right (And.right (And.right (And.right (And.right (by assumption))))))))) | exact ltSucc (by assumption) | exact ltLt (by assumption) (by assumption) | exact ltTail (by assumption) | exact ltTail (ltTail (by assumption)) | exact ltTail (ltTail (ltTail (by assumption))) | exact ltTail (ltTail (ltTail (ltTail (by assumption)))) | exact ltTail (ltTail (ltTail (ltTail (ltTail (by assumption))))) | exact ltLt (ltLt (by assumption) (by assumption)) (by assumption) | exact ltLt (ltTail (ltTail (by assumption))) (by assumption) | exact ltLt (ltLt (ltTail (ltTail (by assumption))) (by assumption)) (by assumption))); (case znb1 => first | assumption | exact Hole.neT (by assumption) (by first | assumption | exact allLt_all (by assumption) | exact allLt_all (And.right (by assumption)) | exact allLt_all (And.right (And.right (by assumption))) | exact allLt_all (And.right (And.right (And.right (by assumption)))) | exact allLt_all (And.right (And.right (And.right (And.right (by assumption))))) | exact allLt_all (And.right (And.right (And.right (And.right (And.right (by assumption)))))) | exact allLt_all (And.right (And.right (And.right (And.right (And.right (And.right (by assumption))))))) | exact allLt_all (And.right (And.right (And.right (And.right (And.right (And.right (And.right (by assumption)))))))) | exact allLt_all (And.right (And.right (And.right (And.right (And.right (And.right (And.right (And.right (by assumption))))))))) | exact ltSucc (by assumption) | exact ltLt (by assumption) (by assumption) | exact ltTail (by assumption) | exact ltTail (ltTail (by assumption)) | exact ltTail (ltTail (ltTail (by assumption))) | exact ltTail (ltTail (ltTail (ltTail (by assumption)))) | exact ltTail (ltTail (ltTail (ltTail (ltTail (by assumption))))) | exact ltLt (ltLt (by assumption) (by assumption)) (by assumption) | exact ltLt (ltTail (ltTail (by assumption))) (by assumption) | exact ltLt (ltLt (ltTail (ltTail (by assumption))) (by assumption)) (by assumption))); (case zhp => first | assumption | omega); (case zwu => (dsimp only [ktrTop, Around.deeper]; omega)); (case zwhd => ktr_room); (case zwcc => exact (by assumption : NoCC _) _); (case zws => first | assumption | exact nextTok (by assumption) (by assumption) (by decide +kernel)); k_whole); (all_goals (first | (intro hb9ζ q9ζ q29ζ t9ζ ta9ζ h9ζ k9ζ F9ζ N9ζ l9ζ l29ζ l39ζ; k_lt l9ζ; k_lt l39ζ) | skip)); (all_goals intros); (all_goals (try k_sweep)))) | (((with_reducible show wpAny _ _ (pyIter (Value.ref _)) (fun it s₂ => TurnsAt _ _ _ _ _ _ _ _ _ it s₂) _ _); (with_unfolding_all refine' iter_tupTurns ?zhh ?zf ?zn ?zm ?zc ?zd ?_; (case zhh => exact rfl); (case zf => k_asm); (case zn => k_asm); (case zm => first | exact inAll (by assumption) _ _ _ | exact List.Mem.tail _ (inAll (by assumption) _ _ _) | exact List.Mem.tail _ (List.Mem.tail _ (inAll (by assumption) _ _ _)) | exact List.Mem.tail _ (List.Mem.tail _ (List.Mem.tail _ (inAll (by assumption) _ _ _))) | exact List.Mem.tail _ (List.Mem.tail _ (List.Mem.tail _ (List.Mem.tail _ (inAll (by assumption) _ _ _)))) | exact List.Mem.tail _ (List.Mem.tail _ (List.Mem.tail _ (List.Mem.tail _ (List.Mem.tail _ (inAll (by assumption) _ _ _))))) | exact List.Mem.tail _ (List.Mem.tail _ (List.Mem.tail _ (List.Mem.tail _ (List.Mem.tail _ (List.Mem.tail _ (inAll (by assumption) _ _ _)))))) | exact List.Mem.tail _ (List.Mem.tail _ (List.Mem.tail _ (List.Mem.tail _ (List.Mem.tail _ (List.Mem.tail _ (List.Mem.tail _ (inAll (by assumption) _ _ _))))))) | exact List.Mem.tail _ (List.Mem.tail _ (List.Mem.tail _ (List.Mem.tail _ (List.Mem.tail _ (List.Mem.tail _ (List.Mem.tail _ (List.Mem.tail _ (inAll (by assumption) _ _ _)))))))) | exact List.Mem.tail _ (List.Mem.tail _ (List.Mem.tail _ (List.Mem.tail _ (List.Mem.tail _ (List.Mem.tail _ (List.Mem.tail _ (List.Mem.tail _ (List.Mem.tail _ (inAll (by assumption) _ _ _))))))))) | exact List.Mem.tail _ (List.Mem.tail _ (List.Mem.tail _ (List.Mem.tail _ (List.Mem.tail _ (List.Mem.tail _ (List.Mem.tail _ (List.Mem.tail _ (List.Mem.tail _ (List.Mem.tail _ (inAll (by assumption) _ _ _)))))))))) | exact List.Mem.tail _ (List.Mem.tail _ (List.Mem.tail _ (List.Mem.tail _ (List.Mem.tail _ (List.Mem.tail _ (List.Mem.tail _ (List.Mem.tail _ (List.Mem.tail _ (List.Mem.tail _ (List.Mem.tail _ (inAll (by assumption) _ _ _))))))))))) | exact List.Mem.tail _ (List.Mem.tail _ (List.Mem.tail _ (List.Mem.tail _ (List.Mem.tail _ (List.Mem.tail _ (List.Mem.tail _ (List.Mem.tail _ (List.Mem.tail _ (List.Mem.tail _ (List.Mem.tail _ (List.Mem.tail _ (inAll (by assumption) _ _ _)))))))))))) | exact List.Mem.tail _ (List.Mem.tail _ (List.Mem.tail _ (List.Mem.tail _ (List.Mem.tail _ (List.Mem.tail _ (List.Mem.tail _ (List.Mem.tail _ (List.Mem.tail _ (List.Mem.tail _ (List.Mem.tail _ (List.Mem.tail _ (List.Mem.tail _ (inAll (by assumption) _ _ _))))))))))))) | exact List.Mem.tail _ (List.Mem.tail _ (List.Mem.tail _ (List.Mem.tail _ (List.Mem.tail _ (List.Mem.tail _ (List.Mem.tail _ (List.Mem.tail _ (List.Mem.tail _ (List.Mem.tail _ (List.Mem.tail _ (List.Mem.tail _ (List.Mem.tail _ (List.Mem.tail _ (inAll (by assumption) _ _ _)))))))))))))) | exact List.Mem.tail _ (List.Mem.tail _ (List.Mem.tail _ (List.Mem.tail _ (List.Mem.tail _ (List.Mem.tail _ (List.Mem.tail _ (List.Mem.tail _ (List.Mem.tail _ (List.Mem.tail _ (List.Mem.tail _ (List.Mem.tail _ (List.Mem.tail _ (List.Mem.tail _ (List.Mem.tail _ (inAll (by assumption) _ _ _)))))))))))))))); (case zc => exact rfl); (case zd => exact rfl)); intro i9ζ l9ζ; (try k_lt l9ζ))) | (((with_reducible show wpAny _ _ (call (Value.ref 372) _ _) _ _ _); (k_dflt show wpAny _ _ (call (Value.ref 372) [Value.ref _]) _ _ _); k_dflt (refine' take_any ?zb ?zf ?zx ?zt ?zhk ?zn ?zr ?zd ?zu ?zq1 ?_; (case zb => k_asm); (case zf => k_asm); (case zx => k_asm); (case zt => k_asm); (case zhk => first | exact rfl | assumption); (case zn => k_asm); (case zr => k_intsEnd); (case zd => ktr_room); (case zu => intro ta9ζ; k_upd); (case zq1 => first | assumption | exact isSomeW (by assumption)); k_whole); (all_goals intros); (all_goals (try k_sweep)))) | (((with_reducible show wpAny _ _ (exec (Stmt.For (Expr.Name _ _) (Expr.Name _ _) _ [] _) _) _ _ _); (rename Fr _ _ _ _ => lF'ζ); (with_unfolding_all refine' For_turns lF'ζ ?_; k_whole))) | (((with_reducible show wpAny _ _ (pyIter (Value.ref _)) (fun it s₂ => TurnsAt _ _ _ _ _ _ _ _ _ it s₂) _ _); (with_unfolding_all refine' iter_tupTurns ?zhh ?zf ?zn ?zm ?zc ?zd ?_; (case zhh => exact rfl); (case zf => k_asm); (case zn => k_asm); (case zm => first | exact List.Mem.head _ | exact List.Mem.tail _ (List.Mem.head _) | exact List.Mem.tail _ (List.Mem.tail _ (List.Mem.head _)) | exact List.Mem.tail _ (List.Mem.tail _ (List.Mem.tail _ (List.Mem.head _))) | exact List.Mem.tail _ (List.Mem.tail _ (List.Mem.tail _ (List.Mem.tail _ (List.Mem.head _)))) | exact List.Mem.tail _ (List.Mem.tail _ (List.Mem.tail _ (List.Mem.tail _ (List.Mem.tail _ (List.Mem.head _))))) | exact List.Mem.tail _ (List.Mem.tail _ (List.Mem.tail _ (List.Mem.tail _ (List.Mem.tail _ (List.Mem.tail _ (List.Mem.head _)))))) | exact List.Mem.tail _ (List.Mem.tail _ (List.Mem.tail _ (List.Mem.tail _ (List.Mem.tail _ (List.Mem.tail _ (List.Mem.tail _ (List.Mem.head _))))))) | exact List.Mem.tail _ (List.Mem.tail _ (List.Mem.tail _ (List.Mem.tail _ (List.Mem.tail _ (List.Mem.tail _ (List.Mem.tail _ (List.Mem.tail _ (List.Mem.head _)))))))) | exact List.Mem.tail _ (List.Mem.tail _ (List.Mem.tail _ (List.Mem.tail _ (List.Mem.tail _ (List.Mem.tail _ (List.Mem.tail _ (List.Mem.tail _ (List.Mem.tail _ (List.Mem.head _)))))))))); (case zc => exact rfl); (case zd => exact rfl)); intro i9ζ l9ζ; (try k_lt l9ζ))) | (((with_reducible show wpAny _ _ (call (Value.ref 258) [Value.ref _, _]) _ _ _); k_dflt (refine' open_inv ?zb ?zf ?zx ?zt ?zhk ?zn ?zr ?zd ?_ ?_ ?_; (case zb => k_asm); (case zf => k_asm); (case zx => k_asm); (case zt => k_asm); (case zhk => first | exact rfl | assumption); (case zn => k_asm); (case zr => k_intsEnd); (case zd => ktr_room); k_whole); (all_goals intros); (all_goals (try k_sweep)))) | (((with_reducible show wpAny _ _ (call (Value.ref 258) [Value.ref _, _]) _ _ _); k_dflt (refine' open_not ?zb ?zf ?zx ?zt ?zhk ?zn ?zr ?zd ?_ ?_ ?_ ?_; (case zb => k_asm); (case zf => k_asm); (case zx => k_asm); (case zt => k_asm); (case zhk => first | exact rfl | assumption); (case zn => k_asm); (case zr => k_intsEnd); (case zd => ktr_room); k_whole); (all_goals intros); (all_goals (try k_sweep)))) | (((with_reducible show wpAny _ _ (exec (Stmt.For _ _ _ [] _) _) _ _ _); k_strName; (rename Fr _ _ _ _ => lF'ζ); (with_unfolding_all refine' For_invVF lF'ζ ?zk1 ?zk2 ?_; (case zk1 => exact rfl); (case zk2 => exact rfl); k_whole))) | ((with_reducible show UnrEnd _ _ _ _ _ _ _); ((refine' UnrEnd.intro ?zf ?zn _ (fun _ hp => hp) ?zo ?_; (case zf => k_asm); (case zn => k_asm); (case zo => k_all)))) | ((with_reducible show wpAny _ _ (leaving _ (Value.ref _)) _ _ _); ((first
  | (refine' leave_raiseD3 ?zk1 ?zk2 ?zk3 ?zk4 ?zk5 ?zk6 ?_; (case zk1 => assumption); (case zk2 => k_asm); (case zk3 => k_asm); (case zk4 => assumption); (case zk5 => assumption); (case zk6 => assumption); intro h'ζ R'ζ U'ζ; (try dsimp only at R'ζ U'ζ ⊢))
  | (refine' leave_onD ?zk1 ?zk2 ?zk3 ?zk4 ?_; (case zk3 => assumption); (case zk1 => assumption); (case zk4 => assumption); (case zk2 => assumption); intro h'ζ R'ζ U'ζ; (try dsimp only at R'ζ U'ζ ⊢))))) | ((with_reducible show UnrEnd _ _ _ _ _ _ _); (first
  | (refine' UnrEnd.intro ?zf ?zn _ (fun _ hp => hp) ?zo ⟨?zm, ?_⟩; (case zf => k_asm); (case zn => k_asm); (case zo => first | exact off_allLt (by assumption) | (intro p9ζ hp9ζ; exact Nat.ne_of_lt ((by assumption : ∀ p ∈ _, p.1 < _) p9ζ hp9ζ))); (case zm => first | exact List.Mem.head _ | exact List.Mem.tail _ (List.Mem.head _)))
  | (refine' UnrEnd.intro ?zf ?zn _ (fun _ hp => hp) ?zo ?_; (case zf => k_asm); (case zn => k_asm); (case zo => first | exact off_allLt (by assumption) | (intro p9ζ hp9ζ; exact Nat.ne_of_lt ((by assumption : ∀ p ∈ _, p.1 < _) p9ζ hp9ζ)))))) | ((with_reducible show UnrEnd _ _ _ _ _ _ _); ((refine' UnrEnd.intro ?zf ?zn _ (fun _ hp => hp) ?zo ⟨?zm, ?_⟩; (case zf => k_asm); (case zn => k_asm); (case zo => intro p9ζ hp9ζ; exact Nat.ne_of_lt ((by assumption : ∀ p ∈ _, p.1 < _) p9ζ hp9ζ)); (case zm => first | exact List.Mem.head _ | exact List.Mem.tail _ (List.Mem.head _))))) | (k_unfold; (try dsimp only)) | (k_end; kc_close) | walk1 | (dsimp only; walk1) | (leave1; (try dsimp only)))
    all_goals first
      | (refine hret _ _ (hbr.trans (nt_0 (by assumption))) _ (app [_, _] W') _ _ _ (H'.app ?_) (fun p t o x hx => app_sub p t o x (sub' p t o x hx)) (fun pos ta o => DatIn.tuple (.head _) ((D' pos ta o).mono (app_sub pos ta o))) (by k_asm) (by assumption : News h₀ L _ (_ :: _ :: W' _ _ _)); (repeat (first | exact off_nil | refine off_cons (by first | assumption | exact Hole.ne (by assumption) (by first | assumption | exact allLt_all (by assumption) | exact allLt_all (And.right (by assumption)) | exact allLt_all (And.right (And.right (by assumption))) | exact allLt_all (And.right (And.right (And.right (by assumption)))) | exact allLt_all (And.right (And.right (And.right (And.right (by assumption))))) | exact allLt_all (And.right (And.right (And.right (And.right (And.right (by assumption)))))) | exact allLt_all (And.right (And.right (And.right (And.right (And.right (And.right (by assumption))))))) | exact allLt_all (And.right (And.right (And.right (And.right (And.right (And.right (And.right (by assumption)))))))) | exact allLt_all (And.right (And.right (And.right (And.right (And.right (And.right (And.right (And.right (by assumption))))))))) | exact ltSucc (by assumption) | exact ltLt (by assumption) (by assumption) | exact ltTail (by assumption) | exact ltTail (ltTail (by assumption)) | exact ltTail (ltTail (ltTail (by assumption))) | exact ltTail (ltTail (ltTail (ltTail (by assumption)))) | exact ltTail (ltTail (ltTail (ltTail (ltTail (by assumption))))) | exact ltLt (ltLt (by assumption) (by assumption)) (by assumption) | exact ltLt (ltTail (ltTail (by assumption))) (by assumption) | exact ltLt (ltLt (ltTail (ltTail (by assumption))) (by assumption)) (by assumption))) (by first | assumption | exact Hole.neT (by assumption) (by first | assumption | exact allLt_all (by assumption) | exact allLt_all (And.right (by assumption)) | exact allLt_all (And.right (And.right (by assumption))) | exact allLt_all (And.right (And.right (And.right (by assumption)))) | exact allLt_all (And.right (And.right (And.right (And.right (by assumption))))) | exact allLt_all (And.right (And.right (And.right (And.right (And.right (by assumption)))))) | exact allLt_all (And.right (And.right (And.right (And.right (And.right (And.right (by assumption))))))) | exact allLt_all (And.right (And.right (And.right (And.right (And.right (And.right (And.right (by assumption)))))))) | exact allLt_all (And.right (And.right (And.right (And.right (And.right (And.right (And.right (And.right (by assumption))))))))) | exact ltSucc (by assumption) | exact ltLt (by assumption) (by assumption) | exact ltTail (by assumption) | exact ltTail (ltTail (by assumption)) | exact ltTail (ltTail (ltTail (by assumption))) | exact ltTail (ltTail (ltTail (ltTail (by assumption)))) | exact ltTail (ltTail (ltTail (ltTail (ltTail (by assumption))))) | exact ltLt (ltLt (by assumption) (by assumption)) (by assumption) | exact ltLt (ltTail (ltTail (by assumption))) (by assumption) | exact ltLt (ltLt (ltTail (ltTail (by assumption))) (by assumption)) (by assumption))) ?_)))
      | (refine hret _ _ (hbr.trans (nt_1 (by assumption) (by assumption))) _ (app [_, _] W') _ _ _ (H'.app ?_) (fun p t o x hx => app_sub p t o x (sub' p t o x hx)) (fun pos ta o => DatIn.tuple (.head _) ((D' pos ta o).mono (app_sub pos ta o))) (by k_asm) (by assumption : News h₀ L _ (_ :: _ :: W' _ _ _)); (repeat (first | exact off_nil | refine off_cons (by first | assumption | exact Hole.ne (by assumption) (by first | assumption | exact allLt_all (by assumption) | exact allLt_all (And.right (by assumption)) | exact allLt_all (And.right (And.right (by assumption))) | exact allLt_all (And.right (And.right (And.right (by assumption)))) | exact allLt_all (And.right (And.right (And.right (And.right (by assumption))))) | exact allLt_all (And.right (And.right (And.right (And.right (And.right (by assumption)))))) | exact allLt_all (And.right (And.right (And.right (And.right (And.right (And.right (by assumption))))))) | exact allLt_all (And.right (And.right (And.right (And.right (And.right (And.right (And.right (by assumption)))))))) | exact allLt_all (And.right (And.right (And.right (And.right (And.right (And.right (And.right (And.right (by assumption))))))))) | exact ltSucc (by assumption) | exact ltLt (by assumption) (by assumption) | exact ltTail (by assumption) | exact ltTail (ltTail (by assumption)) | exact ltTail (ltTail (ltTail (by assumption))) | exact ltTail (ltTail (ltTail (ltTail (by assumption)))) | exact ltTail (ltTail (ltTail (ltTail (ltTail (by assumption))))) | exact ltLt (ltLt (by assumption) (by assumption)) (by assumption) | exact ltLt (ltTail (ltTail (by assumption))) (by assumption) | exact ltLt (ltLt (ltTail (ltTail (by assumption))) (by assumption)) (by assumption))) (by first | assumption | exact Hole.neT (by assumption) (by first | assumption | exact allLt_all (by assumption) | exact allLt_all (And.right (by assumption)) | exact allLt_all (And.right (And.right (by assumption))) | exact allLt_all (And.right (And.right (And.right (by assumption)))) | exact allLt_all (And.right (And.right (And.right (And.right (by assumption))))) | exact allLt_all (And.right (And.right (And.right (And.right (And.right (by assumption)))))) | exact allLt_all (And.right (And.right (And.right (And.right (And.right (And.right (by assumption))))))) | exact allLt_all (And.right (And.right (And.right (And.right (And.right (And.right (And.right (by assumption)))))))) | exact allLt_all (And.right (And.right (And.right (And.right (And.right (And.right (And.right (And.right (by assumption))))))))) | exact ltSucc (by assumption) | exact ltLt (by assumption) (by assumption) | exact ltTail (by assumption) | exact ltTail (ltTail (by assumption)) | exact ltTail (ltTail (ltTail (by assumption))) | exact ltTail (ltTail (ltTail (ltTail (by assumption)))) | exact ltTail (ltTail (ltTail (ltTail (ltTail (by assumption))))) | exact ltLt (ltLt (by assumption) (by assumption)) (by assumption) | exact ltLt (ltTail (ltTail (by assumption))) (by assumption) | exact ltLt (ltLt (ltTail (ltTail (by assumption))) (by assumption)) (by assumption))) ?_)))
      | (refine hret _ _ (hbr.trans (nt_2 (by assumption) (by assumption) (by assumption) (by assumption))) _ (app [_, _, _, _, _] W') _ _ _ (H'.app ?_) (fun p t o x hx => app_sub p t o x (sub' p t o x hx)) (fun pos ta o => DatIn.tuple (.head _) (((D' pos ta o).mono (app_sub pos ta o)).append ?_)) (by k_asm) (by assumption : News h₀ L _ (_ :: _ :: _ :: _ :: _ :: W' _ _ _)) <;> first | ((repeat (first | exact off_nil | refine off_cons (by first | assumption | exact Hole.ne (by assumption) (by first | assumption | exact allLt_all (by assumption) | exact allLt_all (And.right (by assumption)) | exact allLt_all (And.right (And.right (by assumption))) | exact allLt_all (And.right (And.right (And.right (by assumption)))) | exact allLt_all (And.right (And.right (And.right (And.right (by assumption))))) | exact allLt_all (And.right (And.right (And.right (And.right (And.right (by assumption)))))) | exact allLt_all (And.right (And.right (And.right (And.right (And.right (And.right (by assumption))))))) | exact allLt_all (And.right (And.right (And.right (And.right (And.right (And.right (And.right (by assumption)))))))) | exact allLt_all (And.right (And.right (And.right (And.right (And.right (And.right (And.right (And.right (by assumption))))))))) | exact ltSucc (by assumption) | exact ltLt (by assumption) (by assumption) | exact ltTail (by assumption) | exact ltTail (ltTail (by assumption)) | exact ltTail (ltTail (ltTail (by assumption))) | exact ltTail (ltTail (ltTail (ltTail (by assumption)))) | exact ltTail (ltTail (ltTail (ltTail (ltTail (by assumption))))) | exact ltLt (ltLt (by assumption) (by assumption)) (by assumption) | exact ltLt (ltTail (ltTail (by assumption))) (by assumption) | exact ltLt (ltLt (ltTail (ltTail (by assumption))) (by assumption)) (by assumption))) (by first | assumption | exact Hole.neT (by assumption) (by first | assumption | exact allLt_all (by assumption) | exact allLt_all (And.right (by assumption)) | exact allLt_all (And.right (And.right (by assumption))) | exact allLt_all (And.right (And.right (And.right (by assumption)))) | exact allLt_all (And.right (And.right (And.right (And.right (by assumption))))) | exact allLt_all (And.right (And.right (And.right (And.right (And.right (by assumption)))))) | exact allLt_all (And.right (And.right (And.right (And.right (And.right (And.right (by assumption))))))) | exact allLt_all (And.right (And.right (And.right (And.right (And.right (And.right (And.right (by assumption)))))))) | exact allLt_all (And.right (And.right (And.right (And.right (And.right (And.right (And.right (And.right (by assumption))))))))) | exact ltSucc (by assumption) | exact ltLt (by assumption) (by assumption) | exact ltTail (by assumption) | exact ltTail (ltTail (by assumption)) | exact ltTail (ltTail (ltTail (by assumption))) | exact ltTail (ltTail (ltTail (ltTail (by assumption)))) | exact ltTail (ltTail (ltTail (ltTail (ltTail (by assumption))))) | exact ltLt (ltLt (by assumption) (by assumption)) (by assumption) | exact ltLt (ltTail (ltTail (by assumption))) (by assumption) | exact ltLt (ltLt (ltTail (ltTail (by assumption))) (by assumption)) (by assumption))) ?_)); done) | ((repeat (first | assumption | exact DatAll.nil | (refine DatAll.cons ?_ ?_) | exact DatIn.str _ _ | exact DatIn.int _ _ | exact DatIn.none | exact DatIn.bool _ | refine DatIn.tuple (List.Mem.head _) ?_ | refine DatIn.tuple (List.Mem.tail _ (List.Mem.head _)) ?_ | refine DatIn.tuple (List.Mem.tail _ (List.Mem.tail _ (List.Mem.head _))) ?_ | refine DatIn.tuple (List.Mem.tail _ (List.Mem.tail _ (List.Mem.tail _ (List.Mem.head _)))) ?_ | refine DatIn.tuple (List.Mem.tail _ (List.Mem.tail _ (List.Mem.tail _ (List.Mem.tail _ (List.Mem.head _))))) ?_ | refine DatIn.tuple (List.Mem.tail _ (List.Mem.tail _ (List.Mem.tail _ (List.Mem.tail _ (List.Mem.tail _ (List.Mem.head _)))))) ?_ | refine DatIn.tuple (List.Mem.tail _ (List.Mem.tail _ (List.Mem.tail _ (List.Mem.tail _ (List.Mem.tail _ (List.Mem.tail _ (List.Mem.head _))))))) ?_ | refine DatIn.tuple (List.Mem.tail _ (List.Mem.tail _ (List.Mem.tail _ (List.Mem.tail _ (List.Mem.tail _ (List.Mem.tail _ (List.Mem.tail _ (List.Mem.head _)))))))) ?_ | exact dat_sub (by assumption) (by assumption))); done))
      | (refine hret _ _ (hbr.trans (nt_3 (by assumption) (by assumption) (by assumption) (by assumption))) _ (app [_, _, _, _, _] W') _ _ _ (H'.app ?_) (fun p t o x hx => app_sub p t o x (sub' p t o x hx)) (fun pos ta o => DatIn.tuple (.head _) (((D' pos ta o).mono (app_sub pos ta o)).append ?_)) (by k_asm) (by assumption : News h₀ L _ (_ :: _ :: _ :: _ :: _ :: W' _ _ _)) <;> first | ((repeat (first | exact off_nil | refine off_cons (by first | assumption | exact Hole.ne (by assumption) (by first | assumption | exact allLt_all (by assumption) | exact allLt_all (And.right (by assumption)) | exact allLt_all (And.right (And.right (by assumption))) | exact allLt_all (And.right (And.right (And.right (by assumption)))) | exact allLt_all (And.right (And.right (And.right (And.right (by assumption))))) | exact allLt_all (And.right (And.right (And.right (And.right (And.right (by assumption)))))) | exact allLt_all (And.right (And.right (And.right (And.right (And.right (And.right (by assumption))))))) | exact allLt_all (And.right (And.right (And.right (And.right (And.right (And.right (And.right (by assumption)))))))) | exact allLt_all (And.right (And.right (And.right (And.right (And.right (And.right (And.right (And.right (by assumption))))))))) | exact ltSucc (by assumption) | exact ltLt (by assumption) (by assumption) | exact ltTail (by assumption) | exact ltTail (ltTail (by assumption)) | exact ltTail (ltTail (ltTail (by assumption))) | exact ltTail (ltTail (ltTail (ltTail (by assumption)))) | exact ltTail (ltTail (ltTail (ltTail (ltTail (by assumption))))) | exact ltLt (ltLt (by assumption) (by assumption)) (by assumption) | exact ltLt (ltTail (ltTail (by assumption))) (by assumption) | exact ltLt (ltLt (ltTail (ltTail (by assumption))) (by assumption)) (by assumption))) (by first | assumption | exact Hole.neT (by assumption) (by first | assumption | exact allLt_all (by assumption) | exact allLt_all (And.right (by assumption)) | exact allLt_all (And.right (And.right (by assumption))) | exact allLt_all (And.right (And.right (And.right (by assumption)))) | exact allLt_all (And.right (And.right (And.right (And.right (by assumption))))) | exact allLt_all (And.right (And.right (And.right (And.right (And.right (by assumption)))))) | exact allLt_all (And.right (And.right (And.right (And.right (And.right (And.right (by assumption))))))) | exact allLt_all (And.right (And.right (And.right (And.right (And.right (And.right (And.right (by assumption)))))))) | exact allLt_all (And.right (And.right (And.right (And.right (And.right (And.right (And.right (And.right (by assumption))))))))) | exact ltSucc (by assumption) | exact ltLt (by assumption) (by assumption) | exact ltTail (by assumption) | exact ltTail (ltTail (by assumption)) | exact ltTail (ltTail (ltTail (by assumption))) | exact ltTail (ltTail (ltTail (ltTail (by assumption)))) | exact ltTail (ltTail (ltTail (ltTail (ltTail (by assumption))))) | exact ltLt (ltLt (by assumption) (by assumption)) (by assumption) | exact ltLt (ltTail (ltTail (by assumption))) (by assumption) | exact ltLt (ltLt (ltTail (ltTail (by assumption))) (by assumption)) (by assumption))) ?_)); done) | ((repeat (first | assumption | exact DatAll.nil | (refine DatAll.cons ?_ ?_) | exact DatIn.str _ _ | exact DatIn.int _ _ | exact DatIn.none | exact DatIn.bool _ | refine DatIn.tuple (List.Mem.head _) ?_ | refine DatIn.tuple (List.Mem.tail _ (List.Mem.head _)) ?_ | refine DatIn.tuple (List.Mem.tail _ (List.Mem.tail _ (List.Mem.head _))) ?_ | refine DatIn.tuple (List.Mem.tail _ (List.Mem.tail _ (List.Mem.tail _ (List.Mem.head _)))) ?_ | refine DatIn.tuple (List.Mem.tail _ (List.Mem.tail _ (List.Mem.tail _ (List.Mem.tail _ (List.Mem.head _))))) ?_ | refine DatIn.tuple (List.Mem.tail _ (List.Mem.tail _ (List.Mem.tail _ (List.Mem.tail _ (List.Mem.tail _ (List.Mem.head _)))))) ?_ | refine DatIn.tuple (List.Mem.tail _ (List.Mem.tail _ (List.Mem.tail _ (List.Mem.tail _ (List.Mem.tail _ (List.Mem.tail _ (List.Mem.head _))))))) ?_ | refine DatIn.tuple (List.Mem.tail _ (List.Mem.tail _ (List.Mem.tail _ (List.Mem.tail _ (List.Mem.tail _ (List.Mem.tail _ (List.Mem.tail _ (List.Mem.head _)))))))) ?_ | exact dat_sub (by assumption) (by assumption))); done))
end
-- C25
abbrev wOF : Str := ⟨#[79, 70]⟩
abbrev wIN : Str := ⟨#[73, 78]⟩
def notResB (x : Str) : Bool := x == "F-A" || x == "A" || x == "B" || x == "C" || x == "T"
theorem notResB_is {x : Str} (h : notResB x = true) : NotRes x := by
  unfold notResB at h
  simp only [Bool.or_eq_true, beq_iff_eq] at h
  unfold NotRes
  rcases h with (((h | h) | h) | h) | h
  · exact .inl h
  · exact .inr (.inl h)
  · exact .inr (.inr (.inl h))
  · exact .inr (.inr (.inr (.inl h)))
  · exact .inr (.inr (.inr (.inr h)))
def nmOf (toks : List TR) (p : Int) : Option Str := match tokAt toks p 0 with
  | some t => if t.k == ("word" : Str) && notResB t.w then some t.w else none
  | none => none
def numOf (toks : List TR) (p : Int) : Bool := match tokAt toks p 0 with
  | some t => t.k == ("number" : Str) && t.w == ("2" : Str)
  | none => false
theorem nmOf_some {toks : List TR} {p : Int} {x : Str} (h : nmOf toks p = some x) : ∃ t, tokAt toks p 0 = some t ∧ t.k = "word" ∧ NotRes t.w ∧ t.w = x := by
  unfold nmOf at h
  split at h
  · rename_i t ht
    split at h
    · rename_i hc
      simp only [Bool.and_eq_true, beq_iff_eq] at hc
      exact ⟨t, ht, hc.1, notResB_is hc.2, Option.some.inj h⟩
    · cases h
  · cases h
theorem numOf_true {toks : List TR} {p : Int} (h : numOf toks p = true) : ∃ t, tokAt toks p 0 = some t ∧ t.k = "number" ∧ t.w = "2" := by
  unfold numOf at h
  split at h
  · rename_i t ht
    simp only [Bool.and_eq_true, beq_iff_eq] at h
    exact ⟨t, ht, h.1, h.2⟩
  · cases h
theorem isSign_true {toks : List TR} {p : Int} {sg : Str} (h : isSign toks p 0 sg = true) : ∃ t, tokAt toks p 0 = some t ∧ t.k = "sign" ∧ t.w = sg := by
  unfold isSign at h
  split at h
  · rename_i t ht
    simp only [Bool.and_eq_true, beq_iff_eq] at h
    exact ⟨t, ht, h.1, h.2⟩
  · cases h
abbrev dT2 : Dat := .tuple [.str "number", .tuple [.int 2, .int 0]]
def refW (nm : Int → Option Str) (wd sg : Int → Str → Bool) (num : Int → Bool) (p : Int) : Option (Dat × Int) :=
  match nm p with
  | none => none
  | some x =>
    if wd (p + 1) wOF then
      match nm (p + 1 + 1) with
      | none => none
      | some y => if wd (p + 1 + 1 + 1) wOF then none else if wd (p + 1 + 1 + 1) wIN then none else if sg (p + 1 + 1 + 1) "(" then none else some (dRef x [.str y] [], p + 1 + 1 + 1)
    else if wd (p + 1) wIN then
      match nm (p + 1 + 1) with
      | none => none
      | some y => if wd (p + 1 + 1 + 1) wOF then none else if wd (p + 1 + 1 + 1) wIN then none else if sg (p + 1 + 1 + 1) "(" then none else some (dRef x [.str y] [], p + 1 + 1 + 1)
    else if sg (p + 1) "(" then
      if num (p + 1 + 1) then if sg (p + 1 + 1 + 1) ")" then if sg (p + 1 + 1 + 1 + 1) "(" then none else some (dRef x [] [dT2], p + 1 + 1 + 1 + 1) else none else none
    else some (dRef x [] [], p + 1)
abbrev refOf (toks : List TR) (p : Int) : Option (Dat × Int) := refW (nmOf toks) (isWord toks) (fun p => isSign toks p 0) (numOf toks) p
section
variable {prog : Program} {w : World} {p : Program} {loose : List Str} {mean : ExcName → Option Value} {mg mb : Str → Option Value}
  {dp un : Nat} {gd : Option (List Code)} {cn : Str} {cs : Scope} {a : Addr} {ccd : Value} {cl : List (Str × Addr)} {outer : List Env} {A₀ : Around} {base h₀ : Heap} {L : Addr} {m : Str → Option Value} {s : Shared} {Q E : Value → Shared → Prop}
  {r : RR} {W : Int → Tok → Obj → List (Addr × Obj)} {pos : Int} {ta : Tok} {o : Obj} {ps : Array Value} {k : Int} {u : Tok}
variable (B : Below A₀ base outer h₀) (F : Fr h₀ L s.heap m) (X : (Mine.kMake.heap_1 w.params).In h₀) (T : Top p loose mean mg mb h₀) (hk : cs.kind = .function) (H : Hole w.params r W) (hp : 0 ≤ pos)
include B F X T hk H hp
theorem ref_any {d0 : Dat} {n0 : Int} (N : News h₀ L s.heap (W pos ta (tabObj ps))) (C : CodeHd base 236 232) (tb : TabOk ⟨174, 36, 174, 76⟩ ps) (hd : dp + 18 < recursionLimit) (hr : refOf r.toks pos = some (d0, n0))
    (hret : ∀ v W' h' tk' ta' ps', TabOk ⟨174, 36, 174, 76⟩ ps' → Hole w.params r W' → (∀ pos ta o, ∀ p ∈ W pos ta o, p ∈ W' pos ta o) → (∀ pos ta o, DatIn (W' pos ta o) v d0) → Fr h₀ L h' m → News h₀ L h' (W' n0 ta' (tabObj ps')) → Q v { s with heap := h', toks := tk' }) :
    wpAny (model prog w) (ktrTop dp un gd cn cs L a ccd cl outer) (call (.ref 50) [.ref r.x, .ref 188]) Q E s := by
  unfold refOf refW at hr
  split at hr
  · cases hr
  rename_i x hx
  obtain ⟨t, ht, hkw, hw, rfl⟩ := nmOf_some hx
  split at hr
  · rename_i g1
    split at hr
    · cases hr
    rename_i y hy
    obtain ⟨t2, ht2, hkw2, hw2, rfl⟩ := nmOf_some hy
    split at hr
    · cases hr
    split at hr
    · cases hr
    split at hr
    · cases hr
    rename_i h1 h2 h3
    cases hr
    exact ref_of B F X T hk H hp N tb hd ht hkw hw g1 ht2 hkw2 hw2 (by simpa using h1) (by simpa using h2) (by simpa using h3) hret
  rename_i g1
  split at hr
  · rename_i g2
    split at hr
    · cases hr
    rename_i y hy
    obtain ⟨t2, ht2, hkw2, hw2, rfl⟩ := nmOf_some hy
    split at hr
    · cases hr
    split at hr
    · cases hr
    split at hr
    · cases hr
    rename_i h1 h2 h3
    cases hr
    exact ref_in B F X T hk H hp N tb hd ht hkw hw (by simpa using g1) g2 ht2 hkw2 hw2 (by simpa using h1) (by simpa using h2) (by simpa using h3) hret
  rename_i g2
  split at hr
  · rename_i g3
    split at hr
    · rename_i g4
      split at hr
      · rename_i g5
        split at hr
        · cases hr
        rename_i h3
        cases hr
        obtain ⟨t0, ht0, hk0, hw0⟩ := isSign_true g3
        obtain ⟨t1, ht1, hk1, hw1⟩ := numOf_true g4
        obtain ⟨t2, ht2, hk2, hw2⟩ := isSign_true g5
        exact ref_sub B F X T hk H hp N C tb hd ht hkw hw ht0 hk0 hw0 ht1 hk1 hw1 ht2 hk2 hw2 (by simpa using h3) hret
      · cases hr
    · cases hr
  rename_i h3
  cases hr
  exact ref_plain B F X T hk H hp N tb hd ht hkw hw (by simpa using g1) (by simpa using g2) (by simpa using h3) hret
end
-- C26
inductive SR where
  | ok (d : Dat) (n : Int)
  | bad (n : Int)
  | no
def tailW (wd : Int → Str → Bool) (x rel : Str) (d : Dat) (p : Int) : SR := match brW wd p with
  | .ok bs n => if wd n "END-START" then SR.ok (.tuple [.str "start", .str x, .str rel, d, .tuple bs]) (n + 1) else SR.ok (.tuple [.str "start", .str x, .str rel, d, .tuple bs]) n
  | .bad n => SR.bad n
def keyW (nm : Int → Option Str) (wd sg : Int → Str → Bool) (num : Int → Bool) (x : Str) (q : Int) : SR := match keyRelW wd sg q with
  | .bad n => SR.bad n
  | .ok rel n => match refW nm wd sg num n with
    | none => SR.no
    | some (d, n') => tailW wd x rel d n'
def startW (nm : Int → Option Str) (wd sg : Int → Str → Bool) (num : Int → Bool) (p : Int) : SR := match nm (p + 1) with
  | none => SR.no
  | some x => if wd p "START" then (if wd (p + 1 + 1) "KEY" then (if wd (p + 1 + 1 + 1) "IS" then keyW nm wd sg num x (p + 1 + 1 + 1 + 1) else keyW nm wd sg num x (p + 1 + 1 + 1)) else tailW wd x "=" .none (p + 1 + 1)) else SR.no
abbrev startOf (toks : List TR) (p : Int) : SR := startW (nmOf toks) (isWord toks) (fun p => isSign toks p 0) (numOf toks) p
theorem tail_ok1 {toks : List TR} {x rel : Str} {d : Dat} {p n : Int} {bs : List Dat} (h : brOf toks p = .ok bs n) (he : isWord toks n "END-START" = true) : tailW (isWord toks) x rel d p = .ok (.tuple [.str "start", .str x, .str rel, d, .tuple bs]) (n + 1) := by
  unfold tailW; rw [show brW (isWord toks) p = _ from h]; simp only [he, if_true]
theorem tail_ok0 {toks : List TR} {x rel : Str} {d : Dat} {p n : Int} {bs : List Dat} (h : brOf toks p = .ok bs n) (he : isWord toks n "END-START" = false) : tailW (isWord toks) x rel d p = .ok (.tuple [.str "start", .str x, .str rel, d, .tuple bs]) n := by
  unfold tailW; rw [show brW (isWord toks) p = _ from h]; simp only [he, Bool.false_eq_true, if_false]
theorem tail_bad {toks : List TR} {x rel : Str} {d : Dat} {p n : Int} (h : brOf toks p = .bad n) : tailW (isWord toks) x rel d p = .bad n := by
  unfold tailW; rw [show brW (isWord toks) p = _ from h]
abbrev keyOf (toks : List TR) (x : Str) (q : Int) : SR := keyW (nmOf toks) (isWord toks) (fun p => isSign toks p 0) (numOf toks) x q
theorem key_bad {toks : List TR} {x : Str} {q n : Int} (h : keyRel toks q = .bad n) : keyOf toks x q = .bad n := by
  unfold keyOf keyW; rw [show keyRelW (isWord toks) (fun p => isSign toks p 0) q = _ from h]
theorem key_ok {toks : List TR} {x rel : Str} {q n n' : Int} {d : Dat} (h : keyRel toks q = .ok rel n) (hr : refOf toks n = some (d, n')) : keyOf toks x q = tailW (isWord toks) x rel d n' := by
  unfold keyOf keyW; rw [show keyRelW (isWord toks) (fun p => isSign toks p 0) q = _ from h]; dsimp only; rw [show refW (nmOf toks) (isWord toks) (fun p => isSign toks p 0) (numOf toks) n = _ from hr]
theorem start_no {toks : List TR} {x : Str} {p : Int} (hn : nmOf toks (p + 1) = some x) (h0 : isWord toks p "START" = true) (h1 : isWord toks (p + 1 + 1) "KEY" = false) : startOf toks p = tailW (isWord toks) x "=" .none (p + 1 + 1) := by
  unfold startOf startW; rw [hn]; simp only [h0, h1, Bool.false_eq_true, if_true, if_false]
theorem start_is {toks : List TR} {x : Str} {p : Int} (hn : nmOf toks (p + 1) = some x) (h0 : isWord toks p "START" = true) (h1 : isWord toks (p + 1 + 1) "KEY" = true) (h2 : isWord toks (p + 1 + 1 + 1) "IS" = true) : startOf toks p = keyOf toks x (p + 1 + 1 + 1 + 1) := by
  unfold startOf startW; rw [hn]; simp only [h0, h1, h2, if_true]
theorem start_key {toks : List TR} {x : Str} {p : Int} (hn : nmOf toks (p + 1) = some x) (h0 : isWord toks p "START" = true) (h1 : isWord toks (p + 1 + 1) "KEY" = true) (h2 : isWord toks (p + 1 + 1 + 1) "IS" = false) : startOf toks p = keyOf toks x (p + 1 + 1 + 1) := by
  unfold startOf startW; rw [hn]; simp only [h0, h1, h2, Bool.false_eq_true, if_true, if_false]
/-- where the words go on as they should, a name that can be read stands behind the relation -/
def RefOk (toks : List TR) (p : Int) : Prop := (isWord toks p "IS" = false → ∀ rel n, keyRel toks p = .ok rel n → (refOf toks n).isSome = true) ∧ (isWord toks p "IS" = true → ∀ rel n, keyRel toks (p + 1) = .ok rel n → (refOf toks n).isSome = true)
theorem some_pair {α β : Type} {x : Option (α × β)} (h : x.isSome = true) : ∃ a b, x = some (a, b) := by
  match x, h with
  | some (a, b), _ => exact ⟨a, b, rfl⟩
theorem refSome3 {toks : List TR} {p n : Int} {rel : Str} (h : RefOk toks p) (h1 : isWord toks p "IS" = false) (h2 : keyRel toks p = .ok rel n) : (refOf toks n).isSome = true := h.1 h1 _ _ h2
theorem refSome4 {toks : List TR} {p n : Int} {rel : Str} (h : RefOk toks p) (h1 : isWord toks p "IS" = true) (h2 : keyRel toks (p + 1) = .ok rel n) : (refOf toks n).isSome = true := h.2 h1 _ _ h2
theorem brOf_nn {toks : List TR} {p n : Int} {d : List Dat} (hp : 0 ≤ p) (h : brOf toks p = .ok d n) : 0 ≤ n := by
  unfold brOf brW invTurn notTurn at h
  repeat' split at h
  all_goals (cases h <;> omega)
section
variable {W W1 W' : Int → Tok → Obj → List (Addr × Obj)} {q x : Addr × Obj} {tl : List (Addr × Obj)} {v : Value} {d : Dat}
theorem sub_via1 (h : ∀ pos ta o, ∀ p ∈ q :: W pos ta o, p ∈ W' pos ta o) : ∀ pos ta o, ∀ p ∈ W pos ta o, p ∈ app tl W' pos ta o := fun pos ta o p hp => app_sub pos ta o p (h pos ta o p (.tail _ hp))
theorem sub_via2 (h2 : ∀ pos ta o, ∀ p ∈ q :: W1 pos ta o, p ∈ W' pos ta o) (h1 : ∀ pos ta o, ∀ p ∈ W pos ta o, p ∈ W1 pos ta o) : ∀ pos ta o, ∀ p ∈ W pos ta o, p ∈ app tl W' pos ta o := fun pos ta o p hp => app_sub pos ta o p (h2 pos ta o p (.tail _ (h1 pos ta o p hp)))
theorem dat_app (h : ∀ pos ta o, DatIn (W' pos ta o) v d) (pos : Int) (ta : Tok) (o : Obj) : DatIn (app tl W' pos ta o) v d := (h pos ta o).mono (app_sub pos ta o)
theorem dat_app2 (h2 : ∀ pos ta o, ∀ p ∈ q :: W1 pos ta o, p ∈ W' pos ta o) (h : ∀ pos ta o, DatIn (W1 pos ta o) v d) (pos : Int) (ta : Tok) (o : Obj) : DatIn (app tl W' pos ta o) v d := (h pos ta o).mono fun p hp => app_sub pos ta o p (h2 pos ta o p (.tail _ hp))
theorem keep1 {pos : Int} {ta : Tok} {o : Obj} (h : ∀ pos ta o, ∀ p ∈ W pos ta o, p ∈ W1 pos ta o) : ∀ p ∈ x :: W pos ta o, p ∈ x :: q :: W1 pos ta o := sub_keep (sub_skip (h pos ta o))
end
section
variable {prog : Program} {w : World} {p : Program} {loose : List Str} {mean : ExcName → Option Value} {mg mb : Str → Option Value}
  {dp un : Nat} {gd : Option (List Code)} {cn : Str} {cs : Scope} {a : Addr} {ccd : Value} {cl : List (Str × Addr)} {outer : List Env} {A₀ : Around} {base h₀ : Heap} {L : Addr} {m : Str → Option Value} {s : Shared} {Q E : Value → Shared → Prop}
  {r : RR} {W : Int → Tok → Obj → List (Addr × Obj)} {pos : Int} {ta : Tok} {o : Obj} {ps : Array Value} {k : Int} {u : Tok}
variable (B : Below A₀ base outer h₀) (F : Fr h₀ L s.heap m) (X : (Mine.kMake.heap_1 w.params).In h₀) (T : Top p loose mean mg mb h₀) (hk : cs.kind = .function) (H : Hole w.params r W) (hp : 0 ≤ pos)
include B F X T hk H hp
theorem ref_some (N : News h₀ L s.heap (W pos ta (tabObj ps))) (C : CodeHd base 236 232) (tb : TabOk ⟨174, 36, 174, 76⟩ ps) (hd : dp + 18 < recursionLimit) (hr : (refOf r.toks pos).isSome = true)
    (hret : ∀ d0 n0, refOf r.toks pos = some (d0, n0) → 0 ≤ n0 → ∀ v W' h' tk' ta' ps', TabOk ⟨174, 36, 174, 76⟩ ps' → Hole w.params r W' → (∀ pos ta o, ∀ p ∈ W pos ta o, p ∈ W' pos ta o) → (∀ pos ta o, DatIn (W' pos ta o) v d0) → Fr h₀ L h' m → News h₀ L h' (W' n0 ta' (tabObj ps')) → Q v { s with heap := h', toks := tk' }) :
    wpAny (model prog w) (ktrTop dp un gd cn cs L a ccd cl outer) (call (.ref 50) [.ref r.x, .ref 188]) Q E s := by
  obtain ⟨d0, n0, h0⟩ := some_pair hr
  have hn : 0 ≤ n0 := by
    have h1 := h0
    unfold refOf refW at h1
    repeat' split at h1
    all_goals (cases h1 <;> omega)
  exact ref_any B F X T hk H hp N C tb hd h0 (hret d0 n0 h0 hn)
theorem read_start_ok {x : Str} (N : News h₀ L s.heap (W pos ta (tabObj ps))) (C : CodeHd base 236 232) (tb : TabOk ⟨174, 36, 174, 76⟩ ps) (hu : un + 110 < cLine) (hd : dp + 22 < recursionLimit) (hc : Closed r.toks) (hcc : NoCC r.toks) (h0 : isWord r.toks pos "START" = true) (hx : nmOf r.toks (pos + 1) = some x) (hro : RefOk r.toks (pos + 1 + 1 + 1))
    (hret : ∀ d n, startOf r.toks pos = .ok d n → ∀ v W' h' tk' ta' ps', TabOk ⟨174, 36, 174, 76⟩ ps' → Hole w.params r W' → (∀ pos ta o, ∀ p ∈ W pos ta o, p ∈ W' pos ta o) → (∀ pos ta o, DatIn (W' pos ta o) v d) → Fr h₀ L h' m → News h₀ L h' (W' n ta' (tabObj ps')) → Q v { s with heap := h', toks := tk' })
    (hraise : ∀ n, startOf r.toks pos = .bad n → ∀ t g' e d x v k1 k2 ta' ps' h' tk', tokAt r.toks n 0 = some t → TabOk ⟨174, 36, 174, 76⟩ ps' → Fr h₀ L g' m → RaisedD base g' (envX cn cs L a ccd cl :: outer) e d ((d, excDict w.params x v t.p k1 k2) :: W n ta' (tabObj ps')) h' → g'.UpToSlots h' → E (.ref e) { s with heap := h', toks := tk' }) :
    wpAny (model prog w) (ktrTop dp un gd cn cs L a ccd cl outer) (call (.ref 286) [.ref r.x, .ref 561]) Q E s := by
  w_top off
  obtain ⟨t1, ht1, hk1, hw1, rfl⟩ := nmOf_some hx
  have R := H.rin pos ta (tabObj ps) hp
  have ⟨ix, id, il, it, le, lo⟩ := R
  refine wpAny_call ?_
  k_dflt (refine' code_def ?zk1 ?zk2 ?zk3 ?zk4 ?zk5 ?zkA ?zkF ?zkK ?zk6 ?zk7 ?zk8 ?zk9 ?zkB ?_ ?zc2 ?zc3 ?zc4 ?zc5; (case zkA => exact rfl); (case zkF => exact rfl); (case zkK => assumption); (case zk1 => k_asm); (case zk2 => k_asm); (case zk3 => k_asm); (case zk4 => k_asm); (case zk5 => k_asm); (case zk6 => k_is); (case zk7 => k_is); (case zk8 => ktr_room); (case zk9 => first | exact BindsTo.of_eq rfl | exact binds_K (by k_in) rfl (by k_is) rfl rfl rfl); (case zc5 => decide); (case zkB => exact locs rfl); (case zc2 => exact rfl); (case zc3 => exact rfl); (case zc4 => exact rfl); k_whole; intro _ _ _ _ _ _ _ _ _; (try dsimp only); (try k_fold))
  repeat' (first | (((with_reducible show wpAny _ _ (call (Value.ref 272) [Value.ref _, _, _]) _ _ _); k_dflt (refine' branches_ok ?zb ?zf ?zx ?zt ?zhk (Hole.cons ?zhH ?zna0 ?znb0) ?zhp ?zn ?zwu ?zwd ?zwk ?zwc ?zwn ?_ ?_; (case zb => k_asm); (case zf => k_asm); (case zx => k_asm); (case zt => k_asm); (case zhk => first | exact rfl | assumption); (case zhH => assumption); (case zn => k_asm); (case zna0 => first | assumption | exact Hole.ne (by assumption) (by first | assumption | exact allLt_all (by assumption) | exact allLt_all (And.right (by assumption)) | exact allLt_all (And.right (And.right (by assumption))) | exact allLt_all (And.right (And.right (And.right (by assumption)))) | exact allLt_all (And.right (And.right (And.right (And.right (by assumption))))) | exact allLt_all (And.right (And.right (And.right (And.right (And.right (by assumption)))))) | exact allLt_all (And.right (And.right (And.right (And.right (And.right (And.right (by assumption))))))) | exact allLt_all (And.right (And.right (And.right (And.right (And.right (And.right (And.right (by assumption)))))))) | exact allLt_all (And.right (And.right (And.right (And.right (And.right (And.right (And.right (And.right (by assumption))))))))) | exact ltSucc (by assumption) | exact ltLt (by assumption) (by assumption) | exact ltTail (by assumption) | exact ltTail (ltTail (by assumption)) | exact ltTail (ltTail (ltTail (by assumption))) | exact ltTail (ltTail (ltTail (ltTail (by assumption)))) | exact ltTail (ltTail (ltTail (ltTail (ltTail (by assumption))))) | exact ltLt (ltLt (by assumption) (by assumption)) (by assumption) | exact ltLt (ltTail (ltTail (by assumption))) (by assumption) | exact ltLt (ltLt (ltTail (ltTail (by assumption))) (by assumption)) (by assumption))); (case znb0 => first | assumption | exact Hole.neT (by assumption) (by first | assumption | exact allLt_all (by assumption) | exact allLt_all (And.right (by assumption)) | exact allLt_all (And.right (And.right (by assumption))) | exact allLt_all (And.right (And.right (And.right (by assumption)))) | exact allLt_all (And.right (And.right (And.right (And.right (by assumption))))) | exact allLt_all (And.right (And.right (And.right (And.right (And.right (by assumption)))))) | exact allLt_all (And.right (And.right (And.right (And.right (And.right (And.right (by assumption))))))) | exact allLt_all (And.right (And.right (And.right (And.right (And.right (And.right (And.right (by assumption)))))))) | exact allLt_all (And.right (And.right (And.right (And.right (And.right (And.right (And.right (And.right (by assumption))))))))) | exact ltSucc (by assumption) | exact ltLt (by assumption) (by assumption) | exact ltTail (by assumption) | exact ltTail (ltTail (by assumption)) | exact ltTail (ltTail (ltTail (by assumption))) | exact ltTail (ltTail (ltTail (ltTail (by assumption)))) | exact ltTail (ltTail (ltTail (ltTail (ltTail (by assumption))))) | exact ltLt (ltLt (by assumption) (by assumption)) (by assumption) | exact ltLt (ltTail (ltTail (by assumption))) (by assumption) | exact ltLt (ltLt (ltTail (ltTail (by assumption))) (by assumption)) (by assumption))); (case zhp => first | assumption | omega); (case zwu => (dsimp only [ktrTop, Around.deeper]; omega)); (case zwd => ktr_room); (case zwk => exact fun _ _ _ => List.Mem.head _); (case zwc => assumption); (case zwn => assumption); k_whole); (all_goals first | (intro d9ζ n9ζ hb9ζ v9ζ W9ζ h9ζ k9ζ ta9ζ H9ζ sub9ζ dat9ζ F9ζ N9ζ; have p9ζ := brOf_nn (by first | assumption | omega) hb9ζ) | skip); (all_goals intros); (all_goals (try k_sweep)))) | (((with_reducible show wpAny _ _ (call (Value.ref 50) [Value.ref _, _]) _ _ _); k_dflt (refine' ref_some ?zb ?zf ?zx ?zt ?zhk ?zhH ?zhp ?zn ?zwC ?zwtb ?zwhd ?zwr ?_; (case zb => k_asm); (case zf => k_asm); (case zx => k_asm); (case zt => k_asm); (case zhk => first | exact rfl | assumption); (case zhH => assumption); (case zn => k_asm); (case zhp => first | assumption | omega); (case zwC => kn_code); (case zwtb => assumption); (case zwhd => ktr_room); (case zwr => first | exact refSome3 (by assumption) (by assumption) (by assumption) | exact refSome4 (by assumption) (by assumption) (by assumption)); k_whole); (intro d9ζ n9ζ hr9ζ hn9ζ v9ζ W9ζ h9ζ k9ζ ta9ζ ps9ζ tb9ζ H9ζ sub9ζ dat9ζ F9ζ N9ζ); (all_goals intros); (all_goals (try k_sweep)))) | (((with_reducible show wpAny _ _ (call (Value.ref 279) _ _) _ _ _); (k_dflt show wpAny _ _ (call (Value.ref 279) [Value.ref _]) _ _ _); k_dflt (refine' key_rel ?zb ?zf ?zx ?zt ?zhk ?zhH ?zhp ?zn ?zwd ?zwc ?zwz ?_ ?_; (case zb => k_asm); (case zf => k_asm); (case zx => k_asm); (case zt => k_asm); (case zhk => first | exact rfl | assumption); (case zhH => assumption); (case zn => k_asm); (case zhp => first | assumption | omega); (case zwd => ktr_room); (case zwc => assumption); (case zwz => first | assumption | exact nextTok (by assumption) (by assumption) (by decide +kernel)); k_whole); (all_goals intros); (all_goals (try k_sweep)))) | (((with_reducible show wpAny _ _ (call (Value.ref 430) _ _) _ _ _); (k_dflt show wpAny _ _ (call (Value.ref 430) [Value.ref _]) _ _ _); k_dflt (refine' name_ok ?zb ?zf ?zx ?zt ?zhk ?zn ?zr ?zd ?zu ?zq1 ?zq2 ?zq3 ?_; (case zb => k_asm); (case zf => k_asm); (case zx => k_asm); (case zt => k_asm); (case zhk => first | exact rfl | assumption); (case zn => k_asm); (case zr => k_intsEnd); (case zd => ktr_room); (case zu => intro ta9ζ; k_upd); (case zq1 => assumption); (case zq2 => assumption); (case zq3 => assumption); k_whole); (all_goals intros); (all_goals (try k_sweep)))) | (((with_reducible show wpAny _ _ (call (Value.ref 401) [Value.ref _, _]) _ _ _); k_dflt (refine' need_ok ?zb ?zf ?zx ?zt ?zhk ?zn ?zr ?zd ?zo ?zu ?zy ?_; (case zb => k_asm); (case zf => k_asm); (case zx => k_asm); (case zt => k_asm); (case zhk => first | exact rfl | assumption); (case zn => k_asm); (case zr => k_intsEnd); (case zd => ktr_room); (case zo => first | assumption | exact ⟨by decide +kernel, by decide +kernel⟩); (case zu => intro ta9ζ; k_upd); (case zy => assumption); k_whole); (all_goals intros); (all_goals (try k_sweep)))) | (((with_reducible show wpAny _ _ (call (Value.ref 394) [Value.ref _, _]) _ _ _); k_dflt (refine' skip1 ?zb ?zf ?zx ?zt ?zhk ?zn ?zr ?zd ?zo ?zu ?_ ?_; (case zb => k_asm); (case zf => k_asm); (case zx => k_asm); (case zt => k_asm); (case zhk => first | exact rfl | assumption); (case zn => k_asm); (case zr => k_intsEnd); (case zd => ktr_room); (case zo => first | assumption | exact ⟨by decide +kernel, by decide +kernel⟩); (case zu => intro ta9ζ; k_upd); k_whole); (all_goals intros); (all_goals (try k_sweep)))) | ((with_reducible show wpAny _ _ (leaving _ (Value.ref _)) _ _ _); ((first
  | (refine' leave_raiseD3 ?zk1 ?zk2 ?zk3 ?zk4 ?zk5 ?zk6 ?_; (case zk1 => assumption); (case zk2 => k_asm); (case zk3 => k_asm); (case zk4 => assumption); (case zk5 => assumption); (case zk6 => assumption); intro h'ζ R'ζ U'ζ; (try dsimp only at R'ζ U'ζ ⊢))
  | (refine' leave_onD ?zk1 ?zk2 ?zk3 ?zk4 ?_; (case zk3 => assumption); (case zk1 => assumption); (case zk4 => assumption); (case zk2 => assumption); intro h'ζ R'ζ U'ζ; (try dsimp only at R'ζ U'ζ ⊢))))) | (k_unfold; (try dsimp only)) | (k_end; kc_close) | walk1 | (dsimp only; walk1) | (leave1; (try dsimp only)))
  all_goals first
    | (rename Hole _ _ _ => HZ; refine hret _ _ ((start_no hx h0 (by assumption)).trans (tail_ok1 (by assumption) (by assumption))) _ (app [_] _) _ _ _ _ ?_ (HZ.app ?_) (sub_via1 (by assumption)) (fun pos ta o => DatIn.tuple (.head _) (.cons (.str _ _) (.cons (.str _ _) (.cons (.str _ _) (.cons .none (.cons (dat_app (by assumption) pos ta o) .nil)))))) (by k_asm) (by assumption : News h₀ L _ (_ :: _)) <;> first | assumption | ((repeat (first | exact off_nil | refine off_cons (by first | assumption | exact Hole.ne (by assumption) (by first | assumption | exact allLt_all (by assumption) | exact allLt_all (And.right (by assumption)) | exact allLt_all (And.right (And.right (by assumption))) | exact allLt_all (And.right (And.right (And.right (by assumption)))) | exact allLt_all (And.right (And.right (And.right (And.right (by assumption))))) | exact allLt_all (And.right (And.right (And.right (And.right (And.right (by assumption)))))) | exact allLt_all (And.right (And.right (And.right (And.right (And.right (And.right (by assumption))))))) | exact allLt_all (And.right (And.right (And.right (And.right (And.right (And.right (And.right (by assumption)))))))) | exact allLt_all (And.right (And.right (And.right (And.right (And.right (And.right (And.right (And.right (by assumption))))))))) | exact ltSucc (by assumption) | exact ltLt (by assumption) (by assumption) | exact ltTail (by assumption) | exact ltTail (ltTail (by assumption)) | exact ltTail (ltTail (ltTail (by assumption))) | exact ltTail (ltTail (ltTail (ltTail (by assumption)))) | exact ltTail (ltTail (ltTail (ltTail (ltTail (by assumption))))) | exact ltLt (ltLt (by assumption) (by assumption)) (by assumption) | exact ltLt (ltTail (ltTail (by assumption))) (by assumption) | exact ltLt (ltLt (ltTail (ltTail (by assumption))) (by assumption)) (by assumption))) (by first | assumption | exact Hole.neT (by assumption) (by first | assumption | exact allLt_all (by assumption) | exact allLt_all (And.right (by assumption)) | exact allLt_all (And.right (And.right (by assumption))) | exact allLt_all (And.right (And.right (And.right (by assumption)))) | exact allLt_all (And.right (And.right (And.right (And.right (by assumption))))) | exact allLt_all (And.right (And.right (And.right (And.right (And.right (by assumption)))))) | exact allLt_all (And.right (And.right (And.right (And.right (And.right (And.right (by assumption))))))) | exact allLt_all (And.right (And.right (And.right (And.right (And.right (And.right (And.right (by assumption)))))))) | exact allLt_all (And.right (And.right (And.right (And.right (And.right (And.right (And.right (And.right (by assumption))))))))) | exact ltSucc (by assumption) | exact ltLt (by assumption) (by assumption) | exact ltTail (by assumption) | exact ltTail (ltTail (by assumption)) | exact ltTail (ltTail (ltTail (by assumption))) | exact ltTail (ltTail (ltTail (ltTail (by assumption)))) | exact ltTail (ltTail (ltTail (ltTail (ltTail (by assumption))))) | exact ltLt (ltLt (by assumption) (by assumption)) (by assumption) | exact ltLt (ltTail (ltTail (by assumption))) (by assumption) | exact ltLt (ltLt (ltTail (ltTail (by assumption))) (by assumption)) (by assumption))) ?_)); done))
    | (rename Hole _ _ _ => HZ; refine hret _ _ ((start_no hx h0 (by assumption)).trans (tail_ok0 (by assumption) (by assumption))) _ (app [_] _) _ _ _ _ ?_ (HZ.app ?_) (sub_via1 (by assumption)) (fun pos ta o => DatIn.tuple (.head _) (.cons (.str _ _) (.cons (.str _ _) (.cons (.str _ _) (.cons .none (.cons (dat_app (by assumption) pos ta o) .nil)))))) (by k_asm) (by assumption : News h₀ L _ (_ :: _)) <;> first | assumption | ((repeat (first | exact off_nil | refine off_cons (by first | assumption | exact Hole.ne (by assumption) (by first | assumption | exact allLt_all (by assumption) | exact allLt_all (And.right (by assumption)) | exact allLt_all (And.right (And.right (by assumption))) | exact allLt_all (And.right (And.right (And.right (by assumption)))) | exact allLt_all (And.right (And.right (And.right (And.right (by assumption))))) | exact allLt_all (And.right (And.right (And.right (And.right (And.right (by assumption)))))) | exact allLt_all (And.right (And.right (And.right (And.right (And.right (And.right (by assumption))))))) | exact allLt_all (And.right (And.right (And.right (And.right (And.right (And.right (And.right (by assumption)))))))) | exact allLt_all (And.right (And.right (And.right (And.right (And.right (And.right (And.right (And.right (by assumption))))))))) | exact ltSucc (by assumption) | exact ltLt (by assumption) (by assumption) | exact ltTail (by assumption) | exact ltTail (ltTail (by assumption)) | exact ltTail (ltTail (ltTail (by assumption))) | exact ltTail (ltTail (ltTail (ltTail (by assumption)))) | exact ltTail (ltTail (ltTail (ltTail (ltTail (by assumption))))) | exact ltLt (ltLt (by assumption) (by assumption)) (by assumption) | exact ltLt (ltTail (ltTail (by assumption))) (by assumption) | exact ltLt (ltLt (ltTail (ltTail (by assumption))) (by assumption)) (by assumption))) (by first | assumption | exact Hole.neT (by assumption) (by first | assumption | exact allLt_all (by assumption) | exact allLt_all (And.right (by assumption)) | exact allLt_all (And.right (And.right (by assumption))) | exact allLt_all (And.right (And.right (And.right (by assumption)))) | exact allLt_all (And.right (And.right (And.right (And.right (by assumption))))) | exact allLt_all (And.right (And.right (And.right (And.right (And.right (by assumption)))))) | exact allLt_all (And.right (And.right (And.right (And.right (And.right (And.right (by assumption))))))) | exact allLt_all (And.right (And.right (And.right (And.right (And.right (And.right (And.right (by assumption)))))))) | exact allLt_all (And.right (And.right (And.right (And.right (And.right (And.right (And.right (And.right (by assumption))))))))) | exact ltSucc (by assumption) | exact ltLt (by assumption) (by assumption) | exact ltTail (by assumption) | exact ltTail (ltTail (by assumption)) | exact ltTail (ltTail (ltTail (by assumption))) | exact ltTail (ltTail (ltTail (ltTail (by assumption)))) | exact ltTail (ltTail (ltTail (ltTail (ltTail (by assumption))))) | exact ltLt (ltLt (by assumption) (by assumption)) (by assumption) | exact ltLt (ltTail (ltTail (by assumption))) (by assumption) | exact ltLt (ltLt (ltTail (ltTail (by assumption))) (by assumption)) (by assumption))) ?_)); done))
    | (refine hraise _ ((start_no hx h0 (by assumption)).trans (tail_bad (by assumption))) _ _ _ _ _ _ _ _ _ _ _ _ (by assumption) ?_ (by k_asm) (by first | assumption | exact RaisedD.less (by assumption) (sub_keep sub_same) | exact RaisedD.less (by assumption) (sub_keep (sub_skip sub_same)) | exact RaisedD.less (by assumption) (sub_keep (sub_skip (sub_skip sub_same))) | exact RaisedD.less (by assumption) (sub_keep (sub_skip (sub_skip (sub_skip sub_same)))) | exact RaisedD.less (by assumption) (sub_keep (sub_skip (sub_skip (sub_skip (sub_skip sub_same))))) | exact RaisedD.less (by assumption) (sub_keep (sub_skip (sub_skip (sub_skip (sub_skip (sub_skip sub_same)))))) | exact RaisedD.less (by assumption) (sub_keep (sub_skip (sub_skip (sub_skip (sub_skip (sub_skip (sub_skip sub_same))))))) | exact RaisedD.less (by assumption) (sub_keep (sub_skip (sub_skip (sub_skip (sub_skip (sub_skip (sub_skip (sub_skip sub_same)))))))) | exact RaisedD.less (by assumption) (sub_keep (sub_skip (sub_skip (sub_skip (sub_skip (sub_skip (sub_skip (sub_skip (sub_skip sub_same))))))))) | exact RaisedD.less (by assumption) (sub_keep (sub_skip (sub_skip (sub_skip (sub_skip (sub_skip (sub_skip (sub_skip (sub_skip (sub_skip sub_same)))))))))) | exact RaisedD.less (by assumption) (sub_keep (sub_skip (sub_skip (sub_skip (sub_skip (sub_skip (sub_skip (sub_skip (sub_skip (sub_skip (sub_skip sub_same))))))))))) | exact RaisedD.less (by assumption) (sub_keep (sub_skip (sub_skip (sub_skip (sub_skip (sub_skip (sub_skip (sub_skip (sub_skip (sub_skip (sub_skip (sub_skip sub_same)))))))))))) | exact RaisedD.less (by assumption) (sub_keep (sub_skip (sub_skip (sub_skip (sub_skip (sub_skip (sub_skip (sub_skip (sub_skip (sub_skip (sub_skip (sub_skip (sub_skip sub_same))))))))))))) | exact RaisedD.less (by assumption) (sub_keep (sub_skip (sub_skip (sub_skip (sub_skip (sub_skip (sub_skip (sub_skip (sub_skip (sub_skip (sub_skip (sub_skip (sub_skip (sub_skip sub_same))))))))))))))) (by assumption); assumption)
    | (rename Hole _ _ _ => HZ; refine hret _ _ ((start_is hx h0 (by assumption) (by assumption)).trans ((key_ok (by assumption) (by assumption)).trans (tail_ok1 (by assumption) (by assumption)))) _ (app [_] _) _ _ _ _ ?_ (HZ.app ?_) (sub_via2 (by assumption) (by assumption)) (fun pos ta o => DatIn.tuple (.head _) (.cons (.str _ _) (.cons (.str _ _) (.cons (.str _ _) (.cons (dat_app2 (by assumption) (by assumption) pos ta o) (.cons (dat_app (by assumption) pos ta o) .nil)))))) (by k_asm) (by assumption : News h₀ L _ (_ :: _)) <;> first | assumption | ((repeat (first | exact off_nil | refine off_cons (by first | assumption | exact Hole.ne (by assumption) (by first | assumption | exact allLt_all (by assumption) | exact allLt_all (And.right (by assumption)) | exact allLt_all (And.right (And.right (by assumption))) | exact allLt_all (And.right (And.right (And.right (by assumption)))) | exact allLt_all (And.right (And.right (And.right (And.right (by assumption))))) | exact allLt_all (And.right (And.right (And.right (And.right (And.right (by assumption)))))) | exact allLt_all (And.right (And.right (And.right (And.right (And.right (And.right (by assumption))))))) | exact allLt_all (And.right (And.right (And.right (And.right (And.right (And.right (And.right (by assumption)))))))) | exact allLt_all (And.right (And.right (And.right (And.right (And.right (And.right (And.right (And.right (by assumption))))))))) | exact ltSucc (by assumption) | exact ltLt (by assumption) (by assumption) | exact ltTail (by assumption) | exact ltTail (ltTail (by assumption)) | exact ltTail (ltTail (ltTail (by assumption))) | exact ltTail (ltTail (ltTail (ltTail (by assumption)))) | exact ltTail (ltTail (ltTail (ltTail (ltTail (by assumption))))) | exact ltLt (ltLt (by assumption) (by assumption)) (by assumption) | exact ltLt (ltTail (ltTail (by assumption))) (by assumption) | exact ltLt (ltLt (ltTail (ltTail (by assumption))) (by assumption)) (by assumption))) (by first | assumption | exact Hole.neT (by assumption) (by first | assumption | exact allLt_all (by assumption) | exact allLt_all (And.right (by assumption)) | exact allLt_all (And.right (And.right (by assumption))) | exact allLt_all (And.right (And.right (And.right (by assumption)))) | exact allLt_all (And.right (And.right (And.right (And.right (by assumption))))) | exact allLt_all (And.right (And.right (And.right (And.right (And.right (by assumption)))))) | exact allLt_all (And.right (And.right (And.right (And.right (And.right (And.right (by assumption))))))) | exact allLt_all (And.right (And.right (And.right (And.right (And.right (And.right (And.right (by assumption)))))))) | exact allLt_all (And.right (And.right (And.right (And.right (And.right (And.right (And.right (And.right (by assumption))))))))) | exact ltSucc (by assumption) | exact ltLt (by assumption) (by assumption) | exact ltTail (by assumption) | exact ltTail (ltTail (by assumption)) | exact ltTail (ltTail (ltTail (by assumption))) | exact ltTail (ltTail (ltTail (ltTail (by assumption)))) | exact ltTail (ltTail (ltTail (ltTail (ltTail (by assumption))))) | exact ltLt (ltLt (by assumption) (by assumption)) (by assumption) | exact ltLt (ltTail (ltTail (by assumption))) (by assumption) | exact ltLt (ltLt (ltTail (ltTail (by assumption))) (by assumption)) (by assumption))) ?_)); done))
    | (rename Hole _ _ _ => HZ; refine hret _ _ ((start_is hx h0 (by assumption) (by assumption)).trans ((key_ok (by assumption) (by assumption)).trans (tail_ok0 (by assumption) (by assumption)))) _ (app [_] _) _ _ _ _ ?_ (HZ.app ?_) (sub_via2 (by assumption) (by assumption)) (fun pos ta o => DatIn.tuple (.head _) (.cons (.str _ _) (.cons (.str _ _) (.cons (.str _ _) (.cons (dat_app2 (by assumption) (by assumption) pos ta o) (.cons (dat_app (by assumption) pos ta o) .nil)))))) (by k_asm) (by assumption : News h₀ L _ (_ :: _)) <;> first | assumption | ((repeat (first | exact off_nil | refine off_cons (by first | assumption | exact Hole.ne (by assumption) (by first | assumption | exact allLt_all (by assumption) | exact allLt_all (And.right (by assumption)) | exact allLt_all (And.right (And.right (by assumption))) | exact allLt_all (And.right (And.right (And.right (by assumption)))) | exact allLt_all (And.right (And.right (And.right (And.right (by assumption))))) | exact allLt_all (And.right (And.right (And.right (And.right (And.right (by assumption)))))) | exact allLt_all (And.right (And.right (And.right (And.right (And.right (And.right (by assumption))))))) | exact allLt_all (And.right (And.right (And.right (And.right (And.right (And.right (And.right (by assumption)))))))) | exact allLt_all (And.right (And.right (And.right (And.right (And.right (And.right (And.right (And.right (by assumption))))))))) | exact ltSucc (by assumption) | exact ltLt (by assumption) (by assumption) | exact ltTail (by assumption) | exact ltTail (ltTail (by assumption)) | exact ltTail (ltTail (ltTail (by assumption))) | exact ltTail (ltTail (ltTail (ltTail (by assumption)))) | exact ltTail (ltTail (ltTail (ltTail (ltTail (by assumption))))) | exact ltLt (ltLt (by assumption) (by assumption)) (by assumption) | exact ltLt (ltTail (ltTail (by assumption))) (by assumption) | exact ltLt (ltLt (ltTail (ltTail (by assumption))) (by assumption)) (by assumption))) (by first | assumption | exact Hole.neT (by assumption) (by first | assumption | exact allLt_all (by assumption) | exact allLt_all (And.right (by assumption)) | exact allLt_all (And.right (And.right (by assumption))) | exact allLt_all (And.right (And.right (And.right (by assumption)))) | exact allLt_all (And.right (And.right (And.right (And.right (by assumption))))) | exact allLt_all (And.right (And.right (And.right (And.right (And.right (by assumption)))))) | exact allLt_all (And.right (And.right (And.right (And.right (And.right (And.right (by assumption))))))) | exact allLt_all (And.right (And.right (And.right (And.right (And.right (And.right (And.right (by assumption)))))))) | exact allLt_all (And.right (And.right (And.right (And.right (And.right (And.right (And.right (And.right (by assumption))))))))) | exact ltSucc (by assumption) | exact ltLt (by assumption) (by assumption) | exact ltTail (by assumption) | exact ltTail (ltTail (by assumption)) | exact ltTail (ltTail (ltTail (by assumption))) | exact ltTail (ltTail (ltTail (ltTail (by assumption)))) | exact ltTail (ltTail (ltTail (ltTail (ltTail (by assumption))))) | exact ltLt (ltLt (by assumption) (by assumption)) (by assumption) | exact ltLt (ltTail (ltTail (by assumption))) (by assumption) | exact ltLt (ltLt (ltTail (ltTail (by assumption))) (by assumption)) (by assumption))) ?_)); done))
    | (refine hraise _ ((start_is hx h0 (by assumption) (by assumption)).trans ((key_ok (by assumption) (by assumption)).trans (tail_bad (by assumption)))) _ _ _ _ _ _ _ _ _ _ _ _ (by assumption) ?_ (by k_asm) (RaisedD.less (by assumption) (keep1 (by assumption))) (by assumption); assumption)
    | (refine hraise _ ((start_is hx h0 (by assumption) (by assumption)).trans (key_bad (by assumption))) _ _ _ _ _ _ _ _ _ _ _ _ (by assumption) ?_ (by k_asm) (by assumption) (by assumption); assumption)
    | (rename Hole _ _ _ => HZ; refine hret _ _ ((start_key hx h0 (by assumption) (by assumption)).trans ((key_ok (by assumption) (by assumption)).trans (tail_ok1 (by assumption) (by assumption)))) _ (app [_] _) _ _ _ _ ?_ (HZ.app ?_) (sub_via2 (by assumption) (by assumption)) (fun pos ta o => DatIn.tuple (.head _) (.cons (.str _ _) (.cons (.str _ _) (.cons (.str _ _) (.cons (dat_app2 (by assumption) (by assumption) pos ta o) (.cons (dat_app (by assumption) pos ta o) .nil)))))) (by k_asm) (by assumption : News h₀ L _ (_ :: _)) <;> first | assumption | ((repeat (first | exact off_nil | refine off_cons (by first | assumption | exact Hole.ne (by assumption) (by first | assumption | exact allLt_all (by assumption) | exact allLt_all (And.right (by assumption)) | exact allLt_all (And.right (And.right (by assumption))) | exact allLt_all (And.right (And.right (And.right (by assumption)))) | exact allLt_all (And.right (And.right (And.right (And.right (by assumption))))) | exact allLt_all (And.right (And.right (And.right (And.right (And.right (by assumption)))))) | exact allLt_all (And.right (And.right (And.right (And.right (And.right (And.right (by assumption))))))) | exact allLt_all (And.right (And.right (And.right (And.right (And.right (And.right (And.right (by assumption)))))))) | exact allLt_all (And.right (And.right (And.right (And.right (And.right (And.right (And.right (And.right (by assumption))))))))) | exact ltSucc (by assumption) | exact ltLt (by assumption) (by assumption) | exact ltTail (by assumption) | exact ltTail (ltTail (by assumption)) | exact ltTail (ltTail (ltTail (by assumption))) | exact ltTail (ltTail (ltTail (ltTail (by assumption)))) | exact ltTail (ltTail (ltTail (ltTail (ltTail (by assumption))))) | exact ltLt (ltLt (by assumption) (by assumption)) (by assumption) | exact ltLt (ltTail (ltTail (by assumption))) (by assumption) | exact ltLt (ltLt (ltTail (ltTail (by assumption))) (by assumption)) (by assumption))) (by first | assumption | exact Hole.neT (by assumption) (by first | assumption | exact allLt_all (by assumption) | exact allLt_all (And.right (by assumption)) | exact allLt_all (And.right (And.right (by assumption))) | exact allLt_all (And.right (And.right (And.right (by assumption)))) | exact allLt_all (And.right (And.right (And.right (And.right (by assumption))))) | exact allLt_all (And.right (And.right (And.right (And.right (And.right (by assumption)))))) | exact allLt_all (And.right (And.right (And.right (And.right (And.right (And.right (by assumption))))))) | exact allLt_all (And.right (And.right (And.right (And.right (And.right (And.right (And.right (by assumption)))))))) | exact allLt_all (And.right (And.right (And.right (And.right (And.right (And.right (And.right (And.right (by assumption))))))))) | exact ltSucc (by assumption) | exact ltLt (by assumption) (by assumption) | exact ltTail (by assumption) | exact ltTail (ltTail (by assumption)) | exact ltTail (ltTail (ltTail (by assumption))) | exact ltTail (ltTail (ltTail (ltTail (by assumption)))) | exact ltTail (ltTail (ltTail (ltTail (ltTail (by assumption))))) | exact ltLt (ltLt (by assumption) (by assumption)) (by assumption) | exact ltLt (ltTail (ltTail (by assumption))) (by assumption) | exact ltLt (ltLt (ltTail (ltTail (by assumption))) (by assumption)) (by assumption))) ?_)); done))
    | (rename Hole _ _ _ => HZ; refine hret _ _ ((start_key hx h0 (by assumption) (by assumption)).trans ((key_ok (by assumption) (by assumption)).trans (tail_ok0 (by assumption) (by assumption)))) _ (app [_] _) _ _ _ _ ?_ (HZ.app ?_) (sub_via2 (by assumption) (by assumption)) (fun pos ta o => DatIn.tuple (.head _) (.cons (.str _ _) (.cons (.str _ _) (.cons (.str _ _) (.cons (dat_app2 (by assumption) (by assumption) pos ta o) (.cons (dat_app (by assumption) pos ta o) .nil)))))) (by k_asm) (by assumption : News h₀ L _ (_ :: _)) <;> first | assumption | ((repeat (first | exact off_nil | refine off_cons (by first | assumption | exact Hole.ne (by assumption) (by first | assumption | exact allLt_all (by assumption) | exact allLt_all (And.right (by assumption)) | exact allLt_all (And.right (And.right (by assumption))) | exact allLt_all (And.right (And.right (And.right (by assumption)))) | exact allLt_all (And.right (And.right (And.right (And.right (by assumption))))) | exact allLt_all (And.right (And.right (And.right (And.right (And.right (by assumption)))))) | exact allLt_all (And.right (And.right (And.right (And.right (And.right (And.right (by assumption))))))) | exact allLt_all (And.right (And.right (And.right (And.right (And.right (And.right (And.right (by assumption)))))))) | exact allLt_all (And.right (And.right (And.right (And.right (And.right (And.right (And.right (And.right (by assumption))))))))) | exact ltSucc (by assumption) | exact ltLt (by assumption) (by assumption) | exact ltTail (by assumption) | exact ltTail (ltTail (by assumption)) | exact ltTail (ltTail (ltTail (by assumption))) | exact ltTail (ltTail (ltTail (ltTail (by assumption)))) | exact ltTail (ltTail (ltTail (ltTail (ltTail (by assumption))))) | exact ltLt (ltLt (by assumption) (by assumption)) (by assumption) | exact ltLt (ltTail (ltTail (by assumption))) (by assumption) | exact ltLt (ltLt (ltTail (ltTail (by assumption))) (by assumption)) (by assumption))) (by first | assumption | exact Hole.neT (by assumption) (by first | assumption | exact allLt_all (by assumption) | exact allLt_all (And.right (by assumption)) | exact allLt_all (And.right (And.right (by assumption))) | exact allLt_all (And.right (And.right (And.right (by assumption)))) | exact allLt_all (And.right (And.right (And.right (And.right (by assumption))))) | exact allLt_all (And.right (And.right (And.right (And.right (And.right (by assumption)))))) | exact allLt_all (And.right (And.right (And.right (And.right (And.right (And.right (by assumption))))))) | exact allLt_all (And.right (And.right (And.right (And.right (And.right (And.right (And.right (by assumption)))))))) | exact allLt_all (And.right (And.right (And.right (And.right (And.right (And.right (And.right (And.right (by assumption))))))))) | exact ltSucc (by assumption) | exact ltLt (by assumption) (by assumption) | exact ltTail (by assumption) | exact ltTail (ltTail (by assumption)) | exact ltTail (ltTail (ltTail (by assumption))) | exact ltTail (ltTail (ltTail (ltTail (by assumption)))) | exact ltTail (ltTail (ltTail (ltTail (ltTail (by assumption))))) | exact ltLt (ltLt (by assumption) (by assumption)) (by assumption) | exact ltLt (ltTail (ltTail (by assumption))) (by assumption) | exact ltLt (ltLt (ltTail (ltTail (by assumption))) (by assumption)) (by assumption))) ?_)); done))
    | (refine hraise _ ((start_key hx h0 (by assumption) (by assumption)).trans ((key_ok (by assumption) (by assumption)).trans (tail_bad (by assumption)))) _ _ _ _ _ _ _ _ _ _ _ _ (by assumption) ?_ (by k_asm) (RaisedD.less (by assumption) (keep1 (by assumption))) (by assumption); assumption)
    | (refine hraise _ ((start_key hx h0 (by assumption) (by assumption)).trans (key_bad (by assumption))) _ _ _ _ _ _ _ _ _ _ _ _ (by assumption) ?_ (by k_asm) (by assumption) (by assumption); assumption)
end
-- C27
section
variable {prog : Program} {w : World} {p : Program} {loose : List Str} {mean : ExcName → Option Value} {mg mb : Str → Option Value}
  {dp un : Nat} {gd : Option (List Code)} {cn : Str} {cs : Scope} {a : Addr} {ccd : Value} {cl : List (Str × Addr)} {outer : List Env} {A₀ : Around} {base h₀ : Heap} {L : Addr} {m : Str → Option Value} {s : Shared} {Q E : Value → Shared → Prop}
  {r : RR} {W : Int → Tok → Obj → List (Addr × Obj)} {pos : Int} {ta : Tok} {o : Obj} {ps : Array Value} {k : Int} {u : Tok}
variable (B : Below A₀ base outer h₀) (F : Fr h₀ L s.heap m) (X : (Mine.kMake.heap_1 w.params).In h₀) (T : Top p loose mean mg mb h₀) (hk : cs.kind = .function) (H : Hole w.params r W) (hp : 0 ≤ pos)
include B F X T hk H hp
theorem law_read {x : Str} (N : News h₀ L s.heap (W pos ta (tabObj ps))) (C : CodeHd base 236 232) (tb : TabOk ⟨174, 36, 174, 76⟩ ps) (hu : un + 120 < cLine) (hd : dp + 24 < recursionLimit) (hc : Closed r.toks) (hcc : NoCC r.toks) (h0 : isWord r.toks pos "START" = true) (hx : nmOf r.toks (pos + 1) = some x) (hro : RefOk r.toks (pos + 1 + 1 + 1))
    (hret : ∀ d n, startOf r.toks pos = .ok d n → ∀ v W' h' tk' ta' ps', TabOk ⟨174, 36, 174, 76⟩ ps' → Hole w.params r W' → (∀ pos ta o, ∀ p ∈ W pos ta o, p ∈ W' pos ta o) → (∀ pos ta o, DatIn (W' pos ta o) v d) → Fr h₀ L h' m → News h₀ L h' (W' n ta' (tabObj ps')) → Q v { s with heap := h', toks := tk' })
    (hraise : ∀ n, startOf r.toks pos = .bad n → ∀ t g' e d x v k1 k2 ta' ps' h' tk', tokAt r.toks n 0 = some t → TabOk ⟨174, 36, 174, 76⟩ ps' → Fr h₀ L g' m → RaisedD base g' (envX cn cs L a ccd cl :: outer) e d ((d, excDict w.params x v t.p k1 k2) :: W n ta' (tabObj ps')) h' → g'.UpToSlots h' → E (.ref e) { s with heap := h', toks := tk' }) :
    wpAny (model prog w) (ktrTop dp un gd cn cs L a ccd cl outer) (call (.ref 617) [.ref r.x, .ref 561]) Q E s := by
  w_top off
  have R := H.rin pos ta (tabObj ps) hp
  have ⟨ix, id, il, it, le, lo⟩ := R
  refine wpAny_call ?_
  k_dflt (refine' code_def ?zk1 ?zk2 ?zk3 ?zk4 ?zk5 ?zkA ?zkF ?zkK ?zk6 ?zk7 ?zk8 ?zk9 ?zkB ?_ ?zc2 ?zc3 ?zc4 ?zc5; (case zkA => exact rfl); (case zkF => exact rfl); (case zkK => assumption); (case zk1 => k_asm); (case zk2 => k_asm); (case zk3 => k_asm); (case zk4 => k_asm); (case zk5 => k_asm); (case zk6 => k_is); (case zk7 => k_is); (case zk8 => ktr_room); (case zk9 => first | exact BindsTo.of_eq rfl | exact binds_K (by k_in) rfl (by k_is) rfl rfl rfl); (case zc5 => decide); (case zkB => exact locs rfl); (case zc2 => exact rfl); (case zc3 => exact rfl); (case zc4 => exact rfl); k_whole; intro _ _ _ _ _ _ _ _ _; (try dsimp only); (try k_fold))
  repeat' (first | (((with_reducible show wpAny _ _ (call (Value.ref 286) [Value.ref _, _]) _ _ _); k_dflt (refine' read_start_ok ?zb ?zf ?zx ?zt ?zhk ?zhH ?zhp ?zn ?zwC ?zwtb ?zwu ?zwhd ?zwc ?zwn ?zwz ?zwx ?zwro ?_ ?_; (case zb => k_asm); (case zf => k_asm); (case zx => k_asm); (case zt => k_asm); (case zhk => first | exact rfl | assumption); (case zhH => assumption); (case zn => k_asm); (case zhp => first | assumption | omega); (case zwC => kn_code); (case zwtb => assumption); (case zwu => (dsimp only [ktrTop, Around.deeper]; omega)); (case zwhd => ktr_room); (case zwc => assumption); (case zwn => assumption); (case zwz => assumption); (case zwx => assumption); (case zwro => assumption); k_whole); (all_goals intros); (all_goals (try k_sweep)))) | ((with_reducible show wpAny _ _ (leaving _ (Value.ref _)) _ _ _); ((first
  | (refine' leave_raiseD3 ?zk1 ?zk2 ?zk3 ?zk4 ?zk5 ?zk6 ?_; (case zk1 => assumption); (case zk2 => k_asm); (case zk3 => k_asm); (case zk4 => assumption); (case zk5 => assumption); (case zk6 => assumption); intro h'ζ R'ζ U'ζ; (try dsimp only at R'ζ U'ζ ⊢))
  | (refine' leave_onD ?zk1 ?zk2 ?zk3 ?zk4 ?_; (case zk3 => assumption); (case zk1 => assumption); (case zk4 => assumption); (case zk2 => assumption); intro h'ζ R'ζ U'ζ; (try dsimp only at R'ζ U'ζ ⊢))))) | (k_unfold; (try dsimp only)) | (k_end; kc_close) | walk1 | (dsimp only; walk1) | (leave1; (try dsimp only)))
  all_goals first
    | exact hraise _ (by assumption) _ _ _ _ _ _ _ _ _ _ _ _ (by assumption) (by assumption) (by k_asm) (by assumption) (by assumption)
    | exact hret _ _ (by assumption) _ _ _ _ _ _ (by assumption) (by assumption) (by assumption) (by assumption) (by k_asm) (by k_asm)
end
-- C28
theorem strsAre_get {vs : List Value} {ws : List Str} (h : StrsAre vs ws) : ∀ {i : Nat} {x : Str}, ws[i]? = some x → ∃ t, vs[i]? = some (.str x t) := by
  induction h with
  | nil => intro i x hx; cases hx
  | cons y t r ih =>
    intro i x hx
    cases i with
    | zero => simp at hx; subst hx; exact ⟨t, rfl⟩
    | succ i => simp at hx; simpa using ih hx
theorem strsAre_len {vs : List Value} {ws : List Str} (h : StrsAre vs ws) : vs.length = ws.length := by
  induction h with
  | nil => rfl
  | cons y t r ih => simp [ih]
section
variable {prog : Program} {w : World} {A : Around} {E : Value → Shared → Prop} {s : Shared} {Q : Value → Shared → Prop} {h₀ : Heap} {L wl : Addr} {news : List (Addr × Obj)} {vs : List Value} {ws : List Str} {n : Nat} {k : Int} {u : Tok}
theorem str_len (N : News h₀ L s.heap news) (hm : (wl, PySem.W.listOf vs.toArray n) ∈ news) (hs : StrsAre vs ws) (hle : ws.length ≤ 64)
    (h : Q (.int (ws.length : Int) (s.toks + 1)) { s with toks := s.toks + 1 + 1 }) : wpAny (model prog w) A (call (.builtin "len") [.ref wl]) Q E s := by
  have e : vs.toArray.size = ws.length := by simp [strsAre_len hs]
  refine call_len_list (N.isList hm) (by rw [e]; omega) ?_
  rw [e]; exact h
theorem str_item {value slice : PySem.Expr} {x : Str} (N : News h₀ L s.heap news) (hm : (wl, PySem.W.listOf vs.toArray n) ∈ news) (hst : StrsAre vs ws) (hle : ws.length ≤ 64)
    (h0 : 0 ≤ k) (hx : ws[k.toNat]? = some x) (h : ∀ t, Q (.str x t) s)
    (hs : subscripted slice false (.ref wl) (.int k u) = operate [.ref wl, .int k u] (getItem (.ref wl) (.int k u)) := by with_unfolding_all rfl) :
    wpAny (model prog w) A (subscriptTail value slice (.ref wl) (.int k u)) Q E s := by
  have hk : k.toNat < ws.length := (List.getElem?_eq_some_iff.mp hx).1
  obtain ⟨t, ht⟩ := strsAre_get hst hx
  exact tail_any (N.isList hm).typeIs slot_list_getitem.lookup (wpAny_getItem_list (N.isList hm) h0 (by omega) (x := .str x t) (by simpa using ht) (h t)) hs
end
theorem range_small {n : Nat} (h : n ≤ 64) : Builtin.Range.small 0 (n : Int) 1 = true ∧ Builtin.Range.rangeSize 0 (n : Int) 1 = (n : Int) := by
  have q : ∀ k : Fin 65, Builtin.Range.small 0 ((k.val : Nat) : Int) 1 = true ∧ Builtin.Range.rangeSize 0 ((k.val : Nat) : Int) 1 = ((k.val : Nat) : Int) := by decide +kernel
  exact q ⟨n, by omega⟩
theorem range_ind {prog : Program} {w : World} {A : Around} {E : Value → Shared → Prop} {h₀ : Heap} {env : Env} {x : Str} {body : List Stmt} {Q : Flow → Shared → Prop} {s : Shared} {I : Addr} {a : Int} {n : Nat} {m : Str → Option Value} {news : List (Addr × Obj)} (C : Addr → Addr → (Str → Option Value) → Nat → (Str → Option Value) → List (Addr × Obj) → Prop) (l : Addr) {o0 : Obj} {nr : List (Addr × Obj)} (_ : news = (l, o0) :: nr) (h0 : C l I m 0 m news)
    (done : ∀ m' news', C l I m n m' news' → ∀ h tk, Fr h₀ env.locals h m' → News h₀ env.locals h news' → Q .next { s with heap := h, toks := tk })
    (step : ∀ i k m' news', i + (k + 1) = n → C l I m i m' news' → (∀ m'' news'', C l I m (i + 1) m'' news'' → RangeRest prog w A E h₀ env x body Q s I a n k (i + 1) m'' news'') → RangeRest prog w A E h₀ env x body Q s I a n (k + 1) i m' news') : RangeRest prog w A E h₀ env x body Q s I a n n 0 m news := by
  have all : ∀ k i m' news', i + k = n → C l I m i m' news' → RangeRest prog w A E h₀ env x body Q s I a n k i m' news' := by
    intro k
    induction k with
    | zero => intro i m' news' e hc; exact RangeRest.zero (done m' news' (by have e' : i = n := (by omega); rw [e'] at hc; exact hc))
    | succ k ih => intro i m' news' e hc; exact step i k m' news' e hc fun m'' news'' h' => ih (i + 1) m'' news'' (by omega) h'
  exact all n 0 m news (by omega) h0
def digitIn (x : Str) : Bool := !(Builtin.Str.occurrences (Str.ofString "0123456789") (Txt.item x 0) 0 (Str.ofString "0123456789").length 1).isEmpty
def kindOf (x : Str) : Str := if [Str.ofString ".", Str.ofString "(", Str.ofString ")", Str.ofString "=", Str.ofString ">", Str.ofString "<", Str.ofString ">=", Str.ofString "+"].any (· == x) then "sign" else if digitIn x then "number" else "word"
/-- a word that the law may lay: it has a sign, and it is no literal -/
def WordOk (x : Str) : Prop := 0 < x.length ∧ x.length ≤ 100 ∧ (Txt.item x 0 == Str.ofString "!") = false
structure TkMid (P : Params) (ws : List Str) (news : List (Addr × Obj)) (l I : Addr) (m : Str → Option Value) (i : Nat) (m' : Str → Option Value) (news' : List (Addr × Obj)) : Prop where
  is : ∃ (TK : List (Addr × Obj)) (toks : List TR) (n' : Nat) (a b : Option Value), toks.map (fun t : TR => (t.k, t.w)) = (ws.take i).map (fun x => (kindOf x, x)) ∧ (∀ (j : Nat) (t : TR), toks[j]? = some t → t.i = (j : Int) + 1) ∧ (∀ t ∈ toks, TIn P TK t) ∧ (∀ p ∈ TK, l < p.1) ∧ (∀ p ∈ TK, p.1 ≠ I)
    ∧ news' = (l, PySem.W.listOf (List.toArray (toks.map fun t => Value.ref t.a)) n') :: (TK ++ news) ∧ m' = fun y => if y = Str.ofString "at" then a else if y = Str.ofString "kind" then b else m y
theorem TkMid.elim {P : Params} {ws : List Str} {news : List (Addr × Obj)} {l I : Addr} {m : Str → Option Value} {i : Nat} {m' : Str → Option Value} {news' : List (Addr × Obj)} {K : (Str → Option Value) → List (Addr × Obj) → Prop} (hC : TkMid P ws news l I m i m' news')
    (k : ∀ (TK : List (Addr × Obj)) (toks : List TR) (n' : Nat) (a b : Option Value), toks.map (fun t : TR => (t.k, t.w)) = (ws.take i).map (fun x => (kindOf x, x)) → (∀ (j : Nat) (t : TR), toks[j]? = some t → t.i = (j : Int) + 1) → (∀ t ∈ toks, TIn P TK t) → (∀ p ∈ TK, l < p.1) → (∀ p ∈ TK, p.1 ≠ I)
    → K (fun y => if y = Str.ofString "at" then a else if y = Str.ofString "kind" then b else m y) ((l, PySem.W.listOf (List.toArray (toks.map fun t => Value.ref t.a)) n') :: (TK ++ news))) : K m' news' := by
  obtain ⟨TK, toks, n', a', b', e1, e2, e3, e4, e5, f1, f2⟩ := hC.is
  rw [f1, f2]
  exact k TK toks n' a' b' e1 e2 e3 e4 e5
theorem map2 {m m' : Str → Option Value} (h : ∀ y, y ≠ Str.ofString "at" → y ≠ Str.ofString "kind" → m' y = m y) :
    m' = fun y => if y = Str.ofString "at" then m' (Str.ofString "at") else if y = Str.ofString "kind" then m' (Str.ofString "kind") else m y := by
  funext y
  by_cases h1 : y = Str.ofString "at"
  · rw [if_pos h1, h1]
  · by_cases h2 : y = Str.ofString "kind"
    · rw [if_neg h1, if_pos h2, h2]
    · rw [if_neg h1, if_neg h2]; exact h y h1 h2
theorem getAt {ws : List Str} {i : Nat} {x : Str} (h : ws[i]? = some x) : ws[((0 : Int) + (i : Int)).toNat]? = some x := by rw [show ((0 : Int) + (i : Int)).toNat = i from by omega]; exact h
theorem wk1 {x : Str} (h : WordOk x) : (0 : Int) < (x.length : Int) := by have := h.1; omega
theorem wk2 {x : Str} (h : WordOk x) : x.length ≤ 16777216 := by have := h.2.1; omega
theorem wk3 {x : Str} : -(x.length : Int) ≤ 0 := by omega
theorem kind_sign {x : Str} (h : ([Str.ofString ".", Str.ofString "(", Str.ofString ")", Str.ofString "=", Str.ofString ">", Str.ofString "<", Str.ofString ">=", Str.ofString "+"].any fun y => y == x) = true) : Str.ofString "sign" = kindOf x := by
  unfold kindOf; rw [if_pos h]
theorem kind_num {x : Str} (h : ([Str.ofString ".", Str.ofString "(", Str.ofString ")", Str.ofString "=", Str.ofString ">", Str.ofString "<", Str.ofString ">=", Str.ofString "+"].any fun y => y == x) = false) (hd : (Builtin.Str.occurrences (Str.ofString "0123456789") (Txt.item x 0) 0 (Str.ofString "0123456789").length 1).isEmpty = false) : Str.ofString "number" = kindOf x := by
  unfold kindOf digitIn; rw [if_neg (by rw [h]; decide), hd]; rfl
theorem kind_word {x : Str} (h : ([Str.ofString ".", Str.ofString "(", Str.ofString ")", Str.ofString "=", Str.ofString ">", Str.ofString "<", Str.ofString ">=", Str.ofString "+"].any fun y => y == x) = false) (hd : (Builtin.Str.occurrences (Str.ofString "0123456789") (Txt.item x 0) 0 (Str.ofString "0123456789").length 1).isEmpty = true) : Str.ofString "word" = kindOf x := by
  unfold kindOf digitIn; rw [if_neg (by rw [h]; decide), hd]; rfl
theorem tkEnd {P : Params} {ws : List Str} {h₀ : Heap} {L I l : Addr} {it : Obj} {tr : TR} {q : Addr × Obj} {toks : List TR} {TK news Y : List (Addr × Obj)} {x : Str} {i n1 : Nat} {m₀ m' : Str → Option Value} {rest : (Str → Option Value) → List (Addr × Obj) → Prop} {s₁ : Shared} {h' : Heap} {tk : Nat}
    (F : Fr h₀ L h' m') (N : News h₀ L h' ((tr.a, instObj 312 tr.d) :: (tr.d, dictOf (tr.es P) 4) :: (tr.p, tr.pair) :: q :: (I, it) :: (l, PySem.W.listOf ((toks.map fun t => Value.ref t.a).toArray.push (.ref tr.a)) n1) :: Y)) (hY : Y = TK ++ news)
    (e1 : toks.map (fun t : TR => (t.k, t.w)) = (ws.take i).map (fun x => (kindOf x, x))) (e2 : ∀ (j : Nat) (t : TR), toks[j]? = some t → t.i = (j : Int) + 1) (e3 : ∀ t ∈ toks, TIn P TK t) (e4 : ∀ p ∈ TK, l < p.1) (e5 : ∀ p ∈ TK, p.1 ≠ I)
    (hx : ws[i]? = some x) (hk : tr.k = kindOf x) (hw : tr.w = x) (hi : tr.i = (i : Int) + 1)
    (h1 : (l : Nat) < tr.p) (h2 : (tr.p : Nat) < tr.d) (h3 : (tr.d : Nat) < tr.a) (g1 : (I : Nat) < tr.p) (g2 : l ≠ I) (g3 : ∀ p ∈ Y, p.1 ≠ I)
    (hm : ∀ y, y ≠ Str.ofString "at" → y ≠ Str.ofString "kind" → m' y = m₀ y)
    (next : ∀ m'' news'', TkMid P ws news l I m₀ (i + 1) m'' news'' → rest m'' news'') : UnrEnd h₀ L s₁ I it rest { s₁ with heap := h', toks := tk } := by
  have hlen : toks.length = i := by
    have q1 := congrArg List.length e1
    have hi' : i < ws.length := (List.getElem?_eq_some_iff.mp hx).1
    simp only [List.length_map, List.length_take] at q1
    omega
  have el : (toks.map fun t => Value.ref t.a).toArray.push (.ref tr.a) = ((toks ++ [tr]).map fun t => Value.ref t.a).toArray := by simp
  rw [el] at N
  refine UnrEnd.intro F N ((l, PySem.W.listOf ((toks ++ [tr]).map fun t => Value.ref t.a).toArray n1) :: (((tr.a, instObj 312 tr.d) :: (tr.d, dictOf (tr.es P) 4) :: (tr.p, tr.pair) :: TK) ++ news)) ?_ ?_ (next _ _ ⟨⟨_, toks ++ [tr], n1, _, _, ?_, ?_, ?_, ?_, ?_, rfl, map2 hm⟩⟩)
  · intro p hp
    rcases List.mem_cons.mp hp with rfl | hp
    · exact .tail _ (.tail _ (.tail _ (.tail _ (.head _))))
    · rcases List.mem_cons.mp hp with rfl | hp
      · exact .tail _ (.tail _ (.tail _ (.tail _ (.tail _ (.head _)))))
      · rw [List.cons_append, List.cons_append, List.cons_append, ← hY] at hp
        rcases List.mem_cons.mp hp with rfl | hp
        · exact .head _
        · rcases List.mem_cons.mp hp with rfl | hp
          · exact .tail _ (.head _)
          · rcases List.mem_cons.mp hp with rfl | hp
            · exact .tail _ (.tail _ (.head _))
            · exact .tail _ (.tail _ (.tail _ (.tail _ (.tail _ (.tail _ hp)))))
  · intro p hp
    rcases List.mem_cons.mp hp with rfl | hp
    · exact g2
    · rw [List.cons_append, List.cons_append, List.cons_append, ← hY] at hp
      rcases List.mem_cons.mp hp with rfl | hp
      · exact Nat.ne_of_gt (Nat.lt_trans (Nat.lt_trans g1 h2) h3)
      · rcases List.mem_cons.mp hp with rfl | hp
        · exact Nat.ne_of_gt (Nat.lt_trans g1 h2)
        · rcases List.mem_cons.mp hp with rfl | hp
          · exact Nat.ne_of_gt g1
          · exact g3 p hp
  · rw [List.take_add_one, hx, List.map_append, List.map_append, e1]
    simp [hk, hw]
  · intro j t ht
    rw [List.getElem?_append] at ht
    split at ht
    · exact e2 j t ht
    · rename_i hj
      have : j - toks.length = 0 := by
        have := (List.getElem?_eq_some_iff.mp ht).1
        simp at this
        omega
      rw [this] at ht
      cases ht
      rw [hi]
      omega
  · intro t ht
    rcases List.mem_append.mp ht with ht | ht
    · exact (e3 t ht).sub fun p hp => .tail _ (.tail _ (.tail _ hp))
    · rw [List.mem_singleton.mp ht]
      exact ⟨.head _, .tail _ (.head _), .tail _ (.tail _ (.head _))⟩
  · intro p hp
    rcases List.mem_cons.mp hp with rfl | hp
    · exact Nat.lt_trans (Nat.lt_trans h1 h2) h3
    · rcases List.mem_cons.mp hp with rfl | hp
      · exact Nat.lt_trans h1 h2
      · rcases List.mem_cons.mp hp with rfl | hp
        · exact h1
        · exact e4 p hp
  · intro p hp
    rcases List.mem_cons.mp hp with rfl | hp
    · exact Nat.ne_of_gt (Nat.lt_trans (Nat.lt_trans g1 h2) h3)
    · rcases List.mem_cons.mp hp with rfl | hp
      · exact Nat.ne_of_gt (Nat.lt_trans g1 h2)
      · rcases List.mem_cons.mp hp with rfl | hp
        · exact Nat.ne_of_gt g1
        · exact e5 p hp
theorem toks_len {ws : List Str} {toks : List TR} {i : Nat} (e1 : toks.map (fun t : TR => (t.k, t.w)) = (ws.take i).map (fun x => (kindOf x, x))) (hle : ws.length ≤ 64) : toks.length ≤ 64 := by
  have q1 := congrArg List.length e1
  simp only [List.length_map, List.length_take] at q1
  omega
theorem range_turnE {prog : Program} {w : World} {A : Around} {E : Value → Shared → Prop} {h₀ : Heap} {env : Env} {x : Str} {body : List Stmt} {Q : Flow → Shared → Prop} {s : Shared} {L I : Addr} {a : Int} {n k i : Nat} {m : Str → Option Value} {news : List (Addr × Obj)} (hL : env.locals = L) (C : (Str → Option Value) → List (Addr × Obj) → Prop) (hC : ∀ m' n', C m' n' → RangeRest prog w A E h₀ env x body Q s I a n k (i + 1) m' n')
    (h : ∀ t h tk, Fr h₀ L h (fun y => if y = x then some (.int (a + (i : Int)) t) else m y) → News h₀ L h ((I, itR (a + ((i + 1 : Nat) : Int)) ((n : Int) - ((i + 1 : Nat) : Int))) :: news) → ∀ Q1 : Flow → Shared → Prop, (∀ s₂, UnrEnd h₀ L { s with heap := h, toks := tk } I (itR (a + ((i + 1 : Nat) : Int)) ((n : Int) - ((i + 1 : Nat) : Int))) C s₂ → Q1 .next s₂) → wpAny (model prog w) A (execs body env) Q1 E { s with heap := h, toks := tk }) :
    RangeRest prog w A E h₀ env x body Q s I a n (k + 1) i m news := by
  subst hL
  refine RangeRest.succ fun t h' tk F N => ?_
  refine wpAny_mono (h t h' tk F N (fun f s₂ => f = .next ∧ UnrEnd h₀ env.locals { s with heap := h', toks := tk } I (itR (a + ((i + 1 : Nat) : Int)) ((n : Int) - ((i + 1 : Nat) : Int))) C s₂) fun _ x => ⟨rfl, x⟩) (fun f s₃ y => ?_) (fun _ _ z => z)
  obtain ⟨rfl, h2, tk2, m2, n2, e, F2, N2, off, hc⟩ := y
  exact ⟨h2, tk2, m2, n2, e, F2, N2, off, hC _ _ hc⟩

section
variable {prog : Program} {w : World} {p : Program} {loose : List Str} {mean : ExcName → Option Value} {mg mb : Str → Option Value}
  {dp un : Nat} {gd : Option (List Code)} {cn : Str} {cs : Scope} {a : Addr} {ccd : Value} {cl : List (Str × Addr)} {outer : List Env} {A₀ : Around} {base h₀ : Heap} {L : Addr} {m : Str → Option Value} {s : Shared} {Q E : Value → Shared → Prop}
  {news : List (Addr × Obj)} {k : Int} {u : Tok}
variable (B : Below A₀ base outer h₀) (F : Fr h₀ L s.heap m) (X : (Mine.kMake.heap_1 w.params).In h₀) (T : Top p loose mean mg mb h₀) (hk : cs.kind = .function) (N : News h₀ L s.heap news)
include B F X T hk N
theorem tok_new {x y : Str} {v v' : Tok} {pp : Addr} (hd : dp + 3 < recursionLimit)
    (hret : ∀ a' d' t0 t2 t4 t5 h' tk', Fr h₀ L h' m → News h₀ L h' ((a', instObj 312 d') :: (d', dictOf [⟨PyData.keyHash w.params "kind", .str "kind" t0, .str x v⟩, ⟨PyData.keyHash w.params "worth", .str "worth" t2, .str y v'⟩, ⟨PyData.keyHash w.params "at", .str "at" t4, .ref pp⟩, ⟨PyData.keyHash w.params "is_in_a", .str "is_in_a" t5, .bool false⟩] 4) :: news) → (∀ p ∈ news, p.1 < d') → d' < a' → (∀ p ∈ news, p.1 < a') → Q (.ref a') { s with heap := h', toks := tk' }) :
    wpAny (model prog w) (ktrTop dp un gd cn cs L a ccd cl outer) (call (.ref 312) [.str x v, .str y v', .ref pp]) Q E s := by
  w_top off
  refine call_cls F X N (by k_is) (by k_is) (by k_is) fun a' d' h' F' N' l1 l2 => ?_
  k_dflt (refine' code_def ?zk1 ?zk2 ?zk3 ?zk4 ?zk5 ?zkA ?zkF ?zkK ?zk6 ?zk7 ?zk8 ?zk9 ?zkB ?_ ?zc2 ?zc3 ?zc4 ?zc5; (case zkA => exact rfl); (case zkF => exact rfl); (case zkK => assumption); (case zk1 => k_asm); (case zk2 => k_asm); (case zk3 => k_asm); (case zk4 => k_asm); (case zk5 => k_asm); (case zk6 => k_is); (case zk7 => k_is); (case zk8 => ktr_room); (case zk9 => first | exact BindsTo.of_eq rfl | exact binds_K (by k_in) rfl (by k_is) rfl rfl rfl); (case zc5 => decide); (case zkB => exact locs rfl); (case zc2 => exact rfl); (case zc3 => exact rfl); (case zc4 => exact rfl); k_whole; intro _ _ _ _ _ _ _ _ _; (try dsimp only); (try k_fold))
  repeat' (first | (k_unfold; (try dsimp only)) | (k_end; kc_close) | walk1 | (dsimp only; walk1) | (leave1; (try dsimp only)))
  exact hret _ _ _ _ _ _ _ _ (by k_asm) (by k_asm) l1 l2 (ltLt l1 l2)
local macro_rules | `(tactic| k_ne) => `(tactic| omega)
local macro_rules | `(tactic| k_all) => `(tactic| assumption)
theorem tokens_ok {wl : Addr} {vs : List Value} {ws : List Str} {n : Nat} (hd : dp + 6 < recursionLimit) (hw : (wl, PySem.W.listOf vs.toArray n) ∈ news) (hs : StrsAre vs ws) (hle : ws.length ≤ 64) (hok : ∀ x ∈ ws, WordOk x)
    (hret : ∀ q TK (toks : List TR) n' h' tk', Fr h₀ L h' m → News h₀ L h' ((q, PySem.W.listOf (List.toArray (toks.map fun t => Value.ref t.a)) n') :: (TK ++ news)) → toks.map (fun t : TR => (t.k, t.w)) = ws.map (fun x => (kindOf x, x)) → (∀ (j : Nat) (t : TR), toks[j]? = some t → t.i = (j : Int) + 1) → (∀ t ∈ toks, TIn w.params TK t) → (∀ p ∈ TK, q < p.1) → (∀ p ∈ news, p.1 < q) → Q (.ref q) { s with heap := h', toks := tk' }) :
    wpAny (model prog w) (ktrTop dp un gd cn cs L a ccd cl outer) (call (.ref 554) [.ref wl]) Q E s := by
  w_top off
  refine wpAny_call ?_
  k_dflt (refine' code_def ?zk1 ?zk2 ?zk3 ?zk4 ?zk5 ?zkA ?zkF ?zkK ?zk6 ?zk7 ?zk8 ?zk9 ?zkB ?_ ?zc2 ?zc3 ?zc4 ?zc5; (case zkA => exact rfl); (case zkF => exact rfl); (case zkK => assumption); (case zk1 => k_asm); (case zk2 => k_asm); (case zk3 => k_asm); (case zk4 => k_asm); (case zk5 => k_asm); (case zk6 => k_is); (case zk7 => k_is); (case zk8 => ktr_room); (case zk9 => first | exact BindsTo.of_eq rfl | exact binds_K (by k_in) rfl (by k_is) rfl rfl rfl); (case zc5 => decide); (case zkB => exact locs rfl); (case zc2 => exact rfl); (case zc3 => exact rfl); (case zc4 => exact rfl); k_whole; intro _ _ _ _ _ _ _ _ _; (try dsimp only); (try k_fold))
  repeat' (first | ((fail_if_success (with_reducible show wpAny _ _ (exec (Stmt.For _ _ _ _ _) _) _ _ _)); (((with_reducible show wpAny _ _ (call (Value.builtin _) [Value.ref _, _]) _ _ _); k_dflt (refine' append_K ?zk1 ?zk2 ?zk3 ?_ ?zz; (case zk1 => k_asm); (case zk2 => k_asm); (case zk3 => k_upd); (case zz => (simp only [List.size_toArray, List.length_map]; rw [sizeLine_eq]; omega)); k_whole); intro h'ζ F'ζ N'ζ; (try k_sweep)))) | ((fail_if_success (with_reducible show wpAny _ _ (exec (Stmt.For _ _ _ _ _) _) _ _ _)); (((with_reducible show wpAny _ _ (subscriptTail _ _ (Value.str _ _) (Value.int _ _)) _ _ _); (refine KXi.item rfl wk3 (wk1 (by assumption)) (wk2 (by assumption)) ?_); intro kxiEζ))) | ((fail_if_success (with_reducible show wpAny _ _ (exec (Stmt.For _ _ _ _ _) _) _ _ _)); (((with_reducible show wpAny _ _ (subscriptTail _ _ (Value.ref _) (Value.int _ _)) _ _ _); k_dflt (refine' str_item ?zk1 ?zk2 ?zk3 ?zk4 ?zk5 ?zk6 ?_ ?zk7; (case zk1 => k_asm); (case zk2 => first | assumption | exact List.Mem.tail _ (by assumption) | exact List.Mem.tail _ (List.Mem.tail _ (by assumption)) | exact List.Mem.tail _ (List.Mem.tail _ (List.Mem.tail _ (by assumption))) | exact List.Mem.tail _ (List.Mem.tail _ (List.Mem.tail _ (List.Mem.tail _ (by assumption)))) | exact List.Mem.tail _ (List.Mem.tail _ (List.Mem.tail _ (List.Mem.tail _ (List.Mem.tail _ (by assumption))))) | exact List.Mem.tail _ (List.Mem.tail _ (List.Mem.tail _ (List.Mem.tail _ (List.Mem.tail _ (List.Mem.tail _ (by assumption)))))) | exact List.Mem.tail _ (List.Mem.tail _ (List.Mem.tail _ (List.Mem.tail _ (List.Mem.tail _ (List.Mem.tail _ (List.Mem.tail _ (by assumption))))))) | exact List.Mem.tail _ (List.Mem.tail _ (List.Mem.tail _ (List.Mem.tail _ (List.Mem.tail _ (List.Mem.tail _ (List.Mem.tail _ (List.Mem.tail _ (by assumption)))))))) | exact List.Mem.tail _ (List.Mem.tail _ (List.Mem.tail _ (List.Mem.tail _ (List.Mem.tail _ (List.Mem.tail _ (List.Mem.tail _ (List.Mem.tail _ (List.Mem.tail _ (by assumption)))))))))); (case zk3 => assumption); (case zk4 => assumption); (case zk5 => omega); (case zk6 => first | assumption | exact getAt (by assumption)); (case zk7 => with_unfolding_all rfl); k_whole); intro t9ζ))) | ((fail_if_success (with_reducible show wpAny _ _ (exec (Stmt.For _ _ _ _ _) _) _ _ _)); (((with_reducible show wpAny _ _ (call (Value.builtin _) [Value.ref _]) _ _ _); k_dflt (refine' str_len ?zk1 ?zk2 ?zk3 ?zk4 ?_; (case zk1 => k_asm); (case zk2 => first | assumption | exact List.Mem.tail _ (by assumption) | exact List.Mem.tail _ (List.Mem.tail _ (by assumption)) | exact List.Mem.tail _ (List.Mem.tail _ (List.Mem.tail _ (by assumption))) | exact List.Mem.tail _ (List.Mem.tail _ (List.Mem.tail _ (List.Mem.tail _ (by assumption)))) | exact List.Mem.tail _ (List.Mem.tail _ (List.Mem.tail _ (List.Mem.tail _ (List.Mem.tail _ (by assumption))))) | exact List.Mem.tail _ (List.Mem.tail _ (List.Mem.tail _ (List.Mem.tail _ (List.Mem.tail _ (List.Mem.tail _ (by assumption)))))) | exact List.Mem.tail _ (List.Mem.tail _ (List.Mem.tail _ (List.Mem.tail _ (List.Mem.tail _ (List.Mem.tail _ (List.Mem.tail _ (by assumption))))))) | exact List.Mem.tail _ (List.Mem.tail _ (List.Mem.tail _ (List.Mem.tail _ (List.Mem.tail _ (List.Mem.tail _ (List.Mem.tail _ (List.Mem.tail _ (by assumption)))))))) | exact List.Mem.tail _ (List.Mem.tail _ (List.Mem.tail _ (List.Mem.tail _ (List.Mem.tail _ (List.Mem.tail _ (List.Mem.tail _ (List.Mem.tail _ (List.Mem.tail _ (by assumption)))))))))); (case zk3 => assumption); (case zk4 => assumption); k_whole)))) | ((fail_if_success (with_reducible show wpAny _ _ (exec (Stmt.For _ _ _ _ _) _) _ _ _)); (((with_reducible show wpAny _ _ (call (Value.ref 312) [Value.str _ _, Value.str _ _, Value.ref _]) _ _ _); k_dflt (refine' tok_new ?zb ?zf ?zx ?zt ?zhk ?zn ?zd ?_; (case zb => k_asm); (case zf => k_asm); (case zx => k_asm); (case zt => k_asm); (case zhk => first | exact rfl | assumption); (case zn => k_asm); (case zd => ktr_room); k_whole); intro a'ζ d'ζ t0'ζ t2'ζ t4'ζ t5'ζ h'ζ tk'ζ F'ζ N'ζ l1ζ l2ζ l3ζ; (try k_lt l1ζ); (try k_lt l3ζ)))) | ((fail_if_success (with_reducible show wpAny _ _ (exec (Stmt.For _ _ _ _ _) _) _ _ _)); (((with_reducible show wpAny _ _ (exec (Stmt.For _ _ _ [] _) _) _ _ _); k_strName; (rename Fr _ _ _ _ => lF'ζ); (with_unfolding_all refine' For_invVF lF'ζ ?zk1 ?zk2 ?_; (case zk1 => exact rfl); (case zk2 => exact rfl); k_whole)))) | (k_unfold; (try dsimp only)) | ((fail_if_success (with_reducible show wpAny _ _ (exec (Stmt.For _ _ _ _ _) _) _ _ _)); walk1) | (dsimp only; (fail_if_success (with_reducible show wpAny _ _ (exec (Stmt.For _ _ _ _ _) _) _ _ _)); walk1) | (leave1; try dsimp only))
  (rename Fr _ _ _ _ => lF'; with_unfolding_all refine' For_invVF lF' ?zk1 ?zk2 ?_; (case zk1 => exact rfl); (case zk2 => exact rfl); k_whole)
  repeat' (first | ((fail_if_success (with_reducible show wpAny _ _ (pyIter _) _ _ _)); (((with_reducible show wpAny _ _ (call (Value.builtin _) [Value.ref _, _]) _ _ _); k_dflt (refine' append_K ?zk1 ?zk2 ?zk3 ?_ ?zz; (case zk1 => k_asm); (case zk2 => k_asm); (case zk3 => k_upd); (case zz => (simp only [List.size_toArray, List.length_map]; rw [sizeLine_eq]; omega)); k_whole); intro h'ζ F'ζ N'ζ; (try k_sweep)))) | ((fail_if_success (with_reducible show wpAny _ _ (pyIter _) _ _ _)); (((with_reducible show wpAny _ _ (subscriptTail _ _ (Value.str _ _) (Value.int _ _)) _ _ _); (refine KXi.item rfl wk3 (wk1 (by assumption)) (wk2 (by assumption)) ?_); intro kxiEζ))) | ((fail_if_success (with_reducible show wpAny _ _ (pyIter _) _ _ _)); (((with_reducible show wpAny _ _ (subscriptTail _ _ (Value.ref _) (Value.int _ _)) _ _ _); k_dflt (refine' str_item ?zk1 ?zk2 ?zk3 ?zk4 ?zk5 ?zk6 ?_ ?zk7; (case zk1 => k_asm); (case zk2 => first | assumption | exact List.Mem.tail _ (by assumption) | exact List.Mem.tail _ (List.Mem.tail _ (by assumption)) | exact List.Mem.tail _ (List.Mem.tail _ (List.Mem.tail _ (by assumption))) | exact List.Mem.tail _ (List.Mem.tail _ (List.Mem.tail _ (List.Mem.tail _ (by assumption)))) | exact List.Mem.tail _ (List.Mem.tail _ (List.Mem.tail _ (List.Mem.tail _ (List.Mem.tail _ (by assumption))))) | exact List.Mem.tail _ (List.Mem.tail _ (List.Mem.tail _ (List.Mem.tail _ (List.Mem.tail _ (List.Mem.tail _ (by assumption)))))) | exact List.Mem.tail _ (List.Mem.tail _ (List.Mem.tail _ (List.Mem.tail _ (List.Mem.tail _ (List.Mem.tail _ (List.Mem.tail _ (by assumption))))))) | exact List.Mem.tail _ (List.Mem.tail _ (List.Mem.tail _ (List.Mem.tail _ (List.Mem.tail _ (List.Mem.tail _ (List.Mem.tail _ (List.Mem.tail _ (by assumption)))))))) | exact List.Mem.tail _ (List.Mem.tail _ (List.Mem.tail _ (List.Mem.tail _ (List.Mem.tail _ (List.Mem.tail _ (List.Mem.tail _ (List.Mem.tail _ (List.Mem.tail _ (by assumption)))))))))); (case zk3 => assumption); (case zk4 => assumption); (case zk5 => omega); (case zk6 => first | assumption | exact getAt (by assumption)); (case zk7 => with_unfolding_all rfl); k_whole); intro t9ζ))) | ((fail_if_success (with_reducible show wpAny _ _ (pyIter _) _ _ _)); (((with_reducible show wpAny _ _ (call (Value.builtin _) [Value.ref _]) _ _ _); k_dflt (refine' str_len ?zk1 ?zk2 ?zk3 ?zk4 ?_; (case zk1 => k_asm); (case zk2 => first | assumption | exact List.Mem.tail _ (by assumption) | exact List.Mem.tail _ (List.Mem.tail _ (by assumption)) | exact List.Mem.tail _ (List.Mem.tail _ (List.Mem.tail _ (by assumption))) | exact List.Mem.tail _ (List.Mem.tail _ (List.Mem.tail _ (List.Mem.tail _ (by assumption)))) | exact List.Mem.tail _ (List.Mem.tail _ (List.Mem.tail _ (List.Mem.tail _ (List.Mem.tail _ (by assumption))))) | exact List.Mem.tail _ (List.Mem.tail _ (List.Mem.tail _ (List.Mem.tail _ (List.Mem.tail _ (List.Mem.tail _ (by assumption)))))) | exact List.Mem.tail _ (List.Mem.tail _ (List.Mem.tail _ (List.Mem.tail _ (List.Mem.tail _ (List.Mem.tail _ (List.Mem.tail _ (by assumption))))))) | exact List.Mem.tail _ (List.Mem.tail _ (List.Mem.tail _ (List.Mem.tail _ (List.Mem.tail _ (List.Mem.tail _ (List.Mem.tail _ (List.Mem.tail _ (by assumption)))))))) | exact List.Mem.tail _ (List.Mem.tail _ (List.Mem.tail _ (List.Mem.tail _ (List.Mem.tail _ (List.Mem.tail _ (List.Mem.tail _ (List.Mem.tail _ (List.Mem.tail _ (by assumption)))))))))); (case zk3 => assumption); (case zk4 => assumption); k_whole)))) | ((fail_if_success (with_reducible show wpAny _ _ (pyIter _) _ _ _)); (((with_reducible show wpAny _ _ (call (Value.ref 312) [Value.str _ _, Value.str _ _, Value.ref _]) _ _ _); k_dflt (refine' tok_new ?zb ?zf ?zx ?zt ?zhk ?zn ?zd ?_; (case zb => k_asm); (case zf => k_asm); (case zx => k_asm); (case zt => k_asm); (case zhk => first | exact rfl | assumption); (case zn => k_asm); (case zd => ktr_room); k_whole); intro a'ζ d'ζ t0'ζ t2'ζ t4'ζ t5'ζ h'ζ tk'ζ F'ζ N'ζ l1ζ l2ζ l3ζ; (try k_lt l1ζ); (try k_lt l3ζ)))) | ((fail_if_success (with_reducible show wpAny _ _ (pyIter _) _ _ _)); (((with_reducible show wpAny _ _ (exec (Stmt.For _ _ _ [] _) _) _ _ _); k_strName; (rename Fr _ _ _ _ => lF'ζ); (with_unfolding_all refine' For_invVF lF'ζ ?zk1 ?zk2 ?_; (case zk1 => exact rfl); (case zk2 => exact rfl); k_whole)))) | (k_unfold; (try dsimp only)) | ((fail_if_success (with_reducible show wpAny _ _ (pyIter _) _ _ _)); walk1) | (dsimp only; (fail_if_success (with_reducible show wpAny _ _ (pyIter _) _ _ _)); walk1) | (leave1; try dsimp only))
  (rename IsRange _ _ _ _ _ _ _ _ => hR)
  (rename Fr _ _ _ _ => FZ)
  (rename News _ _ _ _ => NZ)
  have l0 := (by assumption : ∀ p ∈ news, p.1 < _)
  refine iter_rangeUnr (n := ws.length) rfl hR (range_small hle).1 (range_small hle).2 FZ NZ fun I lI => ?_
  refine range_ind (fun l I m i m' news' => TkMid w.params ws news l I m i m' news') _ rfl ?h0 ?done ?step
  case h0 =>
    exact ⟨⟨[], [], _, _, _, rfl, (fun _ _ h => by cases h), (fun _ h => nomatch h), (fun _ h => nomatch h), (fun _ h => nomatch h), rfl, map2 (fun y _ _ => rfl)⟩⟩
  case done =>
    intro m' news' hC h tk
    refine TkMid.elim (K := fun m' n' => Fr _ _ h m' → News _ _ h n' → _) hC ?_
    intro TK toks n' a' b' e1 e2 e3 e4 e5 F' N'
    repeat' (first | (((with_reducible show wpAny _ _ (call (Value.builtin _) [Value.ref _, _]) _ _ _); k_dflt (refine' append_K ?zk1 ?zk2 ?zk3 ?_ ?zz; (case zk1 => k_asm); (case zk2 => k_asm); (case zk3 => k_upd); (case zz => (simp only [List.size_toArray, List.length_map]; rw [sizeLine_eq]; omega)); k_whole); intro h'ζ F'ζ N'ζ; (try k_sweep))) | (((with_reducible show wpAny _ _ (subscriptTail _ _ (Value.str _ _) (Value.int _ _)) _ _ _); (refine KXi.item rfl wk3 (wk1 (by assumption)) (wk2 (by assumption)) ?_); intro kxiEζ)) | (((with_reducible show wpAny _ _ (subscriptTail _ _ (Value.ref _) (Value.int _ _)) _ _ _); k_dflt (refine' str_item ?zk1 ?zk2 ?zk3 ?zk4 ?zk5 ?zk6 ?_ ?zk7; (case zk1 => k_asm); (case zk2 => first | assumption | exact List.Mem.tail _ (by assumption) | exact List.Mem.tail _ (List.Mem.tail _ (by assumption)) | exact List.Mem.tail _ (List.Mem.tail _ (List.Mem.tail _ (by assumption))) | exact List.Mem.tail _ (List.Mem.tail _ (List.Mem.tail _ (List.Mem.tail _ (by assumption)))) | exact List.Mem.tail _ (List.Mem.tail _ (List.Mem.tail _ (List.Mem.tail _ (List.Mem.tail _ (by assumption))))) | exact List.Mem.tail _ (List.Mem.tail _ (List.Mem.tail _ (List.Mem.tail _ (List.Mem.tail _ (List.Mem.tail _ (by assumption)))))) | exact List.Mem.tail _ (List.Mem.tail _ (List.Mem.tail _ (List.Mem.tail _ (List.Mem.tail _ (List.Mem.tail _ (List.Mem.tail _ (by assumption))))))) | exact List.Mem.tail _ (List.Mem.tail _ (List.Mem.tail _ (List.Mem.tail _ (List.Mem.tail _ (List.Mem.tail _ (List.Mem.tail _ (List.Mem.tail _ (by assumption)))))))) | exact List.Mem.tail _ (List.Mem.tail _ (List.Mem.tail _ (List.Mem.tail _ (List.Mem.tail _ (List.Mem.tail _ (List.Mem.tail _ (List.Mem.tail _ (List.Mem.tail _ (by assumption)))))))))); (case zk3 => assumption); (case zk4 => assumption); (case zk5 => omega); (case zk6 => first | assumption | exact getAt (by assumption)); (case zk7 => with_unfolding_all rfl); k_whole); intro t9ζ)) | (((with_reducible show wpAny _ _ (call (Value.builtin _) [Value.ref _]) _ _ _); k_dflt (refine' str_len ?zk1 ?zk2 ?zk3 ?zk4 ?_; (case zk1 => k_asm); (case zk2 => first | assumption | exact List.Mem.tail _ (by assumption) | exact List.Mem.tail _ (List.Mem.tail _ (by assumption)) | exact List.Mem.tail _ (List.Mem.tail _ (List.Mem.tail _ (by assumption))) | exact List.Mem.tail _ (List.Mem.tail _ (List.Mem.tail _ (List.Mem.tail _ (by assumption)))) | exact List.Mem.tail _ (List.Mem.tail _ (List.Mem.tail _ (List.Mem.tail _ (List.Mem.tail _ (by assumption))))) | exact List.Mem.tail _ (List.Mem.tail _ (List.Mem.tail _ (List.Mem.tail _ (List.Mem.tail _ (List.Mem.tail _ (by assumption)))))) | exact List.Mem.tail _ (List.Mem.tail _ (List.Mem.tail _ (List.Mem.tail _ (List.Mem.tail _ (List.Mem.tail _ (List.Mem.tail _ (by assumption))))))) | exact List.Mem.tail _ (List.Mem.tail _ (List.Mem.tail _ (List.Mem.tail _ (List.Mem.tail _ (List.Mem.tail _ (List.Mem.tail _ (List.Mem.tail _ (by assumption)))))))) | exact List.Mem.tail _ (List.Mem.tail _ (List.Mem.tail _ (List.Mem.tail _ (List.Mem.tail _ (List.Mem.tail _ (List.Mem.tail _ (List.Mem.tail _ (List.Mem.tail _ (by assumption)))))))))); (case zk3 => assumption); (case zk4 => assumption); k_whole))) | (((with_reducible show wpAny _ _ (call (Value.ref 312) [Value.str _ _, Value.str _ _, Value.ref _]) _ _ _); k_dflt (refine' tok_new ?zb ?zf ?zx ?zt ?zhk ?zn ?zd ?_; (case zb => k_asm); (case zf => k_asm); (case zx => k_asm); (case zt => k_asm); (case zhk => first | exact rfl | assumption); (case zn => k_asm); (case zd => ktr_room); k_whole); intro a'ζ d'ζ t0'ζ t2'ζ t4'ζ t5'ζ h'ζ tk'ζ F'ζ N'ζ l1ζ l2ζ l3ζ; (try k_lt l1ζ); (try k_lt l3ζ))) | (((with_reducible show wpAny _ _ (exec (Stmt.For _ _ _ [] _) _) _ _ _); k_strName; (rename Fr _ _ _ _ => lF'ζ); (with_unfolding_all refine' For_invVF lF'ζ ?zk1 ?zk2 ?_; (case zk1 => exact rfl); (case zk2 => exact rfl); k_whole))) | (k_unfold; (try dsimp only)) | (k_end; kc_close) | walk1 | (dsimp only; walk1) | (leave1; (try dsimp only)))
    rw [List.take_length] at e1
    exact hret _ _ _ _ _ _ (by k_asm) (by k_asm) e1 e2 e3 e4 l0
  case step =>
    intro i k m' news' hik hC next
    refine TkMid.elim (K := fun m' n' => PySem.W.RangeRest _ _ _ _ _ _ _ _ _ _ _ _ _ _ _ m' n') hC ?_
    intro TK toks n' a' b' e1 e2 e3 e4 e5
    have hi : i < ws.length := by omega
    have hx : ws[i]? = some ws[i] := List.getElem?_eq_getElem hi
    generalize ws[i] = x at hx
    have ho : WordOk x := hok x (List.mem_of_getElem? hx)
    refine range_turnE rfl _ next fun t9 h9 k9 F9 N9 Q1 hQ1 => ?_
    obtain ⟨Y, hY⟩ : ∃ Y, Y = TK ++ news := ⟨_, rfl⟩
    rw [← hY] at N9
    have hwY : (wl, PySem.W.listOf vs.toArray n) ∈ Y := by rw [hY]; exact List.mem_append_right _ hw
    have hYl : ∀ p ∈ Y, p.1 ≠ _ := fun p hp => by
      rw [hY] at hp
      rcases List.mem_append.mp hp with hp | hp
      · exact Nat.ne_of_gt (e4 p hp)
      · exact Nat.ne_of_lt (l0 p hp)
    have hlen := toks_len e1 hle
    have hIl := lI _ (.head _)
    have hYI : ∀ p ∈ Y, p.1 ≠ I := fun p hp => by
      rw [hY] at hp
      rcases List.mem_append.mp hp with hp | hp
      · exact e5 p hp
      · exact Nat.ne_of_lt (lI p (.tail _ hp))
    clear hw
    repeat' (first | (((with_reducible show wpAny _ _ (call (Value.builtin _) [Value.ref _, _]) _ _ _); k_dflt (refine' append_K ?zk1 ?zk2 ?zk3 ?_ ?zz; (case zk1 => k_asm); (case zk2 => k_asm); (case zk3 => k_upd); (case zz => (simp only [List.size_toArray, List.length_map]; rw [sizeLine_eq]; omega)); k_whole); intro h'ζ F'ζ N'ζ; (try k_sweep))) | (((with_reducible show wpAny _ _ (subscriptTail _ _ (Value.str _ _) (Value.int _ _)) _ _ _); (refine KXi.item rfl wk3 (wk1 (by assumption)) (wk2 (by assumption)) ?_); intro kxiEζ)) | (((with_reducible show wpAny _ _ (subscriptTail _ _ (Value.ref _) (Value.int _ _)) _ _ _); k_dflt (refine' str_item ?zk1 ?zk2 ?zk3 ?zk4 ?zk5 ?zk6 ?_ ?zk7; (case zk1 => k_asm); (case zk2 => first | assumption | exact List.Mem.tail _ (by assumption) | exact List.Mem.tail _ (List.Mem.tail _ (by assumption)) | exact List.Mem.tail _ (List.Mem.tail _ (List.Mem.tail _ (by assumption))) | exact List.Mem.tail _ (List.Mem.tail _ (List.Mem.tail _ (List.Mem.tail _ (by assumption)))) | exact List.Mem.tail _ (List.Mem.tail _ (List.Mem.tail _ (List.Mem.tail _ (List.Mem.tail _ (by assumption))))) | exact List.Mem.tail _ (List.Mem.tail _ (List.Mem.tail _ (List.Mem.tail _ (List.Mem.tail _ (List.Mem.tail _ (by assumption)))))) | exact List.Mem.tail _ (List.Mem.tail _ (List.Mem.tail _ (List.Mem.tail _ (List.Mem.tail _ (List.Mem.tail _ (List.Mem.tail _ (by assumption))))))) | exact List.Mem.tail _ (List.Mem.tail _ (List.Mem.tail _ (List.Mem.tail _ (List.Mem.tail _ (List.Mem.tail _ (List.Mem.tail _ (List.Mem.tail _ (by assumption)))))))) | exact List.Mem.tail _ (List.Mem.tail _ (List.Mem.tail _ (List.Mem.tail _ (List.Mem.tail _ (List.Mem.tail _ (List.Mem.tail _ (List.Mem.tail _ (List.Mem.tail _ (by assumption)))))))))); (case zk3 => assumption); (case zk4 => assumption); (case zk5 => omega); (case zk6 => first | assumption | exact getAt (by assumption)); (case zk7 => with_unfolding_all rfl); k_whole); intro t9ζ)) | (((with_reducible show wpAny _ _ (call (Value.builtin _) [Value.ref _]) _ _ _); k_dflt (refine' str_len ?zk1 ?zk2 ?zk3 ?zk4 ?_; (case zk1 => k_asm); (case zk2 => first | assumption | exact List.Mem.tail _ (by assumption) | exact List.Mem.tail _ (List.Mem.tail _ (by assumption)) | exact List.Mem.tail _ (List.Mem.tail _ (List.Mem.tail _ (by assumption))) | exact List.Mem.tail _ (List.Mem.tail _ (List.Mem.tail _ (List.Mem.tail _ (by assumption)))) | exact List.Mem.tail _ (List.Mem.tail _ (List.Mem.tail _ (List.Mem.tail _ (List.Mem.tail _ (by assumption))))) | exact List.Mem.tail _ (List.Mem.tail _ (List.Mem.tail _ (List.Mem.tail _ (List.Mem.tail _ (List.Mem.tail _ (by assumption)))))) | exact List.Mem.tail _ (List.Mem.tail _ (List.Mem.tail _ (List.Mem.tail _ (List.Mem.tail _ (List.Mem.tail _ (List.Mem.tail _ (by assumption))))))) | exact List.Mem.tail _ (List.Mem.tail _ (List.Mem.tail _ (List.Mem.tail _ (List.Mem.tail _ (List.Mem.tail _ (List.Mem.tail _ (List.Mem.tail _ (by assumption)))))))) | exact List.Mem.tail _ (List.Mem.tail _ (List.Mem.tail _ (List.Mem.tail _ (List.Mem.tail _ (List.Mem.tail _ (List.Mem.tail _ (List.Mem.tail _ (List.Mem.tail _ (by assumption)))))))))); (case zk3 => assumption); (case zk4 => assumption); k_whole))) | (((with_reducible show wpAny _ _ (call (Value.ref 312) [Value.str _ _, Value.str _ _, Value.ref _]) _ _ _); k_dflt (refine' tok_new ?zb ?zf ?zx ?zt ?zhk ?zn ?zd ?_; (case zb => k_asm); (case zf => k_asm); (case zx => k_asm); (case zt => k_asm); (case zhk => first | exact rfl | assumption); (case zn => k_asm); (case zd => ktr_room); k_whole); intro a'ζ d'ζ t0'ζ t2'ζ t4'ζ t5'ζ h'ζ tk'ζ F'ζ N'ζ l1ζ l2ζ l3ζ; (try k_lt l1ζ); (try k_lt l3ζ))) | (((with_reducible show wpAny _ _ (exec (Stmt.For _ _ _ [] _) _) _ _ _); k_strName; (rename Fr _ _ _ _ => lF'ζ); (with_unfolding_all refine' For_invVF lF'ζ ?zk1 ?zk2 ?_; (case zk1 => exact rfl); (case zk2 => exact rfl); k_whole))) | (k_unfold; (try dsimp only)) | (k_end; kc_close) | walk1 | (dsimp only; walk1) | (leave1; (try dsimp only)))
    all_goals first
      | exact (bool_no ho.2.2 (by assumption)).elim
      | exact hQ1 _ (tkEnd (tr := ⟨_, _, _, _, _, _, _, _, _, _, _, _, _, _⟩) (by k_asm) (by assumption : News _ _ _ (_ :: _ :: _ :: _ :: _ :: _ :: Y)) hY e1 e2 e3 e4 e5 hx (kind_sign (by assumption)) rfl (by dsimp only; omega) (by show @LT.lt Nat instLTNat _ _; dsimp only; omega) (by show @LT.lt Nat instLTNat _ _; dsimp only; omega) (by assumption) (by show @LT.lt Nat instLTNat _ _; dsimp only; omega) (Nat.ne_of_lt hIl) hYI (fun y h1 h2 => by simp only [h1, h2, if_false]) (fun _ _ h => h))
      | exact hQ1 _ (tkEnd (tr := ⟨_, _, _, _, _, _, _, _, _, _, _, _, _, _⟩) (by k_asm) (by assumption : News _ _ _ (_ :: _ :: _ :: _ :: _ :: _ :: Y)) hY e1 e2 e3 e4 e5 hx (kind_num (by assumption) (by assumption)) rfl (by dsimp only; omega) (by show @LT.lt Nat instLTNat _ _; dsimp only; omega) (by show @LT.lt Nat instLTNat _ _; dsimp only; omega) (by assumption) (by show @LT.lt Nat instLTNat _ _; dsimp only; omega) (Nat.ne_of_lt hIl) hYI (fun y h1 h2 => by simp only [h1, h2, if_false]) (fun _ _ h => h))
      | exact hQ1 _ (tkEnd (tr := ⟨_, _, _, _, _, _, _, _, _, _, _, _, _, _⟩) (by k_asm) (by assumption : News _ _ _ (_ :: _ :: _ :: _ :: _ :: _ :: Y)) hY e1 e2 e3 e4 e5 hx (kind_word (by assumption) (by assumption)) rfl (by dsimp only; omega) (by show @LT.lt Nat instLTNat _ _; dsimp only; omega) (by show @LT.lt Nat instLTNat _ _; dsimp only; omega) (by assumption) (by show @LT.lt Nat instLTNat _ _; dsimp only; omega) (Nat.ne_of_lt hIl) hYI (fun y h1 h2 => by simp only [h1, h2, if_false]) (fun _ _ h => h))
end
-- C29
theorem strs_snoc {vs : List Value} {ws : List Str} {x : Str} {t : Tok} (h : StrsAre vs ws) : StrsAre (vs ++ [.str x t]) (ws ++ [x]) := by
  induction h with
  | nil => exact .cons x t .nil
  | cons y t' r ih => exact .cons y t' ih
theorem dot_ok {ws : List Str} (h : ∀ x ∈ ws, WordOk x) : ∀ x ∈ ws ++ [Str.ofString "."], WordOk x := by
  intro x hx
  rcases List.mem_append.mp hx with hx | hx
  · exact h x hx
  · rw [List.mem_singleton.mp hx]; exact ⟨by decide, by decide, by decide +kernel⟩
section
variable {prog : Program} {w : World} {A : Around} {E : Value → Shared → Prop} {s : Shared} {Q : Value → Shared → Prop} {h₀ : Heap} {L a b : Addr} {m : Str → Option Value} {news : List (Addr × Obj)} {vs : List Value} {v : Value}
theorem add_dot (F : Fr h₀ L s.heap m) (N : News h₀ L s.heap news) (ha : s.heap.IsList a vs.toArray) (hb : s.heap.IsList b #[v]) (hz : vs.length + 1 ≤ sizeLine)
    (h : ∀ D h', Fr h₀ L h' m → News h₀ L h' ((D, PySem.W.listOf (vs ++ [v]).toArray 0) :: news) → (∀ p ∈ news, p.1 < D) → Q (.ref D) { s with heap := h' }) : wpAny (model prog w) A (binaryOp .Add (.ref a) (.ref b)) Q E s :=
  kmk_add_lit F N ha hb rfl (fun D h' F' N' l => h D h' F' (by have e : vs.toArray.toList ++ #[v].toList = vs ++ [v] := rfl; rw [e] at N'; exact N') l) (by simpa using hz)
end
theorem updF_mem {d : Addr} {o : Obj} {l : List (Addr × Obj)} {g : Obj → List (Addr × Obj)} (U : UpdF d o l g) : (d, o) ∈ l := by
  obtain ⟨pre, post, e, _⟩ := U.split
  rw [e]; exact List.mem_append_right _ (.head _)
theorem updF_app {o : Obj} {V : Obj → List (Addr × Obj)} (U : UpdF 232 o (V o) V) : ∀ {tl : List (Addr × Obj)}, (∀ p ∈ tl, p.1 ≠ 232) → UpdF 232 o (tl ++ V o) (fun o => tl ++ V o)
  | [], _ => U
  | q :: _, h => .tail (h q (.head _)) (updF_app U fun p hp => h p (.tail _ hp))
theorem led_of {h₀ h : Heap} {L lst : Addr} {ol o0 : Obj} {V : Obj → List (Addr × Obj)} {TK : List (Addr × Obj)} {x y z : Addr × Obj} (N : News h₀ L h ((lst, ol) :: (TK ++ (x :: y :: z :: V o0)))) (VT : ∀ o, UpdF 232 o (V o) V)
    (h1 : ∀ p ∈ TK, lst < p.1) (h2 : ∀ p ∈ x :: y :: z :: V o0, p.1 < lst) (h3 : ∀ p ∈ y :: z :: V o0, p.1 < x.1) (h4 : z.1 < y.1) (h5 : ∀ p ∈ V o0, p.1 < z.1) :
    ∃ Y : Obj → List (Addr × Obj), News h₀ L h (Y o0) ∧ (∀ o, UpdF 232 o (Y o) Y) ∧ (∀ o, (lst, ol) ∈ Y o) ∧ (∀ o, ∀ p ∈ TK, p ∈ Y o) ∧ (∀ o, ∀ p ∈ V o, p ∈ Y o) := by
  have g0 := h5 _ (updF_mem (VT o0))
  have gy := h3 y (.head _)
  have gx := h2 x (.head _)
  refine ⟨fun o => ((lst, ol) :: (TK ++ [x, y, z])) ++ V o, ?_, fun o => updF_app (VT o) ?_, fun o => .head _, fun o p hp => ?_, fun o p hp => List.mem_append_right _ hp⟩
  · have e : (lst, ol) :: (TK ++ (x :: y :: z :: V o0)) = ((lst, ol) :: (TK ++ [x, y, z])) ++ V o0 := by simp
    show News h₀ L h (((lst, ol) :: (TK ++ [x, y, z])) ++ V o0)
    rw [← e]; exact N
  · intro p hp
    rcases List.mem_cons.mp hp with rfl | hp
    · exact Nat.ne_of_gt (Nat.lt_trans (Nat.lt_trans (Nat.lt_trans g0 h4) gy) gx)
    · rcases List.mem_append.mp hp with hp | hp
      · exact Nat.ne_of_gt (Nat.lt_trans (Nat.lt_trans (Nat.lt_trans (Nat.lt_trans g0 h4) gy) gx) (h1 p hp))
      · rcases List.mem_cons.mp hp with rfl | hp
        · exact Nat.ne_of_gt (Nat.lt_trans (Nat.lt_trans g0 h4) gy)
        · rcases List.mem_cons.mp hp with rfl | hp
          · exact Nat.ne_of_gt (Nat.lt_trans g0 h4)
          · rcases List.mem_cons.mp hp with rfl | hp
            · exact Nat.ne_of_gt g0
            · cases hp
  · exact List.mem_append_left _ (.tail _ (List.mem_append_left _ hp))
/-- a reader made over a ledger -/
theorem hole_of {P : Params} {r : RR} {V : Obj → List (Addr × Obj)} {o0 : Obj} {A : List (Addr × Obj)} (VT : ∀ o, UpdF 232 o (V o) V) (hV : ∀ p ∈ V o0, p.1 < r.dx) (hA : ∀ p ∈ A, r.dx < p.1) (hx : (r.x, instObj 497 r.dx) ∈ A) (hl : ∀ o, (r.tl, r.lst) ∈ V o) (ht : ∀ o, ∀ t ∈ r.toks, TIn P (V o) t) (hle : r.toks.length ≤ 64) :
    Hole P r (fun pos ta o => A ++ (r.dx, r.D P pos ta) :: V o) := by
  have g0 := hV _ (updF_mem (VT o0))
  refine ⟨fun pos ta pos' ta' o => ?_, fun pos ta o => ?_, fun pos ta o hp => ?_⟩
  · clear hx
    induction A with
    | nil =>
      refine .head fun p hp => ?_
      obtain ⟨q, hq, e⟩ := updF_adr (o' := o) (VT o0) p hp
      rw [← e]; exact Nat.ne_of_lt (hV q hq)
    | cons q A ih => exact .tail (Nat.ne_of_gt (hA q (.head _))) (ih fun p hp => hA p (.tail _ hp))
  · have e : ∀ o, A ++ (r.dx, r.D P pos ta) :: V o = (A ++ [(r.dx, r.D P pos ta)]) ++ V o := fun o => by simp
    have z : (fun o => A ++ (r.dx, r.D P pos ta) :: V o) = fun o => (A ++ [(r.dx, r.D P pos ta)]) ++ V o := funext e
    show UpdF 232 o (A ++ (r.dx, r.D P pos ta) :: V o) (fun o => A ++ (r.dx, r.D P pos ta) :: V o)
    rw [z, e]
    refine updF_app (VT o) fun p hp => ?_
    rcases List.mem_append.mp hp with hp | hp
    · exact Nat.ne_of_gt (Nat.lt_trans g0 (hA p hp))
    · rw [List.mem_singleton.mp hp]; exact Nat.ne_of_gt g0
  · exact ⟨List.mem_append_left _ hx, List.mem_append_right _ (.head _), List.mem_append_right _ (.tail _ (hl o)), fun t h => (ht o t h).sub fun p hp => List.mem_append_right _ (.tail _ hp), hle, hp⟩
theorem reader_in {P : Params} {h₀ h : Heap} {L x dx n1 n2 lst nd : Addr} {o1 o2 o0 : Obj} {t0 t1 t2 z : Tok} {toks : List TR} {n' : Nat} {Y : Obj → List (Addr × Obj)} {TK : List (Addr × Obj)}
    (N : News h₀ L h ((n2, o2) :: (n1, o1) :: (x, instObj 497 dx) :: (dx, dictOf [⟨PyData.keyHash P "tokens", .str "tokens" t0, .ref lst⟩, ⟨PyData.keyHash P "at", .str "at" t1, .int 0 z⟩, ⟨PyData.keyHash P "named", .str "named" t2, .ref nd⟩] 3) :: Y o0))
    (YT : ∀ o, UpdF 232 o (Y o) Y) (Yl : ∀ o, (lst, PySem.W.listOf (List.toArray (toks.map fun t => Value.ref t.a)) n') ∈ Y o) (Yk : ∀ o, ∀ p ∈ TK, p ∈ Y o) (e3 : ∀ t ∈ toks, TIn P TK t) (hle : toks.length ≤ 64) (l1 : ∀ p ∈ Y o0, p.1 < dx) (l2 : dx < x) (l3 : dx < n1) (l4 : dx < n2) :
    ∃ (r : RR) (W : Int → Tok → Obj → List (Addr × Obj)), r.x = x ∧ r.toks = toks ∧ Hole P r W ∧ News h₀ L h (W 0 z o0) ∧ (∀ pos ta o, ∀ p ∈ Y o, p ∈ W pos ta o) :=
  ⟨⟨x, dx, lst, nd, t0, t1, t2, toks, n'⟩, _, rfl, rfl, hole_of (r := ⟨x, dx, lst, nd, t0, t1, t2, toks, n'⟩) (A := [(n2, o2), (n1, o1), (x, instObj 497 dx)]) YT l1 (fun p hp => by
    rcases List.mem_cons.mp hp with rfl | hp
    · exact l4
    · rcases List.mem_cons.mp hp with rfl | hp
      · exact l3
      · rw [List.mem_singleton.mp hp]; exact l2) (.tail _ (.tail _ (.head _))) Yl (fun o t ht => (e3 t ht).sub (Yk o)) hle, N, fun pos ta o p hp => List.mem_append_right _ (.tail _ hp)⟩
theorem toks_le {ws : List Str} {x : Str} {toks : List TR} (e1 : toks.map (fun t : TR => (t.k, t.w)) = (ws ++ [x]).map (fun x => (kindOf x, x))) (hle : ws.length ≤ 40) : toks.length ≤ 64 := by
  have q1 := congrArg List.length e1
  simp only [List.length_map, List.length_append, List.length_cons, List.length_nil] at q1
  omega
theorem gtAll {a b c n : Addr} {l : List (Addr × Obj)} (h : b < n ∧ a < n ∧ c < n ∧ AllLt n l) : c < n := h.2.2.1
theorem mem_up {W W' : Int → Tok → Obj → List (Addr × Obj)} {q : Addr × Obj} (h : ∀ pos ta o, q ∈ W pos ta o) (hs : ∀ pos ta o, ∀ p ∈ W pos ta o, p ∈ W' pos ta o) (pos : Int) (ta : Tok) (o : Obj) : q ∈ W' pos ta o := hs pos ta o _ (h pos ta o)
theorem nn_of {toks : List TR} {d : Dat} {n : Int} (h : ∀ d n, startOf toks 0 = .ok d n → 0 ≤ n) (e : startOf toks 0 = .ok d n) : 0 ≤ n := h d n e
theorem tup_size {vs : List Value} {ws : List Str} (h : vs.length = ws.length) : ((vs.toArray.size : Nat) : Int) = ((ws.length : Nat) : Int) := by simp [h]
theorem len_small {ws : List Str} (h : ws.length ≤ 40) : ((ws.length : Nat) : Int) ≤ 16384 := by omega
def atL (us : List Str) (p : Int) : Option Str := us[(p + 0).toNat]?
def wdL (us : List Str) (p : Int) (wd : Str) : Bool := match atL us p with
  | some x => kindOf x == Str.ofString "word" && x == wd
  | none => false
def sgL (us : List Str) (p : Int) (wd : Str) : Bool := match atL us p with
  | some x => kindOf x == Str.ofString "sign" && x == wd
  | none => false
def nmL (us : List Str) (p : Int) : Option Str := match atL us p with
  | some x => if kindOf x == Str.ofString "word" && notResB x then some x else none
  | none => none
def numL (us : List Str) (p : Int) : Bool := match atL us p with
  | some x => kindOf x == Str.ofString "number" && x == Str.ofString "2"
  | none => false
section
variable {toks : List TR} {us : List Str} (h : toks.map (fun t : TR => (t.k, t.w)) = us.map (fun x => (kindOf x, x)))
include h
theorem at_br (p : Int) : (tokAt toks p 0).map (fun t : TR => (t.k, t.w)) = (atL us p).map (fun x => (kindOf x, x)) := by
  unfold tokAt atL
  rw [← List.getElem?_map, ← List.getElem?_map, h]
theorem at_someL {p : Int} {t : TR} (e : tokAt toks p 0 = some t) : atL us p = some t.w ∧ t.k = kindOf t.w := by
  have z := at_br h p
  rw [e] at z
  cases q : atL us p with
  | none => rw [q] at z; cases z
  | some x => rw [q] at z; simp only [Option.map_some, Option.some.injEq, Prod.mk.injEq] at z; exact ⟨by rw [z.2], by rw [z.1, z.2]⟩
theorem at_noneL {p : Int} (e : tokAt toks p 0 = none) : atL us p = none := by
  have z := at_br h p
  rw [e] at z
  cases q : atL us p with
  | none => rfl
  | some x => rw [q] at z; cases z
theorem isWord_L : isWord toks = wdL us := by
  funext p wd
  unfold isWord isWordK wdL
  cases e : tokAt toks p 0 with
  | none => rw [at_noneL h e]
  | some t => simp only [(at_someL h e).1, (at_someL h e).2]
theorem isSign_L : (fun p => isSign toks p 0) = sgL us := by
  funext p wd
  unfold isSign sgL
  cases e : tokAt toks p 0 with
  | none => rw [at_noneL h e]
  | some t => simp only [(at_someL h e).1, (at_someL h e).2]
theorem nmOf_L : nmOf toks = nmL us := by
  funext p
  unfold nmOf nmL
  cases e : tokAt toks p 0 with
  | none => rw [at_noneL h e]
  | some t => simp only [(at_someL h e).1, (at_someL h e).2]
theorem numOf_L : numOf toks = numL us := by
  funext p
  unfold numOf numL
  cases e : tokAt toks p 0 with
  | none => rw [at_noneL h e]
  | some t => simp only [(at_someL h e).1, (at_someL h e).2]
end
def startL (us : List Str) (p : Int) : SR := startW (nmL us) (wdL us) (sgL us) (numL us) p
/-- what the words must be, that the reader's contracts hold of them -/
structure WsOk (us : List Str) (x : Str) : Prop where
  cl : ∀ p x, atL us p = some x → x ≠ Str.ofString "." → (atL us (p + 1)).isSome = true
  cc : ∀ p, wdL us p "CONTINUE" = true → wdL us (p + 1) "CONTINUE" = false
  st : wdL us 0 "START" = true
  nm : nmL us (0 + 1) = some x
  ro : (wdL us (0 + 1 + 1 + 1) "IS" = false → ∀ rel n, keyRelW (wdL us) (sgL us) (0 + 1 + 1 + 1) = .ok rel n → (refW (nmL us) (wdL us) (sgL us) (numL us) n).isSome = true) ∧ (wdL us (0 + 1 + 1 + 1) "IS" = true → ∀ rel n, keyRelW (wdL us) (sgL us) (0 + 1 + 1 + 1 + 1) = .ok rel n → (refW (nmL us) (wdL us) (sgL us) (numL us) n).isSome = true)
  nn : ∀ d n, startL us 0 = .ok d n → 0 ≤ n
theorem ws_toks {us : List Str} {x : Str} (O : WsOk us x) {toks : List TR} (h : toks.map (fun t : TR => (t.k, t.w)) = us.map (fun x => (kindOf x, x))) :
    Closed toks ∧ NoCC toks ∧ isWord toks 0 "START" = true ∧ nmOf toks (0 + 1) = some x ∧ RefOk toks (0 + 1 + 1 + 1) ∧ (∀ d n, startOf toks 0 = .ok d n → 0 ≤ n) := by
  refine ⟨fun p t e hne => ?_, ?_, ?_, ?_, ?_, ?_⟩
  · have z := O.cl p t.w (at_someL h e).1 hne
    cases q : tokAt toks (p + 1) 0 with
    | none => rw [at_noneL h q] at z; exact absurd z (by decide)
    | some _ => rfl
  · unfold NoCC; rw [isWord_L h]; exact O.cc
  · rw [isWord_L h]; exact O.st
  · rw [nmOf_L h]; exact O.nm
  · unfold RefOk keyRel refOf; rw [isWord_L h, isSign_L h, nmOf_L h, numOf_L h]; exact O.ro
  · unfold startOf; rw [isWord_L h, isSign_L h, nmOf_L h, numOf_L h]; exact O.nn
theorem start_L {us : List Str} {toks : List TR} (h : toks.map (fun t : TR => (t.k, t.w)) = us.map (fun x => (kindOf x, x))) {r : SR} (e : startOf toks 0 = r) : startL us 0 = r := by
  unfold startOf at e; rw [isWord_L h, isSign_L h, nmOf_L h, numOf_L h] at e; exact e
theorem fin_ne {P : Params} {r : RR} {W : Int → Tok → Obj → List (Addr × Obj)} {g h : Heap} {L : Addr} {n : Int} {ta : Tok} {o : Obj} (H : Hole P r W) (N : News g L h (W n ta o)) : h.objs.size ≠ 232 := Nat.ne_of_gt (Heap.lt_size (N _ (updF_mem (H.tab n ta o))).1)
theorem fin_tab {P : Params} {r : RR} {W : Int → Tok → Obj → List (Addr × Obj)} {q : Addr × Obj} {n : Int} {ta : Tok} (H : Hole P r W) (hq : q.1 ≠ 232) (o : Obj) : UpdF 232 o (q :: W n ta o) (fun o => q :: W n ta o) := .tail hq (H.tab n ta o)
theorem fin_sub {V Y : Obj → List (Addr × Obj)} {W W9 : Int → Tok → Obj → List (Addr × Obj)} {q : Addr × Obj} {n : Int} {ta : Tok} (h1 : ∀ o, ∀ p ∈ V o, p ∈ Y o) (h2 : ∀ pos ta o, ∀ p ∈ Y o, p ∈ W pos ta o) (h3 : ∀ pos ta o, ∀ p ∈ W pos ta o, p ∈ W9 pos ta o) (o : Obj) (p : Addr × Obj) (hp : p ∈ V o) : p ∈ q :: W9 n ta o := .tail _ (h3 n ta o p (h2 n ta o p (h1 o p hp)))
theorem fin_dat {W : Int → Tok → Obj → List (Addr × Obj)} {q : Addr} {n : Int} {ta : Tok} {v : Value} {d : Dat} {b : Bool} (h : ∀ pos ta o, DatIn (W pos ta o) v d) (o : Obj) : DatIn ((q, ({ cls := .type "tuple", data := .seq #[v, .bool b] } : Obj)) :: W n ta o) (.ref q) (.tuple [d, .bool b]) :=
  DatIn.tuple (.head _) (DatAll.cons ((h n ta o).mono fun _ hp => .tail _ hp) (DatAll.cons (DatIn.bool _) DatAll.nil))
section
variable {prog : Program} {w : World} {A : Around} {E : Value → Shared → Prop} {s : Shared} {h₀ : Heap} {L e : Addr} {m : Str → Option Value} {news : List (Addr × Obj)} {oe od : Obj} {name : Str}
theorem canon_bga : (Manifest.canonical "BaseException.__getattribute__" != "object.__getattribute__") = false := by decide +kernel
theorem ga122 {P : Params} : findIn (K1 P) (.ref 122) "__getattribute__" = some (some (.builtin "BaseException.__getattribute__")) := by kernel_rfl
theorem hk122 {P : Params} : findIn (K1 P) (.ref 122) "__getattr__" = some none := by kernel_rfl
theorem method_exc {f : Addr} {pl : Sem Bool} {Q : Value × List Value → Shared → Prop} (X : (K1 w.params).In s.heap) (I : InstAt s.heap e oe 122 (some od))
    (hf : findIn (K1 w.params) (.ref 122) name = some (some (.ref f))) (ht : typeIn (K1 w.params) (.ref f) = some (.type "function")) (hs : shadowIn (some od) name = some false) (h : Q (.ref f, [.ref e]) s) :
    wpAny (model prog w) A (getMethod (.ref e) name pl) Q E s := by
  unfold getMethod specialOf
  refine wpAny_bind (wpAny_bind (I.type.here ((looks_findIn X ga122).here ?_)))
  dsimp only
  rw [canon_bga, if_neg (by decide)]
  refine wpAny_bind (wpAny_bind (I.type.here ((looks_findIn X hk122).here ?_)))
  refine wpAny_bind (wpAny_bind (I.type.here ((looks_findIn X hf).here (wpAny_bind ((looks_typeIn X ht).here ?_)))))
  rw [if_neg (by decide +kernel)]
  refine wpAny_bind (wpAny_loadPart I.at_ ?_)
  have hd := I.dict
  cases e : oe.dict with
  | none => exact wpAny_bind (wpAny_rule (wpAny_pure h))
  | some dx =>
    rw [e] at hd
    obtain ⟨r, a, b⟩ := Option.map_eq_some_iff.mp hs
    refine wpAny_bind (wpAny_bind (wpAny_loadPart hd ?_))
    rw [nsLook_of a]
    refine wpAny_pure ?_
    rw [b]
    exact wpAny_bind (wpAny_rule (wpAny_pure h))
theorem get_exc {v : Value} {expr : Bool} {Q : Value → Shared → Prop} (X : (K1 w.params).In s.heap) (I : InstAt s.heap e oe 122 (some od)) (hf : findObj (K1 w.params) 122 (some od) name = some (.value v)) (hh : handedIn v = true) (h : Q v { s with toks := s.toks + 1 }) :
    wpAny (model prog w) A (getAttr (.ref e) name expr) Q E s := by
  have L0 := I.type (M := model prog w)
  have L1 := looks_findIn (M := model prog w) X ga122
  have L2 := looks_find (M := model prog w) X I hf
  have LH := looks_hook (M := model prog w) (mc := .ref 122) X (r := none) (hk122 (P := w.params))
  have sub : Looks (model prog w) s.heap (isInstance (.ref e) (.type "BaseException")) true := I.type.andThen (looks_mroIn X (by kernel_rfl))
  have FB := PySem.F.attrBase_Exception
  refine wpAny_bind (wpAny_mkText (wpAny_holding (wpAny_bind (L0 _ _ _ _ (fun _ _ e => e) (wpAny_bind (L1 _ _ _ _ (fun _ _ e => e) ?_))))))
  dsimp only
  rw [show (onTheHeap (.ref 122) && Value.builtin "BaseException.__getattribute__" == Value.builtin "object.__getattribute__") = false from by rw [show (Value.builtin "BaseException.__getattribute__" == Value.builtin "object.__getattribute__") = false from by decide +kernel, Bool.and_false], if_neg (by decide)]
  refine wpAny_bind (LH _ _ _ _ (fun _ _ e => e) (wpAny_bind (wpAny_attempt (wpAny_holding ?_))))
  unfold callGetattribute
  rw [show (expr && onTheHeap (Value.builtin "BaseException.__getattribute__")) = false from Bool.and_false _, if_neg (by decide)]
  unfold boundAndCalled
  rw [FB.ga.bind]
  refine wpAny_bind (wpAny_pure ?_)
  show wpAny _ _ (call (.builtin "BaseException.__getattribute__") [.ref e, .str name s.toks]) _ _ _
  refine wpAny_call ?_
  refine codeAny_call_builtin FB.ga.plain PySem.F.entry_bexc_ga ?_
  refine @check_slot (model prog w) _ _ { s with toks := s.toks + 1 } "BaseException.__getattribute__" "BaseException" "__getattribute__" (.ref e) [.str name s.toks] [] _ (by decide +kernel) (by decide +kernel) sub (PySem.F.args_bexc_ga (.ref e) (.str name s.toks)) ?_
  refine wpAny_bind (wpAny_pure (wpAny_bind (wpAny_pure (wpAny_bind (L0 _ _ _ _ (fun _ _ e => e) (wpAny_bind (L2 _ _ _ _ (fun _ _ e => e) ?_)))))))
  refine wpAny_pure ?_
  show wpAny _ _ (handedOut v) _ _ _
  rw [handedOut_of hh]; exact wpAny_pure h
end
section
variable {prog : Program} {w : World} {A : Around} {E : Value → Shared → Prop} {s : Shared} {h₀ : Heap} {L e d pp : Addr} {m : Str → Option Value} {news : List (Addr × Obj)} {oe : Obj} {x : Str} {v k1 k2 : Tok}
  (F : Fr h₀ L s.heap m) (X₀ : (K1 w.params).In h₀) (N : News h₀ L s.heap news) (ie : (e, oe) ∈ news) (id : (d, excDict w.params x v pp k1 k2) ∈ news) (hc : oe.cls = .ref 122) (hd : oe.dict = some d) (hdt : ∃ vs, oe.data = .fields vs)
include N ie id hc hd hdt
theorem exc_inst : InstAt s.heap e oe 122 (some (excDict w.params x v pp k1 k2)) := by
  refine ⟨(N _ ie).1, hc, ?_, ?_⟩
  · obtain ⟨vs, q⟩ := hdt; unfold notCls; rw [q]
  · rw [hd]; exact (N _ id).1
include F X₀
theorem told_method {pl : Sem Bool} {Q : Value × List Value → Shared → Prop} (h : Q (.ref 94, [.ref e]) s) : wpAny (model prog w) A (getMethod (.ref e) "told" pl) Q E s :=
  method_exc (X₀.keeps F.keep) (exc_inst N ie id hc hd hdt) (by kernel_rfl) (by kernel_rfl) (by rfl) h
theorem told_what {expr : Bool} {Q : Value → Shared → Prop} (h : Q (.str x v) { s with toks := s.toks + 1 }) : wpAny (model prog w) A (getAttr (.ref e) "what" expr) Q E s :=
  get_exc (X₀.keeps F.keep) (exc_inst N ie id hc hd hdt) (by rfl) rfl h
theorem told_at {expr : Bool} {Q : Value → Shared → Prop} (h : Q (.ref pp) { s with toks := s.toks + 1 }) : wpAny (model prog w) A (getAttr (.ref e) "at" expr) Q E s :=
  get_exc (X₀.keeps F.keep) (exc_inst N ie id hc hd hdt) (by rfl) rfl h
end
/-- a tuple that lies in the ledger, or in the written part -/
def TupIn (P : Params) (news : List (Addr × Obj)) (q : Addr) (its : Array Value) : Prop :=
  (q, ({ cls := .type "tuple", data := .seq its } : Obj)) ∈ news ∨ ∃ n d sl, (K1 P).lookup q = some { cls := .type "tuple", dict := d, data := .seq its n, slots := sl }
section
variable {prog : Program} {w : World} {A : Around} {E : Value → Shared → Prop} {s : Shared} {Q : Value → Shared → Prop} {h₀ : Heap} {L q : Addr} {m : Str → Option Value} {news : List (Addr × Obj)} {its : Array Value} {k : Int} {u : Tok}
  (F : Fr h₀ L s.heap m) (X : (Mine.kMake.heap_1 w.params).In h₀) (N : News h₀ L s.heap news) (ht : TupIn w.params news q its)
include F X N
include ht in
theorem tupIn_is : IsTup s.heap q its := by
  rcases ht with h | ⟨n, d, sl, h⟩
  · exact News.isTup N h
  · exact kun_topT F X h
include ht in
theorem tupIn_len (hle : its.size ≤ 64) (h : Q (.int (its.size : Int) (s.toks + 1)) { s with toks := s.toks + 1 + 1 }) : wpAny (model prog w) A (call (.builtin "len") [.ref q]) Q E s :=
  kun_lenT (tupIn_is F X N ht) rfl (by omega) h
include ht in
theorem tupIn_item {value slice : PySem.Expr} (hle : its.size ≤ 64) (h0 : 0 ≤ k) (h1 : k < (its.size : Int)) (h : ∀ (j : Nat) x, its[j]? = some x → Q x s)
    (hs : subscripted slice false (.ref q) (.int k u) = operate [.ref q, .int k u] (getItem (.ref q) (.int k u)) := by with_unfolding_all rfl) :
    wpAny (model prog w) A (subscriptTail value slice (.ref q) (.int k u)) Q E s := by
  have hx : its[k.toNat]? = some its[k.toNat] := Array.getElem?_eq_getElem (by omega)
  have T := tupIn_is F X N ht
  exact tail_any T.typeIs slot_tuple_getitem.lookup (getItem_tuple T (by omega) (by omega) (j := k.toNat) (seqIndex_of h0 h1) hx (h _ _ hx)) hs
theorem tupIn_list {vs : List Value} (ht : TupIn w.params news q vs.toArray) (hz : vs.length ≤ sizeLine) (h : ∀ D c h', Fr h₀ L h' m → News h₀ L h' ((D, PySem.W.listOf vs.toArray c) :: news) → (∀ p ∈ news, p.1 < D) → Q (.ref D) { s with heap := h' }) :
    wpAny (model prog w) A (call (.type "list") [.ref q]) Q E s :=
  list_copyKT F N (tupIn_is F X N ht) (fun D c h' F' N' l1 => h D c h' F' N' l1) (by simpa using hz)
end
theorem TupIn.mono {P : Params} {news news' : List (Addr × Obj)} {q : Addr} {its : Array Value} (h : TupIn P news q its) (hs : ∀ p ∈ news, p ∈ news') : TupIn P news' q its := h.imp (hs _) (fun x => x)
theorem tup_up {P : Params} {W W' : Int → Tok → Obj → List (Addr × Obj)} {q : Addr} {its : Array Value} (h : ∀ pos ta o, TupIn P (W pos ta o) q its) (hs : ∀ pos ta o, ∀ p ∈ W pos ta o, p ∈ W' pos ta o) (pos : Int) (ta : Tok) (o : Obj) : TupIn P (W' pos ta o) q its := (h pos ta o).mono (hs pos ta o)

section
variable {prog : Program} {w : World} {p : Program} {loose : List Str} {mean : ExcName → Option Value} {mg mb : Str → Option Value}
  {dp un : Nat} {gd : Option (List Code)} {cn : Str} {cs : Scope} {a : Addr} {ccd : Value} {cl : List (Str × Addr)} {outer : List Env} {A₀ : Around} {base h₀ : Heap} {L : Addr} {m : Str → Option Value} {s : Shared} {Q E : Value → Shared → Prop}
  {news : List (Addr × Obj)} {k : Int} {u : Tok}
variable (B : Below A₀ base outer h₀) (F : Fr h₀ L s.heap m) (X : (Mine.kMake.heap_1 w.params).In h₀) (T : Top p loose mean mg mb h₀) (hk : cs.kind = .function) (N : News h₀ L s.heap news)
include B F X T hk N
theorem reader_new {q : Addr} (hd : dp + 3 < recursionLimit)
    (hret : ∀ a' d' nd on t0 t1 t2 z h' tk', Fr h₀ L h' m → News h₀ L h' ((nd, on) :: (a', instObj 497 d') :: (d', dictOf [⟨PyData.keyHash w.params "tokens", .str "tokens" t0, .ref q⟩, ⟨PyData.keyHash w.params "at", .str "at" t1, .int 0 z⟩, ⟨PyData.keyHash w.params "named", .str "named" t2, .ref nd⟩] 3) :: news) → (∀ p ∈ news, p.1 < d') → d' < a' → a' < nd → Q (.ref a') { s with heap := h', toks := tk' }) :
    wpAny (model prog w) (ktrTop dp un gd cn cs L a ccd cl outer) (call (.ref 497) [.ref q]) Q E s := by
  w_top off
  refine call_cls F X N (by k_is) (by k_is) (by k_is) fun a' d' h' F' N' l1 l2 => ?_
  k_dflt (refine' code_def ?zk1 ?zk2 ?zk3 ?zk4 ?zk5 ?zkA ?zkF ?zkK ?zk6 ?zk7 ?zk8 ?zk9 ?zkB ?_ ?zc2 ?zc3 ?zc4 ?zc5; (case zkA => exact rfl); (case zkF => exact rfl); (case zkK => assumption); (case zk1 => k_asm); (case zk2 => k_asm); (case zk3 => k_asm); (case zk4 => k_asm); (case zk5 => k_asm); (case zk6 => k_is); (case zk7 => k_is); (case zk8 => ktr_room); (case zk9 => first | exact BindsTo.of_eq rfl | exact binds_K (by k_in) rfl (by k_is) rfl rfl rfl); (case zc5 => decide); (case zkB => exact locs rfl); (case zc2 => exact rfl); (case zc3 => exact rfl); (case zc4 => exact rfl); k_whole; intro _ _ _ _ _ _ _ _ _; (try dsimp only); (try k_fold))
  repeat' (first | (k_unfold; (try dsimp only)) | (k_end; kc_close) | walk1 | (dsimp only; walk1) | (leave1; (try dsimp only)))
  have l9 := (by assumption : a' < _ ∧ d' < _ ∧ AllLt _ news)
  exact hret _ _ _ _ _ _ _ _ _ _ (by k_asm) (by k_asm) l1 l2 l9.1
end
-- C30
theorem room_h {dp : Nat} (h : dp + 26 < recursionLimit) : dp + 1 < recursionLimit := by omega
theorem pair_in {P : Params} {r : RR} {W : Int → Tok → Obj → List (Addr × Obj)} {n : Int} {t : TR} (H : Hole P r W) (h : tokAt r.toks n 0 = some t) (pos : Int) (ta : Tok) (o : Obj) : (t.p, t.pair) ∈ W pos ta o := by
  have z := ((H.rin 0 ta o (Int.le_refl 0)).it t (tokAt_mem h)).ip
  rcases (upd_mem (H.upd 0 ta pos ta o)).2 _ z with e | e
  · have q : Value.type "tuple" = Value.type "dict" := congrArg (fun q : Addr × Obj => q.2.cls) e
    exact absurd q (by decide)
  · exact e.2
theorem place_of {toks : List TR} {n : Int} {t : TR} (e2 : ∀ (j : Nat) (t : TR), toks[j]? = some t → t.i = (j : Int) + 1) (h : tokAt toks n 0 = some t) : t.i - 1 = ((n.toNat : Nat) : Int) := by
  have z := e2 _ t h
  rw [z, show n + 0 = n from by omega]; omega
theorem heard_sub {h₀ h : Heap} {L : Addr} {a b c : Addr × Obj} {V Y : Obj → List (Addr × Obj)} {W : Int → Tok → Obj → List (Addr × Obj)} {n : Int} {ta : Tok} {o : Obj} (N : News h₀ L h (a :: b :: c :: W n ta o)) (h1 : ∀ o, ∀ p ∈ V o, p ∈ Y o) (h2 : ∀ pos ta o, ∀ p ∈ Y o, p ∈ W pos ta o) : News h₀ L h (V o) :=
  fun p hp => N p (.tail _ (.tail _ (.tail _ (h2 n ta o p (h1 o p hp)))))

local macro_rules | `(tactic| k_mem) => `(tactic| first | exact List.Mem.tail _ (by assumption) | exact List.Mem.tail _ (List.Mem.tail _ (by assumption)) | exact List.Mem.tail _ (List.Mem.tail _ (List.Mem.tail _ (by assumption))))
section
variable {prog : Program} {w : World} {p : Program} {loose : List Str} {mean : ExcName → Option Value} {mg mb : Str → Option Value}
  {dp un : Nat} {gd : Option (List Code)} {cn : Str} {cs : Scope} {a : Addr} {ccd : Value} {A₀ : Around} {base h₀ : Heap} {L : Addr} {m : Str → Option Value} {s : Shared} {Q E : Value → Shared → Prop} {ps : Array Value}
theorem heard_ok {q : Addr} {vs : List Value} {ws : List Str} {V : Obj → List (Addr × Obj)} (B : Below A₀ base [] h₀) (F : Fr h₀ L s.heap m) (X : (Mine.kMake.heap_1 w.params).In h₀) (T : Top p loose mean mg mb h₀) (hk : cs.kind = .function) (XB : (Mine.kMake.heap_1 w.params).In base) (TB : Top p loose mean mg mb base)
    (N : News h₀ L s.heap (V (tabObj ps))) (C : CodeHd base 236 232) (VT : ∀ o, UpdF 232 o (V o) V) (tb : TabOk ⟨174, 36, 174, 76⟩ ps) (hu : un + 130 < cLine) (hd : dp + 26 < recursionLimit)
    (hq : ∀ o, TupIn w.params (V o) q vs.toArray) (hs : StrsAre vs ws) (hle : ws.length ≤ 40) (hok : ∀ x ∈ ws, WordOk x) {x : Str} (O : WsOk (ws ++ [Str.ofString "."]) x)
    (hret : ∀ d n, startL (ws ++ [Str.ofString "."]) 0 = .ok d n → ∀ q2 V' h' tk' ps', TabOk ⟨174, 36, 174, 76⟩ ps' → (∀ o, UpdF 232 o (V' o) V') → (∀ o, ∀ p ∈ V o, p ∈ V' o) → (∀ o, DatIn (V' o) (.ref q2) (.tuple [d, .bool (n == (ws.length : Int))])) → Fr h₀ L h' m → News h₀ L h' (V' (tabObj ps')) → Q (.ref q2) { s with heap := h', toks := tk' })
    (hbad : ∀ n, startL (ws ++ [Str.ofString "."]) 0 = .bad n → ∀ t h' tk' ps', TabOk ⟨174, 36, 174, 76⟩ ps' → Fr h₀ L h' m → News h₀ L h' (V (tabObj ps')) → Q (.int (n.toNat : Int) t) { s with heap := h', toks := tk' }) :
    wpAny (model prog w) (ktrTop dp un gd cn cs L a ccd [] []) (call (.ref 568) [.ref q, .ref 617]) Q E s := by
  w_top off
  have hlen := strsAre_len hs
  have hqo := hq (tabObj ps)
  refine wpAny_call ?_
  k_dflt (refine' code_defS0 ?k1 ?k2 ?k3 ?k4 ?k5 ?kA ?k6 ?k7 ?k8 ?k9 ?kB ?_ ?cK ?c2 ?c3 ?c4 ?c5; (case kA => exact rfl); (case k2 => k_asm); (case k1 => k_asm); (case k3 => k_asm); (case k4 => k_asm); (case k5 => k_asm); (case k6 => k_is); (case k7 => k_is); (case k8 => ktr_room); (case k9 => exact BindsTo.of_eq rfl); (case kB => exact locs rfl); (case cK => assumption); (case c2 => exact rfl); (case c3 => exact rfl); (case c4 => exact rfl); (case c5 => decide); k_whole; intro g' L' h' FG' F' N' B' X' T' D'; (try dsimp only); (try k_lift B'); (try k_fold))
  repeat' (first | ((fail_if_success (with_reducible show wpAny _ _ (call (Value.ref 554) _) _ _ _)); (((with_reducible show wpAny _ _ (call (Value.ref 617) [Value.ref _, _]) _ _ _); k_dflt (refine' law_read ?zb ?zf ?zx ?zt ?zhk ?zhH ?zhp ?zn ?zwC ?zwtb ?zwu ?zwhd ?zwc ?zwn ?zwz ?zwx ?zwro ?_ ?_; (case zb => k_asm); (case zf => k_asm); (case zx => k_asm); (case zt => k_asm); (case zhk => first | exact rfl | assumption); (case zhH => assumption); (case zn => k_asm); (case zhp => first | assumption | omega); (case zwC => assumption); (case zwtb => assumption); (case zwu => (dsimp only [ktrTop, Around.deeper]; omega)); (case zwhd => ktr_room); (case zwc => assumption); (case zwn => assumption); (case zwz => assumption); (case zwx => assumption); (case zwro => assumption); k_whole); (all_goals first | (intro d9ζ n9ζ hr9ζ v9ζ W9ζ h9ζ k9ζ ta9ζ ps9ζ tb9ζ H9ζ sub9ζ dat9ζ F9ζ N9ζ; (have dat8ζ : ∀ pos ta o, DatIn (W9ζ pos ta o) v9ζ d9ζ := dat9ζ); (have hp9ζ := nn_of (by assumption) hr9ζ); (have q9ζ := tup_up (by assumption) sub9ζ); (have q8ζ := q9ζ n9ζ ta9ζ (tabObj ps9ζ))) | (intro n9ζ hr9ζ t9ζ g9ζ e9ζ d9ζ x9ζ v9ζ k19ζ k29ζ ta9ζ ps9ζ h9ζ tk9ζ ht9ζ tb9ζ F9ζ R9ζ U9ζ; have p8ζ := pair_in (by assumption) ht9ζ n9ζ ta9ζ (tabObj ps9ζ))); (all_goals intros); (all_goals (try k_sweep))))) | ((fail_if_success (with_reducible show wpAny _ _ (call (Value.ref 554) _) _ _ _)); (((with_reducible show wpAny _ _ (call (Value.builtin "len") [Value.ref _]) _ _ _); k_dflt (refine' kun_lenT ?zk1 ?zk2 ?zk3 ?_; (case zk1 => exact tupIn_is (by k_asm) (by k_asm) (by k_asm) (by assumption)); (case zk2 => exact tup_size (by assumption)); (case zk3 => exact len_small (by assumption)); k_whole)))) | ((fail_if_success (with_reducible show wpAny _ _ (call (Value.ref 554) _) _ _ _)); (((with_reducible show wpAny _ _ (binaryOp _ (Value.ref _) (Value.ref _)) _ _ _); k_dflt (refine' add_dot ?zF ?zN ?za ?zb ?zz ?_; (case zF => k_asm); (case zN => k_asm); (case za => kmk_list); (case zb => kmk_list); (case zz => (rw [sizeLine_eq]; omega))); intro D'ζ h'ζ F'ζ N'ζ l1ζ; (try k_sweep)))) | ((fail_if_success (with_reducible show wpAny _ _ (call (Value.ref 554) _) _ _ _)); (((with_reducible show wpAny _ _ (call (Value.type _) [Value.ref _]) _ _ _); k_dflt (refine' tupIn_list ?zF ?zX ?zN ?zb ?zz ?_; (case zF => k_asm); (case zX => k_asm); (case zN => k_asm); (case zb => assumption); (case zz => (rw [sizeLine_eq]; omega))); intro D'ζ c'ζ h'ζ F'ζ N'ζ l1ζ; (try k_sweep)))) | ((fail_if_success (with_reducible show wpAny _ _ (call (Value.ref 554) _) _ _ _)); (((with_reducible show wpAny _ _ (call (Value.ref 497) [Value.ref _]) _ _ _); k_dflt (refine' reader_new ?zb ?zf ?zx ?zt ?zhk ?zn ?zd ?_; (case zb => k_asm); (case zf => k_asm); (case zx => k_asm); (case zt => k_asm); (case zhk => first | exact rfl | assumption); (case zn => k_asm); (case zd => ktr_room); k_whole); intro a'ζ d'ζ nd'ζ on'ζ t0'ζ t1'ζ t2'ζ z'ζ h'ζ tk'ζ F'ζ N'ζ l1ζ l2ζ l3ζ; (try k_lt l1ζ); (have l4ζ := Nat.lt_trans l2ζ l3ζ); (try k_sweep)))) | ((fail_if_success (with_reducible show wpAny _ _ (call (Value.ref 554) _) _ _ _)); (((with_reducible show wpAny _ _ (getAttr (Value.ref _) (PySem.Str.ofString "at") _) _ _ _); k_dflt (refine' told_at ?zk1 ?zk2 ?zk3 ?zk4 ?zk5 ?zk6 ?zk7 ?zk8 ?_; (case zk1 => k_asm); (case zk2 => k_asm); (case zk3 => k_asm); (case zk6 => assumption); (case zk7 => assumption); (case zk8 => assumption); (case zk4 => (first | exact List.Mem.head _ | exact List.Mem.tail _ (List.Mem.head _) | exact List.Mem.tail _ (List.Mem.tail _ (List.Mem.head _)))); (case zk5 => (first | exact List.Mem.head _ | exact List.Mem.tail _ (List.Mem.head _) | exact List.Mem.tail _ (List.Mem.tail _ (List.Mem.head _)))); k_whole)))) | ((fail_if_success (with_reducible show wpAny _ _ (call (Value.ref 554) _) _ _ _)); (((with_reducible show wpAny _ _ (getAttr (Value.ref _) (PySem.Str.ofString "what") _) _ _ _); k_dflt (refine' told_what ?zk1 ?zk2 ?zk3 ?zk4 ?zk5 ?zk6 ?zk7 ?zk8 ?_; (case zk1 => k_asm); (case zk2 => k_asm); (case zk3 => k_asm); (case zk6 => assumption); (case zk7 => assumption); (case zk8 => assumption); (case zk4 => (first | exact List.Mem.head _ | exact List.Mem.tail _ (List.Mem.head _) | exact List.Mem.tail _ (List.Mem.tail _ (List.Mem.head _)))); (case zk5 => (first | exact List.Mem.head _ | exact List.Mem.tail _ (List.Mem.head _) | exact List.Mem.tail _ (List.Mem.tail _ (List.Mem.head _)))); k_whole)))) | ((fail_if_success (with_reducible show wpAny _ _ (call (Value.ref 554) _) _ _ _)); (((with_reducible show wpAny _ _ (getMethod (Value.ref _) (PySem.Str.ofString "told") _) _ _ _); k_dflt (refine' told_method ?zk1 ?zk2 ?zk3 ?zk4 ?zk5 ?zk6 ?zk7 ?zk8 ?_; (case zk1 => k_asm); (case zk2 => k_asm); (case zk3 => k_asm); (case zk6 => assumption); (case zk7 => assumption); (case zk8 => assumption); (case zk4 => (first | exact List.Mem.head _ | exact List.Mem.tail _ (List.Mem.head _) | exact List.Mem.tail _ (List.Mem.tail _ (List.Mem.head _)))); (case zk5 => (first | exact List.Mem.head _ | exact List.Mem.tail _ (List.Mem.head _) | exact List.Mem.tail _ (List.Mem.tail _ (List.Mem.head _)))); k_whole)))) | ((fail_if_success (with_reducible show wpAny _ _ (call (Value.ref 554) _) _ _ _)); (((with_reducible show wpAny _ _ (call (Value.ref 94) _ _) _ _ _); k_dflt (show wpAny _ _ (call (Value.ref 94) [Value.ref _]) _ _ _); k_dflt (refine wpAny_call ?_; (refine' code_def ?zk1 ?zk2 ?zk3 ?zk4 ?zk5 ?zkA ?zkF ?zkK ?zk6 ?zk7 ?zk8 ?zk9 ?zkB ?_ ?zc2 ?zc3 ?zc4 ?zc5; (case zkA => exact rfl); (case zkF => exact rfl); (case zkK => first | exact rfl | assumption); (case zk1 => k_asm); (case zk2 => k_asm); (case zk3 => k_asm); (case zk4 => k_asm); (case zk5 => k_asm); (case zk6 => k_is); (case zk7 => k_is); (case zk8 => exact room_h (by assumption)); (case zk9 => exact BindsTo.of_eq rfl); (case zc5 => decide); (case zkB => exact locs rfl); (case zc2 => exact rfl); (case zc3 => exact rfl); (case zc4 => exact rfl); k_whole; intro g'ζ L'ζ h'ζ FG'ζ F'ζ N'ζ B'ζ X'ζ T'ζ; (try dsimp only); (try k_fold)))))) | ((fail_if_success (with_reducible show wpAny _ _ (call (Value.ref 554) _) _ _ _)); ((with_reducible show wpAny _ _ (noteFrame (Value.ref _) _) _ _ _); (((rename RaisedD _ _ _ _ _ _ _ => rsXζ); k_dflt (refine' caught_D ?zR ?zF ?zK ?zU ?zXB ?zTB ?zD ?_; (case zR => assumption); (case zF => assumption); (case zK => assumption); (case zU => assumption); (case zXB => assumption); (case zTB => assumption); (case zD => assumption); k_whole); intro h'ζ g'ζ oeζ tk'ζ T'ζ F'ζ N'ζ ocζ odζ ofζ K'ζ X'ζ P'ζ D'ζ; (replace X'ζ : (Mine.kMake.heap_1 _).In g'ζ := X'ζ); (try k_lift K'ζ); (try k_sweep))))) | (k_unfold; (try dsimp only)) | ((fail_if_success (with_reducible show wpAny _ _ (call (Value.ref 554) _) _ _ _)); walk1) | (dsimp only; (fail_if_success (with_reducible show wpAny _ _ (call (Value.ref 554) _) _ _ _)); walk1) | (leave1; try dsimp only))
  (rename News _ _ _ _ => NZ)
  k_dflt (refine' tokens_ok (ws := ws ++ [Str.ofString "."]) ?b ?f ?x ?t ?hk ?n ?d ?m ?s ?l ?o ?_; (case b => k_asm); (case f => k_asm); (case x => k_asm); (case t => k_asm); (case hk => exact rfl); (case n => exact NZ); (case m => exact .head _); (case d => ktr_room); (case s => exact strs_snoc hs); (case l => (simp only [List.length_append, List.length_cons, List.length_nil]; omega)); (case o => exact dot_ok hok); k_whole); intro lst TK toks n' h9 tk9 F9 N9 e1 e2 e3 e4 e5
  clear NZ
  obtain ⟨Y, NY, YT, Yl, Yk, YV⟩ := led_of N9 VT e4 e5 (by assumption) (And.left (by assumption : _ < _ ∧ AllLt _ (V (tabObj ps)))) (by assumption : ∀ q ∈ V (tabObj ps), q.1 < _)
  clear N9
  repeat' (first | ((fail_if_success (with_reducible show wpAny _ _ (exec (Stmt.Try _ _ _ _ _) _) _ _ _)); (((with_reducible show wpAny _ _ (call (Value.ref 617) [Value.ref _, _]) _ _ _); k_dflt (refine' law_read ?zb ?zf ?zx ?zt ?zhk ?zhH ?zhp ?zn ?zwC ?zwtb ?zwu ?zwhd ?zwc ?zwn ?zwz ?zwx ?zwro ?_ ?_; (case zb => k_asm); (case zf => k_asm); (case zx => k_asm); (case zt => k_asm); (case zhk => first | exact rfl | assumption); (case zhH => assumption); (case zn => k_asm); (case zhp => first | assumption | omega); (case zwC => assumption); (case zwtb => assumption); (case zwu => (dsimp only [ktrTop, Around.deeper]; omega)); (case zwhd => ktr_room); (case zwc => assumption); (case zwn => assumption); (case zwz => assumption); (case zwx => assumption); (case zwro => assumption); k_whole); (all_goals first | (intro d9ζ n9ζ hr9ζ v9ζ W9ζ h9ζ k9ζ ta9ζ ps9ζ tb9ζ H9ζ sub9ζ dat9ζ F9ζ N9ζ; (have dat8ζ : ∀ pos ta o, DatIn (W9ζ pos ta o) v9ζ d9ζ := dat9ζ); (have hp9ζ := nn_of (by assumption) hr9ζ); (have q9ζ := tup_up (by assumption) sub9ζ); (have q8ζ := q9ζ n9ζ ta9ζ (tabObj ps9ζ))) | (intro n9ζ hr9ζ t9ζ g9ζ e9ζ d9ζ x9ζ v9ζ k19ζ k29ζ ta9ζ ps9ζ h9ζ tk9ζ ht9ζ tb9ζ F9ζ R9ζ U9ζ; have p8ζ := pair_in (by assumption) ht9ζ n9ζ ta9ζ (tabObj ps9ζ))); (all_goals intros); (all_goals (try k_sweep))))) | ((fail_if_success (with_reducible show wpAny _ _ (exec (Stmt.Try _ _ _ _ _) _) _ _ _)); (((with_reducible show wpAny _ _ (call (Value.builtin "len") [Value.ref _]) _ _ _); k_dflt (refine' kun_lenT ?zk1 ?zk2 ?zk3 ?_; (case zk1 => exact tupIn_is (by k_asm) (by k_asm) (by k_asm) (by assumption)); (case zk2 => exact tup_size (by assumption)); (case zk3 => exact len_small (by assumption)); k_whole)))) | ((fail_if_success (with_reducible show wpAny _ _ (exec (Stmt.Try _ _ _ _ _) _) _ _ _)); (((with_reducible show wpAny _ _ (binaryOp _ (Value.ref _) (Value.ref _)) _ _ _); k_dflt (refine' add_dot ?zF ?zN ?za ?zb ?zz ?_; (case zF => k_asm); (case zN => k_asm); (case za => kmk_list); (case zb => kmk_list); (case zz => (rw [sizeLine_eq]; omega))); intro D'ζ h'ζ F'ζ N'ζ l1ζ; (try k_sweep)))) | ((fail_if_success (with_reducible show wpAny _ _ (exec (Stmt.Try _ _ _ _ _) _) _ _ _)); (((with_reducible show wpAny _ _ (call (Value.type _) [Value.ref _]) _ _ _); k_dflt (refine' tupIn_list ?zF ?zX ?zN ?zb ?zz ?_; (case zF => k_asm); (case zX => k_asm); (case zN => k_asm); (case zb => assumption); (case zz => (rw [sizeLine_eq]; omega))); intro D'ζ c'ζ h'ζ F'ζ N'ζ l1ζ; (try k_sweep)))) | ((fail_if_success (with_reducible show wpAny _ _ (exec (Stmt.Try _ _ _ _ _) _) _ _ _)); (((with_reducible show wpAny _ _ (call (Value.ref 497) [Value.ref _]) _ _ _); k_dflt (refine' reader_new ?zb ?zf ?zx ?zt ?zhk ?zn ?zd ?_; (case zb => k_asm); (case zf => k_asm); (case zx => k_asm); (case zt => k_asm); (case zhk => first | exact rfl | assumption); (case zn => k_asm); (case zd => ktr_room); k_whole); intro a'ζ d'ζ nd'ζ on'ζ t0'ζ t1'ζ t2'ζ z'ζ h'ζ tk'ζ F'ζ N'ζ l1ζ l2ζ l3ζ; (try k_lt l1ζ); (have l4ζ := Nat.lt_trans l2ζ l3ζ); (try k_sweep)))) | ((fail_if_success (with_reducible show wpAny _ _ (exec (Stmt.Try _ _ _ _ _) _) _ _ _)); (((with_reducible show wpAny _ _ (getAttr (Value.ref _) (PySem.Str.ofString "at") _) _ _ _); k_dflt (refine' told_at ?zk1 ?zk2 ?zk3 ?zk4 ?zk5 ?zk6 ?zk7 ?zk8 ?_; (case zk1 => k_asm); (case zk2 => k_asm); (case zk3 => k_asm); (case zk6 => assumption); (case zk7 => assumption); (case zk8 => assumption); (case zk4 => (first | exact List.Mem.head _ | exact List.Mem.tail _ (List.Mem.head _) | exact List.Mem.tail _ (List.Mem.tail _ (List.Mem.head _)))); (case zk5 => (first | exact List.Mem.head _ | exact List.Mem.tail _ (List.Mem.head _) | exact List.Mem.tail _ (List.Mem.tail _ (List.Mem.head _)))); k_whole)))) | ((fail_if_success (with_reducible show wpAny _ _ (exec (Stmt.Try _ _ _ _ _) _) _ _ _)); (((with_reducible show wpAny _ _ (getAttr (Value.ref _) (PySem.Str.ofString "what") _) _ _ _); k_dflt (refine' told_what ?zk1 ?zk2 ?zk3 ?zk4 ?zk5 ?zk6 ?zk7 ?zk8 ?_; (case zk1 => k_asm); (case zk2 => k_asm); (case zk3 => k_asm); (case zk6 => assumption); (case zk7 => assumption); (case zk8 => assumption); (case zk4 => (first | exact List.Mem.head _ | exact List.Mem.tail _ (List.Mem.head _) | exact List.Mem.tail _ (List.Mem.tail _ (List.Mem.head _)))); (case zk5 => (first | exact List.Mem.head _ | exact List.Mem.tail _ (List.Mem.head _) | exact List.Mem.tail _ (List.Mem.tail _ (List.Mem.head _)))); k_whole)))) | ((fail_if_success (with_reducible show wpAny _ _ (exec (Stmt.Try _ _ _ _ _) _) _ _ _)); (((with_reducible show wpAny _ _ (getMethod (Value.ref _) (PySem.Str.ofString "told") _) _ _ _); k_dflt (refine' told_method ?zk1 ?zk2 ?zk3 ?zk4 ?zk5 ?zk6 ?zk7 ?zk8 ?_; (case zk1 => k_asm); (case zk2 => k_asm); (case zk3 => k_asm); (case zk6 => assumption); (case zk7 => assumption); (case zk8 => assumption); (case zk4 => (first | exact List.Mem.head _ | exact List.Mem.tail _ (List.Mem.head _) | exact List.Mem.tail _ (List.Mem.tail _ (List.Mem.head _)))); (case zk5 => (first | exact List.Mem.head _ | exact List.Mem.tail _ (List.Mem.head _) | exact List.Mem.tail _ (List.Mem.tail _ (List.Mem.head _)))); k_whole)))) | ((fail_if_success (with_reducible show wpAny _ _ (exec (Stmt.Try _ _ _ _ _) _) _ _ _)); (((with_reducible show wpAny _ _ (call (Value.ref 94) _ _) _ _ _); k_dflt (show wpAny _ _ (call (Value.ref 94) [Value.ref _]) _ _ _); k_dflt (refine wpAny_call ?_; (refine' code_def ?zk1 ?zk2 ?zk3 ?zk4 ?zk5 ?zkA ?zkF ?zkK ?zk6 ?zk7 ?zk8 ?zk9 ?zkB ?_ ?zc2 ?zc3 ?zc4 ?zc5; (case zkA => exact rfl); (case zkF => exact rfl); (case zkK => first | exact rfl | assumption); (case zk1 => k_asm); (case zk2 => k_asm); (case zk3 => k_asm); (case zk4 => k_asm); (case zk5 => k_asm); (case zk6 => k_is); (case zk7 => k_is); (case zk8 => exact room_h (by assumption)); (case zk9 => exact BindsTo.of_eq rfl); (case zc5 => decide); (case zkB => exact locs rfl); (case zc2 => exact rfl); (case zc3 => exact rfl); (case zc4 => exact rfl); k_whole; intro g'ζ L'ζ h'ζ FG'ζ F'ζ N'ζ B'ζ X'ζ T'ζ; (try dsimp only); (try k_fold)))))) | ((fail_if_success (with_reducible show wpAny _ _ (exec (Stmt.Try _ _ _ _ _) _) _ _ _)); ((with_reducible show wpAny _ _ (noteFrame (Value.ref _) _) _ _ _); (((rename RaisedD _ _ _ _ _ _ _ => rsXζ); k_dflt (refine' caught_D ?zR ?zF ?zK ?zU ?zXB ?zTB ?zD ?_; (case zR => assumption); (case zF => assumption); (case zK => assumption); (case zU => assumption); (case zXB => assumption); (case zTB => assumption); (case zD => assumption); k_whole); intro h'ζ g'ζ oeζ tk'ζ T'ζ F'ζ N'ζ ocζ odζ ofζ K'ζ X'ζ P'ζ D'ζ; (replace X'ζ : (Mine.kMake.heap_1 _).In g'ζ := X'ζ); (try k_lift K'ζ); (try k_sweep))))) | (k_unfold; (try dsimp only)) | ((fail_if_success (with_reducible show wpAny _ _ (exec (Stmt.Try _ _ _ _ _) _) _ _ _)); walk1) | (dsimp only; (fail_if_success (with_reducible show wpAny _ _ (exec (Stmt.Try _ _ _ _ _) _) _ _ _)); walk1) | (leave1; try dsimp only))
  have htl := toks_le e1 hle
  have ⟨hc1, hc2, hc3, hc4, hc5, hc6⟩ := ws_toks O e1
  have ng := gtAll (by assumption : _ < _ ∧ _ < _ ∧ _ < _ ∧ AllLt _ (Y (tabObj ps)))
  (rename News _ _ _ _ => NR)
  obtain ⟨r, W, rfl, rfl, H, NW, WY⟩ := reader_in (P := w.params) NR YT Yl Yk e3 htl (by assumption) (by assumption) (by assumption) ng
  clear NR Yl Yk YT e3 e4 e5
  have hp : (0 : Int) ≤ 0 := Int.le_refl 0
  have qW : ∀ pos ta o, TupIn w.params (W pos ta o) q vs.toArray := fun pos ta o => ((hq o).mono (YV o)).mono (WY pos ta o)
  repeat' (first | (((with_reducible show wpAny _ _ (call (Value.ref 617) [Value.ref _, _]) _ _ _); k_dflt (refine' law_read ?zb ?zf ?zx ?zt ?zhk ?zhH ?zhp ?zn ?zwC ?zwtb ?zwu ?zwhd ?zwc ?zwn ?zwz ?zwx ?zwro ?_ ?_; (case zb => k_asm); (case zf => k_asm); (case zx => k_asm); (case zt => k_asm); (case zhk => first | exact rfl | assumption); (case zhH => assumption); (case zn => k_asm); (case zhp => first | assumption | omega); (case zwC => assumption); (case zwtb => assumption); (case zwu => (dsimp only [ktrTop, Around.deeper]; omega)); (case zwhd => ktr_room); (case zwc => assumption); (case zwn => assumption); (case zwz => assumption); (case zwx => assumption); (case zwro => assumption); k_whole); (all_goals first | (intro d9ζ n9ζ hr9ζ v9ζ W9ζ h9ζ k9ζ ta9ζ ps9ζ tb9ζ H9ζ sub9ζ dat9ζ F9ζ N9ζ; (have dat8ζ : ∀ pos ta o, DatIn (W9ζ pos ta o) v9ζ d9ζ := dat9ζ); (have hp9ζ := nn_of (by assumption) hr9ζ); (have q9ζ := tup_up (by assumption) sub9ζ); (have q8ζ := q9ζ n9ζ ta9ζ (tabObj ps9ζ))) | (intro n9ζ hr9ζ t9ζ g9ζ e9ζ d9ζ x9ζ v9ζ k19ζ k29ζ ta9ζ ps9ζ h9ζ tk9ζ ht9ζ tb9ζ F9ζ R9ζ U9ζ; have p8ζ := pair_in (by assumption) ht9ζ n9ζ ta9ζ (tabObj ps9ζ))); (all_goals intros); (all_goals (try k_sweep)))) | (((with_reducible show wpAny _ _ (call (Value.builtin "len") [Value.ref _]) _ _ _); k_dflt (refine' kun_lenT ?zk1 ?zk2 ?zk3 ?_; (case zk1 => exact tupIn_is (by k_asm) (by k_asm) (by k_asm) (by assumption)); (case zk2 => exact tup_size (by assumption)); (case zk3 => exact len_small (by assumption)); k_whole))) | (((with_reducible show wpAny _ _ (binaryOp _ (Value.ref _) (Value.ref _)) _ _ _); k_dflt (refine' add_dot ?zF ?zN ?za ?zb ?zz ?_; (case zF => k_asm); (case zN => k_asm); (case za => kmk_list); (case zb => kmk_list); (case zz => (rw [sizeLine_eq]; omega))); intro D'ζ h'ζ F'ζ N'ζ l1ζ; (try k_sweep))) | (((with_reducible show wpAny _ _ (call (Value.type _) [Value.ref _]) _ _ _); k_dflt (refine' tupIn_list ?zF ?zX ?zN ?zb ?zz ?_; (case zF => k_asm); (case zX => k_asm); (case zN => k_asm); (case zb => assumption); (case zz => (rw [sizeLine_eq]; omega))); intro D'ζ c'ζ h'ζ F'ζ N'ζ l1ζ; (try k_sweep))) | (((with_reducible show wpAny _ _ (call (Value.ref 497) [Value.ref _]) _ _ _); k_dflt (refine' reader_new ?zb ?zf ?zx ?zt ?zhk ?zn ?zd ?_; (case zb => k_asm); (case zf => k_asm); (case zx => k_asm); (case zt => k_asm); (case zhk => first | exact rfl | assumption); (case zn => k_asm); (case zd => ktr_room); k_whole); intro a'ζ d'ζ nd'ζ on'ζ t0'ζ t1'ζ t2'ζ z'ζ h'ζ tk'ζ F'ζ N'ζ l1ζ l2ζ l3ζ; (try k_lt l1ζ); (have l4ζ := Nat.lt_trans l2ζ l3ζ); (try k_sweep))) | (((with_reducible show wpAny _ _ (getAttr (Value.ref _) (PySem.Str.ofString "at") _) _ _ _); k_dflt (refine' told_at ?zk1 ?zk2 ?zk3 ?zk4 ?zk5 ?zk6 ?zk7 ?zk8 ?_; (case zk1 => k_asm); (case zk2 => k_asm); (case zk3 => k_asm); (case zk6 => assumption); (case zk7 => assumption); (case zk8 => assumption); (case zk4 => (first | exact List.Mem.head _ | exact List.Mem.tail _ (List.Mem.head _) | exact List.Mem.tail _ (List.Mem.tail _ (List.Mem.head _)))); (case zk5 => (first | exact List.Mem.head _ | exact List.Mem.tail _ (List.Mem.head _) | exact List.Mem.tail _ (List.Mem.tail _ (List.Mem.head _)))); k_whole))) | (((with_reducible show wpAny _ _ (getAttr (Value.ref _) (PySem.Str.ofString "what") _) _ _ _); k_dflt (refine' told_what ?zk1 ?zk2 ?zk3 ?zk4 ?zk5 ?zk6 ?zk7 ?zk8 ?_; (case zk1 => k_asm); (case zk2 => k_asm); (case zk3 => k_asm); (case zk6 => assumption); (case zk7 => assumption); (case zk8 => assumption); (case zk4 => (first | exact List.Mem.head _ | exact List.Mem.tail _ (List.Mem.head _) | exact List.Mem.tail _ (List.Mem.tail _ (List.Mem.head _)))); (case zk5 => (first | exact List.Mem.head _ | exact List.Mem.tail _ (List.Mem.head _) | exact List.Mem.tail _ (List.Mem.tail _ (List.Mem.head _)))); k_whole))) | (((with_reducible show wpAny _ _ (getMethod (Value.ref _) (PySem.Str.ofString "told") _) _ _ _); k_dflt (refine' told_method ?zk1 ?zk2 ?zk3 ?zk4 ?zk5 ?zk6 ?zk7 ?zk8 ?_; (case zk1 => k_asm); (case zk2 => k_asm); (case zk3 => k_asm); (case zk6 => assumption); (case zk7 => assumption); (case zk8 => assumption); (case zk4 => (first | exact List.Mem.head _ | exact List.Mem.tail _ (List.Mem.head _) | exact List.Mem.tail _ (List.Mem.tail _ (List.Mem.head _)))); (case zk5 => (first | exact List.Mem.head _ | exact List.Mem.tail _ (List.Mem.head _) | exact List.Mem.tail _ (List.Mem.tail _ (List.Mem.head _)))); k_whole))) | (((with_reducible show wpAny _ _ (call (Value.ref 94) _ _) _ _ _); k_dflt (show wpAny _ _ (call (Value.ref 94) [Value.ref _]) _ _ _); k_dflt (refine wpAny_call ?_; (refine' code_def ?zk1 ?zk2 ?zk3 ?zk4 ?zk5 ?zkA ?zkF ?zkK ?zk6 ?zk7 ?zk8 ?zk9 ?zkB ?_ ?zc2 ?zc3 ?zc4 ?zc5; (case zkA => exact rfl); (case zkF => exact rfl); (case zkK => first | exact rfl | assumption); (case zk1 => k_asm); (case zk2 => k_asm); (case zk3 => k_asm); (case zk4 => k_asm); (case zk5 => k_asm); (case zk6 => k_is); (case zk7 => k_is); (case zk8 => exact room_h (by assumption)); (case zk9 => exact BindsTo.of_eq rfl); (case zc5 => decide); (case zkB => exact locs rfl); (case zc2 => exact rfl); (case zc3 => exact rfl); (case zc4 => exact rfl); k_whole; intro g'ζ L'ζ h'ζ FG'ζ F'ζ N'ζ B'ζ X'ζ T'ζ; (try dsimp only); (try k_fold))))) | ((with_reducible show wpAny _ _ (noteFrame (Value.ref _) _) _ _ _); (((rename RaisedD _ _ _ _ _ _ _ => rsXζ); k_dflt (refine' caught_D ?zR ?zF ?zK ?zU ?zXB ?zTB ?zD ?_; (case zR => assumption); (case zF => assumption); (case zK => assumption); (case zU => assumption); (case zXB => assumption); (case zTB => assumption); (case zD => assumption); k_whole); intro h'ζ g'ζ oeζ tk'ζ T'ζ F'ζ N'ζ ocζ odζ ofζ K'ζ X'ζ P'ζ D'ζ; (replace X'ζ : (Mine.kMake.heap_1 _).In g'ζ := X'ζ); (try k_lift K'ζ); (try k_sweep)))) | (k_unfold; (try dsimp only)) | (k_end; kc_close) | walk1 | (dsimp only; walk1) | (leave1; (try dsimp only)))
  · refine hret _ _ (start_L e1 (by assumption)) _ (fun o => (_, _) :: _) _ _ _ (by assumption) (fin_tab (by assumption) (fin_ne (by assumption) (by assumption))) (fin_sub YV WY (by assumption)) (fin_dat (by assumption)) (by k_asm) (by k_asm)
  · rw [place_of e2 (by assumption)]
    exact hbad _ (start_L e1 (by assumption)) _ _ _ _ (by assumption) (by k_asm) (heard_sub (by assumption) YV WY)
end
-- C31
section
variable {prog : Program} {w : World} {A : Around} {E : Value → Shared → Prop} {s : Shared} {Q : Value → Shared → Prop} {h₀ : Heap} {L wl : Addr} {news : List (Addr × Obj)} {its : Array Value} {n : Nat} {k : Int} {u : Tok}
theorem list_item {value slice : PySem.Expr} {x : Value} (N : News h₀ L s.heap news) (hm : (wl, PySem.W.listOf its n) ∈ news) (h0 : 0 ≤ k) (hx : its[k.toNat]? = some x) (hle : its.size ≤ 64) (h : Q x s)
    (hs : subscripted slice false (.ref wl) (.int k u) = operate [.ref wl, .int k u] (getItem (.ref wl) (.int k u)) := by with_unfolding_all rfl) :
    wpAny (model prog w) A (subscriptTail value slice (.ref wl) (.int k u)) Q E s := by
  have hk : k.toNat < its.size := (Array.getElem?_eq_some_iff.mp hx).1
  exact tail_any (N.isList hm).typeIs slot_list_getitem.lookup (wpAny_getItem_list (N.isList hm) h0 (by omega) (x := x) hx h) hs
theorem list_item0 {value slice : PySem.Expr} {x y : Value} (N : News h₀ L s.heap news) (hm : (wl, PySem.W.listOf #[x, y] n) ∈ news) (h : Q x s)
    (hs : subscripted slice false (.ref wl) (.int 0 u) = operate [.ref wl, .int 0 u] (getItem (.ref wl) (.int 0 u)) := by with_unfolding_all rfl) :
    wpAny (model prog w) A (subscriptTail value slice (.ref wl) (.int 0 u)) Q E s := list_item N hm (by decide) rfl (Nat.le_of_ble_eq_true rfl) h hs
theorem list_item1 {value slice : PySem.Expr} {x y : Value} (N : News h₀ L s.heap news) (hm : (wl, PySem.W.listOf #[x, y] n) ∈ news) (h : Q y s)
    (hs : subscripted slice false (.ref wl) (.int 1 u) = operate [.ref wl, .int 1 u] (getItem (.ref wl) (.int 1 u)) := by with_unfolding_all rfl) :
    wpAny (model prog w) A (subscriptTail value slice (.ref wl) (.int 1 u)) Q E s := list_item N hm (by decide) rfl (Nat.le_of_ble_eq_true rfl) h hs
end
theorem intsAre_get {vs : List Value} {ws : List Int} (h : IntsAre vs ws) : ∀ {i : Nat} {x : Int}, ws[i]? = some x → ∃ t, vs[i]? = some (.int x t) := by
  induction h with
  | nil => intro i x hx; cases hx
  | cons y t r ih =>
    intro i x hx
    cases i with
    | zero => simp at hx; subst hx; exact ⟨t, rfl⟩
    | succ i => simp at hx; simpa using ih hx
theorem intsAre_len {vs : List Value} {ws : List Int} (h : IntsAre vs ws) : vs.length = ws.length := by
  induction h with
  | nil => rfl
  | cons y t r ih => simp [ih]

theorem src_set {prog : Program} {w : World} {A : Around} {E : Value → Shared → Prop} {s : Shared} {Q : Unit → Shared → Prop} {h₀ : Heap} {L sq cq : Addr} {m : Str → Option Value} {news : List (Addr × Obj)} {news' : Tok → List (Addr × Obj)} {at_ : Int} {t t9 u : Tok} {c : Nat} (F : Fr h₀ L s.heap m) (N : News h₀ L s.heap news)
    (hU : ∀ t', Upd sq (PySem.W.listOf #[.ref cq, .int at_ t] c) (PySem.W.listOf #[.ref cq, .int (at_ + 1) t'] c) news (news' t')) (h : ∀ h', Fr h₀ L h' m → News h₀ L h' (news' t9) → Q () { s with heap := h' }) :
    wpAny (model prog w) A (setItem (.ref sq) (.int 1 u) (.int (at_ + 1) t9)) Q E s := ki_set F N (by decide) (by decide) rfl (hU t9) h

section
variable {prog : Program} {w : World} {A : Around} {E : Value → Shared → Prop} {s : Shared} {Q : Value → Shared → Prop} {h₀ : Heap} {L cq : Addr} {news : List (Addr × Obj)} {vs : List Value} {is : List Int} {n : Nat} {k : Int} {u : Tok}
theorem ints_len (N : News h₀ L s.heap news) (hm : (cq, PySem.W.listOf vs.toArray n) ∈ news) (hi : IntsAre vs is) (hle : is.length ≤ 64)
    (h : Q (.int (is.length : Int) (s.toks + 1)) { s with toks := s.toks + 1 + 1 }) : wpAny (model prog w) A (call (.builtin "len") [.ref cq]) Q E s := by
  have e : vs.toArray.size = is.length := by simp [intsAre_len hi]
  refine call_len_list (N.isList hm) (by rw [e]; omega) ?_
  rw [e]; exact h
theorem ints_item {value slice : PySem.Expr} (N : News h₀ L s.heap news) (hm : (cq, PySem.W.listOf vs.toArray n) ∈ news) (hi : IntsAre vs is) (hle : is.length ≤ 64) (h0 : 0 ≤ k) (h1 : k < (is.length : Int)) (h : ∀ x t, Q (.int x t) s)
    (hs : subscripted slice false (.ref cq) (.int k u) = operate [.ref cq, .int k u] (getItem (.ref cq) (.int k u)) := by with_unfolding_all rfl) :
    wpAny (model prog w) A (subscriptTail value slice (.ref cq) (.int k u)) Q E s := by
  have hx : is[k.toNat]? = some is[k.toNat] := List.getElem?_eq_getElem (by omega)
  obtain ⟨t, ht⟩ := intsAre_get hi hx
  have e : vs.toArray.size = is.length := by simp [intsAre_len hi]
  exact list_item N hm h0 (x := .int is[k.toNat] t) (by simpa using ht) (by rw [e]; exact hle) (h _ _) hs
end

section
variable {prog : Program} {w : World} {p : Program} {loose : List Str} {mean : ExcName → Option Value} {mg mb : Str → Option Value}
  {dp un : Nat} {gd : Option (List Code)} {cn : Str} {cs : Scope} {a : Addr} {ccd : Value} {cl : List (Str × Addr)} {outer : List Env} {A₀ : Around} {base h₀ : Heap} {L : Addr} {m : Str → Option Value} {s : Shared} {Q E : Value → Shared → Prop}
  {news : List (Addr × Obj)} {k : Int} {u : Tok}
variable (B : Below A₀ base outer h₀) (F : Fr h₀ L s.heap m) (X : (Mine.kMake.heap_1 w.params).In h₀) (T : Top p loose mean mg mb h₀) (hk : cs.kind = .function) (N : News h₀ L s.heap news)
include B F X T hk N
theorem draw_ok {sq cq : Addr} {vs : List Value} {is : List Int} {at_ : Int} {t : Tok} {c nc : Nat} {news' : Tok → List (Addr × Obj)} (hd : dp + 2 < recursionLimit)
    (hs : (sq, PySem.W.listOf #[.ref cq, .int at_ t] c) ∈ news) (hc : ∀ t', (cq, PySem.W.listOf vs.toArray nc) ∈ news' t') (hi : IntsAre vs is) (h1 : 0 < is.length) (h2 : is.length ≤ 64) (ha : 0 ≤ at_) (hl : 0 < k)
    (hU : ∀ t', Upd sq (PySem.W.listOf #[.ref cq, .int at_ t] c) (PySem.W.listOf #[.ref cq, .int (at_ + 1) t'] c) news (news' t'))
    (hret : ∀ i ti t' h' tk', 0 ≤ i → i < k → Fr h₀ L h' m → News h₀ L h' (news' t') → Q (.int i ti) { s with heap := h', toks := tk' }) :
    wpAny (model prog w) (ktrTop dp un gd cn cs L a ccd cl outer) (call (.ref 508) [.ref sq, .int k u]) Q E s := by
  w_top off
  refine wpAny_call ?_
  k_dflt (refine' code_def ?zk1 ?zk2 ?zk3 ?zk4 ?zk5 ?zkA ?zkF ?zkK ?zk6 ?zk7 ?zk8 ?zk9 ?zkB ?_ ?zc2 ?zc3 ?zc4 ?zc5; (case zkA => exact rfl); (case zkF => exact rfl); (case zkK => assumption); (case zk1 => k_asm); (case zk2 => k_asm); (case zk3 => k_asm); (case zk4 => k_asm); (case zk5 => k_asm); (case zk6 => k_is); (case zk7 => k_is); (case zk8 => ktr_room); (case zk9 => first | exact BindsTo.of_eq rfl | exact binds_K (by k_in) rfl (by k_is) rfl rfl rfl); (case zc5 => decide); (case zkB => exact locs rfl); (case zc2 => exact rfl); (case zc3 => exact rfl); (case zc4 => exact rfl); k_whole; intro _ _ _ _ _ _ _ _ _; (try dsimp only); (try k_fold))
  repeat' (first | (((with_reducible show wpAny _ _ (subscriptTail _ _ (Value.ref _) (Value.int _ _)) _ _ _); k_dflt (refine' ints_item ?zk1 ?zk2 ?zk3 ?zk4 ?zk5 ?zk6 ?_ ?zk7; (case zk1 => k_asm); (case zk2 => exact (by assumption : ∀ _, _ ∈ _) _); (case zk3 => assumption); (case zk4 => assumption); (case zk5 => (first | exact Int.emod_nonneg _ (by omega) | exact Int.fmod_nonneg_of_pos _ (by omega))); (case zk6 => (first | exact Int.emod_lt_of_pos _ (by omega) | exact Int.fmod_lt_of_pos _ (by omega))); (case zk7 => with_unfolding_all rfl); k_whole); intro x9ζ t9ζ)) | (((with_reducible show wpAny _ _ (call (Value.builtin _) [Value.ref _]) _ _ _); k_dflt (refine' ints_len ?zk1 ?zk2 ?zk3 ?zk4 ?_; (case zk1 => k_asm); (case zk2 => exact (by assumption : ∀ _, _ ∈ _) _); (case zk3 => assumption); (case zk4 => assumption); k_whole))) | (((with_reducible show wpAny _ _ (setItem (Value.ref _) (Value.int 1 _) (Value.int _ _)) _ _ _); k_dflt (refine' src_set ?zk1 ?zk2 ?zk3 ?_; (case zk1 => k_asm); (case zk2 => k_asm); (case zk3 => assumption); k_whole); intro h'ζ F'ζ N'ζ; (try k_sweep))) | (((with_reducible show wpAny _ _ (subscriptTail _ _ (Value.ref _) (Value.int 1 _)) _ _ _); k_dflt (refine' list_item1 ?zk1 ?zk2 ?_ ?zk7; (case zk1 => k_asm); (case zk2 => assumption); (case zk7 => with_unfolding_all rfl); k_whole))) | (((with_reducible show wpAny _ _ (subscriptTail _ _ (Value.ref _) (Value.int 0 _)) _ _ _); k_dflt (refine' list_item0 ?zk1 ?zk2 ?_ ?zk7; (case zk1 => k_asm); (case zk2 => assumption); (case zk7 => with_unfolding_all rfl); k_whole))) | (((with_reducible show wpAny _ _ (call (Value.ref 94) _ _) _ _ _); k_dflt (show wpAny _ _ (call (Value.ref 94) [Value.ref _]) _ _ _); k_dflt (refine wpAny_call ?_; (refine' code_def ?zk1 ?zk2 ?zk3 ?zk4 ?zk5 ?zkA ?zkF ?zkK ?zk6 ?zk7 ?zk8 ?zk9 ?zkB ?_ ?zc2 ?zc3 ?zc4 ?zc5; (case zkA => exact rfl); (case zkF => exact rfl); (case zkK => first | exact rfl | assumption); (case zk1 => k_asm); (case zk2 => k_asm); (case zk3 => k_asm); (case zk4 => k_asm); (case zk5 => k_asm); (case zk6 => k_is); (case zk7 => k_is); (case zk8 => exact room_h (by assumption)); (case zk9 => exact BindsTo.of_eq rfl); (case zc5 => decide); (case zkB => exact locs rfl); (case zc2 => exact rfl); (case zc3 => exact rfl); (case zc4 => exact rfl); k_whole; intro g'ζ L'ζ h'ζ FG'ζ F'ζ N'ζ B'ζ X'ζ T'ζ; (try dsimp only); (try k_fold))))) | (k_unfold; (try dsimp only)) | (k_end; kc_close) | walk1 | (dsimp only; walk1) | (leave1; (try dsimp only)))
  exact hret _ _ _ _ _ (Int.fmod_nonneg_of_pos _ hl) (Int.fmod_lt_of_pos _ hl) (by k_asm) (by k_asm)
end
-- C32
theorem tupAt {P : Params} {news' : Tok → List (Addr × Obj)} {q : Addr} {its : Array Value} (h : ∀ t' : Tok, TupIn P (news' t') q its) (t : Tok) : TupIn P (news' t) q its := h t

section
variable {prog : Program} {w : World} {p : Program} {loose : List Str} {mean : ExcName → Option Value} {mg mb : Str → Option Value}
  {dp un : Nat} {gd : Option (List Code)} {cn : Str} {cs : Scope} {a : Addr} {ccd : Value} {cl : List (Str × Addr)} {outer : List Env} {A₀ : Around} {base h₀ : Heap} {L : Addr} {m : Str → Option Value} {s : Shared} {Q E : Value → Shared → Prop}
  {news : List (Addr × Obj)} {k : Int} {u : Tok}
variable (B : Below A₀ base outer h₀) (F : Fr h₀ L s.heap m) (X : (Mine.kMake.heap_1 w.params).In h₀) (T : Top p loose mean mg mb h₀) (hk : cs.kind = .function) (N : News h₀ L s.heap news)
include B F X T hk N
theorem pick_ok {sq cq q : Addr} {vs : List Value} {is : List Int} {at_ : Int} {t : Tok} {c nc : Nat} {news' : Tok → List (Addr × Obj)} {its : Array Value} (hd : dp + 4 < recursionLimit)
    (hs : (sq, PySem.W.listOf #[.ref cq, .int at_ t] c) ∈ news) (hc : ∀ t', (cq, PySem.W.listOf vs.toArray nc) ∈ news' t') (hi : IntsAre vs is) (h1 : 0 < is.length) (h2 : is.length ≤ 64) (ha : 0 ≤ at_)
    (hU : ∀ t', Upd sq (PySem.W.listOf #[.ref cq, .int at_ t] c) (PySem.W.listOf #[.ref cq, .int (at_ + 1) t'] c) news (news' t'))
    (ht : TupIn w.params news q its) (ht' : ∀ t', TupIn w.params (news' t') q its) (hz : 0 < (its.size : Int)) (hz' : its.size ≤ 64)
    (hret : ∀ (j : Nat) x t' h' tk', its[j]? = some x → Fr h₀ L h' m → News h₀ L h' (news' t') → Q x { s with heap := h', toks := tk' }) :
    wpAny (model prog w) (ktrTop dp un gd cn cs L a ccd cl outer) (call (.ref 547) [.ref sq, .ref q]) Q E s := by
  w_top off
  refine wpAny_call ?_
  k_dflt (refine' code_def ?zk1 ?zk2 ?zk3 ?zk4 ?zk5 ?zkA ?zkF ?zkK ?zk6 ?zk7 ?zk8 ?zk9 ?zkB ?_ ?zc2 ?zc3 ?zc4 ?zc5; (case zkA => exact rfl); (case zkF => exact rfl); (case zkK => assumption); (case zk1 => k_asm); (case zk2 => k_asm); (case zk3 => k_asm); (case zk4 => k_asm); (case zk5 => k_asm); (case zk6 => k_is); (case zk7 => k_is); (case zk8 => ktr_room); (case zk9 => first | exact BindsTo.of_eq rfl | exact binds_K (by k_in) rfl (by k_is) rfl rfl rfl); (case zc5 => decide); (case zkB => exact locs rfl); (case zc2 => exact rfl); (case zc3 => exact rfl); (case zc4 => exact rfl); k_whole; intro _ _ _ _ _ _ _ _ _; (try dsimp only); (try k_fold))
  repeat' (first | (((with_reducible show wpAny _ _ (subscriptTail _ _ (Value.ref _) (Value.int _ _)) _ _ _); k_dflt (refine' tupIn_item ?zk1 ?zk2 ?zk3 ?zk4 ?zk5 ?zk6 ?zk8 ?_ ?zk7; (case zk1 => k_asm); (case zk2 => k_asm); (case zk3 => k_asm); (case zk4 => exact tupAt (by assumption) _); (case zk5 => assumption); (case zk6 => assumption); (case zk8 => assumption); (case zk7 => with_unfolding_all rfl); k_whole); intro j9ζ x9ζ hx9ζ)) | (((with_reducible show wpAny _ _ (call (Value.builtin _) [Value.ref _]) _ _ _); k_dflt (refine' tupIn_len ?zk1 ?zk2 ?zk3 ?zk4 ?zk5 ?_; (case zk1 => k_asm); (case zk2 => k_asm); (case zk3 => k_asm); (case zk4 => assumption); (case zk5 => assumption); k_whole))) | (((with_reducible show wpAny _ _ (call (Value.ref 508) [Value.ref _, _]) _ _ _); k_dflt (refine' draw_ok ?zb ?zf ?zx ?zt ?zhk ?zn ?zd ?zs ?zc ?zi ?zl1 ?zl2 ?za ?zhl ?zu ?_; (case zb => k_asm); (case zf => k_asm); (case zx => k_asm); (case zt => k_asm); (case zhk => first | exact rfl | assumption); (case zn => k_asm); (case zs => assumption); (case zc => assumption); (case zi => assumption); (case zl1 => assumption); (case zl2 => assumption); (case za => assumption); (case zhl => first | assumption | decide); (case zu => assumption); (case zd => ktr_room); k_whole); intro i9ζ ti9ζ t9ζ h9ζ tk9ζ g9ζ l9ζ F9ζ N9ζ; (try k_sweep))) | (((with_reducible show wpAny _ _ (call (Value.ref 94) _ _) _ _ _); k_dflt (show wpAny _ _ (call (Value.ref 94) [Value.ref _]) _ _ _); k_dflt (refine wpAny_call ?_; (refine' code_def ?zk1 ?zk2 ?zk3 ?zk4 ?zk5 ?zkA ?zkF ?zkK ?zk6 ?zk7 ?zk8 ?zk9 ?zkB ?_ ?zc2 ?zc3 ?zc4 ?zc5; (case zkA => exact rfl); (case zkF => exact rfl); (case zkK => first | exact rfl | assumption); (case zk1 => k_asm); (case zk2 => k_asm); (case zk3 => k_asm); (case zk4 => k_asm); (case zk5 => k_asm); (case zk6 => k_is); (case zk7 => k_is); (case zk8 => exact room_h (by assumption)); (case zk9 => exact BindsTo.of_eq rfl); (case zc5 => decide); (case zkB => exact locs rfl); (case zc2 => exact rfl); (case zc3 => exact rfl); (case zc4 => exact rfl); k_whole; intro g'ζ L'ζ h'ζ FG'ζ F'ζ N'ζ B'ζ X'ζ T'ζ; (try dsimp only); (try k_fold))))) | (k_unfold; (try dsimp only)) | (k_end; kc_close) | walk1 | (dsimp only; walk1) | (leave1; (try dsimp only)))
  all_goals first
    | exact hret _ _ _ _ _ (by assumption) (by k_asm) (by k_asm)
end
-- C33
abbrev tup (its : Array Value) : Obj := { cls := .type "tuple", data := .seq its }
def refTable : List (List Str × Addr) := [([Str.ofString "A"], 516), ([Str.ofString "B", Str.ofString "OF", Str.ofString "C"], 519), ([Str.ofString "T", Str.ofString "(", Str.ofString "2", Str.ofString ")"], 524), ([Str.ofString "B", Str.ofString "IN", Str.ofString "C"], 519)]
def RefsIn (tl : List (Addr × Obj)) (D : Addr) : Prop := ∃ its : Array Value, (D, tup its) ∈ tl ∧ its.size = 4 ∧ ∀ (j : Nat) x, its[j]? = some x → ∃ (pa wa k : Addr) (vs : List Value) (ws : List Str), x = .ref pa ∧ (pa, tup #[.ref wa, .ref k]) ∈ tl ∧ (wa, tup vs.toArray) ∈ tl ∧ StrsAre vs ws ∧ (ws, k) ∈ refTable
theorem refsIn_of {D p0 p1 p2 p3 w0 w1 w2 w3 : Addr} {t0 t1 t2 t3 t4 t5 t6 t7 t8 t9 ta : Tok} :
    RefsIn [(D, tup #[.ref p0, .ref p1, .ref p2, .ref p3]), (p3, tup #[.ref w3, .ref 519]), (w3, tup #[.str "B" t0, .str "IN" t1, .str "C" t2]), (p2, tup #[.ref w2, .ref 524]), (w2, tup #[.str "T" t3, .str "(" t4, .str "2" t5, .str ")" t6]), (p1, tup #[.ref w1, .ref 519]), (w1, tup #[.str "B" t7, .str "OF" t8, .str "C" t9]), (p0, tup #[.ref w0, .ref 516]), (w0, tup #[.str "A" ta])] D := by
  refine ⟨_, .head _, rfl, fun j x hx => ?_⟩
  match j, hx with
  | 0, hx => exact ⟨p0, w0, 516, [Value.str (Str.ofString "A") ta], _, (Option.some.inj hx).symm, .tail _ (.tail _ (.tail _ (.tail _ (.tail _ (.tail _ (.tail _ (.head _))))))), .tail _ (.tail _ (.tail _ (.tail _ (.tail _ (.tail _ (.tail _ (.tail _ (.head _)))))))), .cons _ _ .nil, .head _⟩
  | 1, hx => exact ⟨p1, w1, 519, [Value.str (Str.ofString "B") t7, Value.str (Str.ofString "OF") t8, Value.str (Str.ofString "C") t9], _, (Option.some.inj hx).symm, .tail _ (.tail _ (.tail _ (.tail _ (.tail _ (.head _))))), .tail _ (.tail _ (.tail _ (.tail _ (.tail _ (.tail _ (.head _)))))), .cons _ _ (.cons _ _ (.cons _ _ .nil)), .tail _ (.head _)⟩
  | 2, hx => exact ⟨p2, w2, 524, [Value.str (Str.ofString "T") t3, Value.str (Str.ofString "(") t4, Value.str (Str.ofString "2") t5, Value.str (Str.ofString ")") t6], _, (Option.some.inj hx).symm, .tail _ (.tail _ (.tail _ (.head _))), .tail _ (.tail _ (.tail _ (.tail _ (.head _)))), .cons _ _ (.cons _ _ (.cons _ _ (.cons _ _ .nil))), .tail _ (.tail _ (.head _))⟩
  | 3, hx => exact ⟨p3, w3, 519, [Value.str (Str.ofString "B") t0, Value.str (Str.ofString "IN") t1, Value.str (Str.ofString "C") t2], _, (Option.some.inj hx).symm, .tail _ (.head _), .tail _ (.tail _ (.head _)), .cons _ _ (.cons _ _ (.cons _ _ .nil)), .tail _ (.tail _ (.tail _ (.head _)))⟩
  | j + 4, hx => cases hx

section
variable {prog : Program} {w : World} {p : Program} {loose : List Str} {mean : ExcName → Option Value} {mg mb : Str → Option Value}
  {dp un : Nat} {gd : Option (List Code)} {cn : Str} {cs : Scope} {a : Addr} {ccd : Value} {cl : List (Str × Addr)} {outer : List Env} {A₀ : Around} {base h₀ : Heap} {L : Addr} {m : Str → Option Value} {s : Shared} {Q E : Value → Shared → Prop}
  {news : List (Addr × Obj)} {k : Int} {u : Tok}
variable (B : Below A₀ base outer h₀) (F : Fr h₀ L s.heap m) (X : (Mine.kMake.heap_1 w.params).In h₀) (T : Top p loose mean mg mb h₀) (hk : cs.kind = .function) (N : News h₀ L s.heap news)
include B F X T hk N
theorem refs_ok (hd : dp + 4 < recursionLimit)
    (hret : ∀ D tl h' tk', Fr h₀ L h' m → News h₀ L h' (tl ++ news) → (∀ q ∈ tl, ∀ p ∈ news, p.1 < q.1) → RefsIn tl D → Q (.ref D) { s with heap := h', toks := tk' }) :
    wpAny (model prog w) (ktrTop dp un gd cn cs L a ccd cl outer) (call (.ref 533) []) Q E s := by
  w_top off
  refine wpAny_call ?_
  k_dflt (refine' code_def ?zk1 ?zk2 ?zk3 ?zk4 ?zk5 ?zkA ?zkF ?zkK ?zk6 ?zk7 ?zk8 ?zk9 ?zkB ?_ ?zc2 ?zc3 ?zc4 ?zc5; (case zkA => exact rfl); (case zkF => exact rfl); (case zkK => assumption); (case zk1 => k_asm); (case zk2 => k_asm); (case zk3 => k_asm); (case zk4 => k_asm); (case zk5 => k_asm); (case zk6 => k_is); (case zk7 => k_is); (case zk8 => ktr_room); (case zk9 => first | exact BindsTo.of_eq rfl | exact binds_K (by k_in) rfl (by k_is) rfl rfl rfl); (case zc5 => decide); (case zkB => exact locs rfl); (case zc2 => exact rfl); (case zc3 => exact rfl); (case zc4 => exact rfl); k_whole; intro _ _ _ _ _ _ _ _ _; (try dsimp only); (try k_fold))
  repeat' (first | (((with_reducible show wpAny _ _ (call (Value.ref 94) _ _) _ _ _); k_dflt (show wpAny _ _ (call (Value.ref 94) [Value.ref _]) _ _ _); k_dflt (refine wpAny_call ?_; (refine' code_def ?zk1 ?zk2 ?zk3 ?zk4 ?zk5 ?zkA ?zkF ?zkK ?zk6 ?zk7 ?zk8 ?zk9 ?zkB ?_ ?zc2 ?zc3 ?zc4 ?zc5; (case zkA => exact rfl); (case zkF => exact rfl); (case zkK => first | exact rfl | assumption); (case zk1 => k_asm); (case zk2 => k_asm); (case zk3 => k_asm); (case zk4 => k_asm); (case zk5 => k_asm); (case zk6 => k_is); (case zk7 => k_is); (case zk8 => exact room_h (by assumption)); (case zk9 => exact BindsTo.of_eq rfl); (case zc5 => decide); (case zkB => exact locs rfl); (case zc2 => exact rfl); (case zc3 => exact rfl); (case zc4 => exact rfl); k_whole; intro g'ζ L'ζ h'ζ FG'ζ F'ζ N'ζ B'ζ X'ζ T'ζ; (try dsimp only); (try k_fold))))) | (k_unfold; (try dsimp only)) | (k_end; kc_close) | walk1 | (dsimp only; walk1) | (leave1; (try dsimp only)))
  (rename News _ _ _ _ => NZ)
  refine hret _ [_, _, _, _, _, _, _, _, _] _ _ (by k_asm) NZ ?_ refsIn_of
  repeat (refine List.forall_mem_cons.mpr ⟨(by dsimp only; first | assumption | (first | assumption | exact allLt_all (by assumption) | exact allLt_all (And.right (by assumption)) | exact allLt_all (And.right (And.right (by assumption))) | exact allLt_all (And.right (And.right (And.right (by assumption)))) | exact allLt_all (And.right (And.right (And.right (And.right (by assumption))))) | exact allLt_all (And.right (And.right (And.right (And.right (And.right (by assumption)))))) | exact allLt_all (And.right (And.right (And.right (And.right (And.right (And.right (by assumption))))))) | exact allLt_all (And.right (And.right (And.right (And.right (And.right (And.right (And.right (by assumption)))))))) | exact allLt_all (And.right (And.right (And.right (And.right (And.right (And.right (And.right (And.right (by assumption))))))))) | exact ltSucc (by assumption) | exact ltLt (by assumption) (by assumption) | exact ltTail (by assumption) | exact ltTail (ltTail (by assumption)) | exact ltTail (ltTail (ltTail (by assumption))) | exact ltTail (ltTail (ltTail (ltTail (by assumption)))) | exact ltTail (ltTail (ltTail (ltTail (ltTail (by assumption))))) | exact ltLt (ltLt (by assumption) (by assumption)) (by assumption) | exact ltLt (ltTail (ltTail (by assumption))) (by assumption) | exact ltLt (ltLt (ltTail (ltTail (by assumption))) (by assumption)) (by assumption))), ?_⟩)
  exact List.forall_mem_nil _
end
-- C34
/-- the law's ledger: the source's list and the table are its holes -/
structure LH (sq cq : Addr) (vs : List Value) (c nc : Nat) (V : Int → Tok → Obj → List (Addr × Obj)) : Prop where
  upd : ∀ at_ t o at' t', Upd sq (PySem.W.listOf #[.ref cq, .int at_ t] c) (PySem.W.listOf #[.ref cq, .int at' t'] c) (V at_ t o) (V at' t' o)
  tab : ∀ at_ t o, UpdF 232 o (V at_ t o) (V at_ t)
  cells : ∀ at_ t o, (cq, PySem.W.listOf vs.toArray nc) ∈ V at_ t o
section
variable {sq cq : Addr} {vs : List Value} {c nc : Nat} {V : Int → Tok → Obj → List (Addr × Obj)} (H : LH sq cq vs c nc V)
include H
theorem LH.cons {q : Addr × Obj} (h1 : q.1 ≠ sq) (h2 : q.1 ≠ 232) : LH sq cq vs c nc (fun at_ t o => q :: V at_ t o) :=
  ⟨fun at_ t o at' t' => .tail h1 (H.upd at_ t o at' t'), fun at_ t o => .tail h2 (H.tab at_ t o), fun at_ t o => .tail _ (H.cells at_ t o)⟩
theorem LH.app : ∀ {tl : List (Addr × Obj)}, (∀ q ∈ tl, q.1 ≠ sq ∧ q.1 ≠ 232) → LH sq cq vs c nc (fun at_ t o => tl ++ V at_ t o)
  | [], _ => H
  | q :: tl, h => LH.cons (LH.app (tl := tl) fun p hp => h p (.tail _ hp)) (h q (.head _)).1 (h q (.head _)).2
theorem LH.src (at_ : Int) (t : Tok) (o : Obj) : (sq, PySem.W.listOf #[.ref cq, .int at_ t] c) ∈ V at_ t o := (upd_mem (H.upd at_ t o at_ t)).1
theorem LH.lt {q : Addr} {at_ at' : Int} {t t' : Tok} {o o' : Obj} (h : ∀ p ∈ V at_ t o, p.1 < q) : ∀ p ∈ V at' t' o', p.1 < q := by
  intro p hp
  obtain ⟨p1, h1, e1⟩ := upd_adr (H.upd at_ t o' at' t') p hp
  obtain ⟨p2, h2, e2⟩ := updF_adr (H.tab at_ t o) p1 h1
  rw [← e1, ← e2]; exact h p2 h2
theorem LH.ne {q : Addr} {at_ : Int} {t : Tok} {o : Obj} (h : ∀ p ∈ V at_ t o, p.1 < q) : q ≠ sq := Nat.ne_of_gt (h _ (H.src at_ t o))
theorem LH.neT {q : Addr} {at_ : Int} {t : Tok} {o : Obj} (h : ∀ p ∈ V at_ t o, p.1 < q) : q ≠ 232 := Nat.ne_of_gt (h _ (updF_mem (H.tab at_ t o)))
end
/-- words that lie, in every ledger -/
def WT (P : Params) (V : Int → Tok → Obj → List (Addr × Obj)) (q : Addr) (ws : List Str) : Prop := ∃ us : List Value, (∀ at_ t o, TupIn P (V at_ t o) q us.toArray) ∧ StrsAre us ws
theorem WT.mono {P : Params} {V V' : Int → Tok → Obj → List (Addr × Obj)} {q : Addr} {ws : List Str} (h : WT P V q ws) (hs : ∀ at_ t o, ∀ p ∈ V at_ t o, p ∈ V' at_ t o) : WT P V' q ws := by
  obtain ⟨us, a, b⟩ := h
  exact ⟨us, fun at_ t o => (a at_ t o).mono (hs at_ t o), b⟩
theorem strsAre_app {us us' : List Value} {ws ws' : List Str} (h : StrsAre us ws) (h' : StrsAre us' ws') : StrsAre (us ++ us') (ws ++ ws') := by
  induction h with
  | nil => exact h'
  | cons y t r ih => exact .cons y t ih
theorem words_add {prog : Program} {w : World} {A : Around} {E : Value → Shared → Prop} {s : Shared} {Q : Value → Shared → Prop} {h₀ : Heap} {L sq cq q1 q2 : Addr} {m : Str → Option Value} {vs : List Value} {c nc : Nat} {V : Int → Tok → Obj → List (Addr × Obj)} {at_ : Int} {t : Tok} {o : Obj} {ws1 ws2 : List Str}
    (H : LH sq cq vs c nc V) (F : Fr h₀ L s.heap m) (X : (Mine.kMake.heap_1 w.params).In h₀) (N : News h₀ L s.heap (V at_ t o)) (w1 : WT w.params V q1 ws1) (w2 : WT w.params V q2 ws2) (hz : ws1.length + ws2.length ≤ 1000)
    (h : ∀ q V' h', LH sq cq vs c nc V' → (∀ at_ t o, ∀ p ∈ V at_ t o, p ∈ V' at_ t o) → WT w.params V' q (ws1 ++ ws2) → Fr h₀ L h' m → News h₀ L h' (V' at_ t o) → Q (.ref q) { s with heap := h' }) :
    wpAny (model prog w) A (binaryOp .Add (.ref q1) (.ref q2)) Q E s := by
  obtain ⟨u1, a1, b1⟩ := w1
  obtain ⟨u2, a2, b2⟩ := w2
  have l1 := strsAre_len b1
  have l2 := strsAre_len b2
  have T1 := tupIn_is F X N (a1 at_ t o)
  have T2 := tupIn_is F X N (a2 at_ t o)
  refine add_tuples F N T1 T2 (fun e => ?_) (fun _ e => ?_) (fun _ _ h' F' N' => ?_) (by rw [sizeLine_eq]; omega)
  · subst e
    cases b1
    exact h q2 V s.heap H (fun _ _ _ _ hp => hp) ⟨u2, a2, b2⟩ F N
  · subst e
    cases b2
    exact h q1 V s.heap H (fun _ _ _ _ hp => hp) ⟨u1, a1, by simpa using b1⟩ F N
  · have hl : ∀ p ∈ V at_ t o, p.1 < s.heap.objs.size := fun p hp => Heap.lt_size (N p hp).1
    exact h _ (fun at_ t o => (s.heap.objs.size, { cls := .type "tuple", data := .seq (u1 ++ u2).toArray }) :: V at_ t o) h' (H.cons (H.ne hl) (H.neT hl)) (fun _ _ _ _ hp => .tail _ hp) ⟨u1 ++ u2, fun _ _ _ => .inl (.head _), strsAre_app b1 b2⟩ F' N'

section
variable {prog : Program} {w : World} {p : Program} {loose : List Str} {mean : ExcName → Option Value} {mg mb : Str → Option Value}
  {dp un : Nat} {gd : Option (List Code)} {cn : Str} {cs : Scope} {a : Addr} {ccd : Value} {cl : List (Str × Addr)} {outer : List Env} {A₀ : Around} {base h₀ : Heap} {L : Addr} {m : Str → Option Value} {s : Shared} {Q E : Value → Shared → Prop}
  {k : Int} {u : Tok} {sq cq : Addr} {vs : List Value} {c nc : Nat} {V : Int → Tok → Obj → List (Addr × Obj)} {at_ : Int} {t : Tok} {o : Obj} {is : List Int}
variable (B : Below A₀ base outer h₀) (F : Fr h₀ L s.heap m) (X : (Mine.kMake.heap_1 w.params).In h₀) (T : Top p loose mean mg mb h₀) (hk : cs.kind = .function) (H : LH sq cq vs c nc V) (N : News h₀ L s.heap (V at_ t o)) (hi : IntsAre vs is) (h1 : 0 < is.length) (h2 : is.length ≤ 64) (ha : 0 ≤ at_)
include B F X T hk H N hi h1 h2 ha
theorem draw_LH (hd : dp + 2 < recursionLimit) (hl : 0 < k)
    (hret : ∀ i ti t' h' tk', 0 ≤ i → i < k → Fr h₀ L h' m → News h₀ L h' (V (at_ + 1) t' o) → Q (.int i ti) { s with heap := h', toks := tk' }) :
    wpAny (model prog w) (ktrTop dp un gd cn cs L a ccd cl outer) (call (.ref 508) [.ref sq, .int k u]) Q E s :=
  draw_ok B F X T hk N (news' := fun t' => V (at_ + 1) t' o) hd (H.src _ _ _) (fun _ => H.cells _ _ _) hi h1 h2 ha hl (fun t' => H.upd _ _ _ _ _) hret
theorem pick_LH {q : Addr} {its : Array Value} (hd : dp + 4 < recursionLimit) (ht : ∀ at_ t o, TupIn w.params (V at_ t o) q its) (hz : 0 < (its.size : Int)) (hz' : its.size ≤ 64)
    (hret : ∀ (j : Nat) x t' h' tk', its[j]? = some x → Fr h₀ L h' m → News h₀ L h' (V (at_ + 1) t' o) → Q x { s with heap := h', toks := tk' }) :
    wpAny (model prog w) (ktrTop dp un gd cn cs L a ccd cl outer) (call (.ref 547) [.ref sq, .ref q]) Q E s :=
  pick_ok B F X T hk N (news' := fun t' => V (at_ + 1) t' o) hd (H.src _ _ _) (fun _ => H.cells _ _ _) hi h1 h2 ha (fun t' => H.upd _ _ _ _ _) (ht _ _ _) (fun _ => ht _ _ _) hz hz' hret
end
-- C35
theorem kTup {P : Params} {news : List (Addr × Obj)} {q : Addr} {its : Array Value} {n : Nat} {d : Option Addr} {sl : Array (Option Value)} (h : (K1 P).lookup q = some { cls := .type "tuple", dict := d, data := .seq its n, slots := sl }) : TupIn P news q its := .inr ⟨n, d, sl, h⟩
def relTable : List (List Str × Str) := [([Str.ofString "="], Str.ofString "="), ([Str.ofString "EQUAL"], Str.ofString "="), ([Str.ofString "EQUAL", Str.ofString "TO"], Str.ofString "="), ([Str.ofString ">"], Str.ofString ">"), ([Str.ofString "GREATER"], Str.ofString ">"), ([Str.ofString "NOT", Str.ofString "LESS", Str.ofString "THAN"], Str.ofString ">="), ([Str.ofString "GREATER", Str.ofString "THAN"], Str.ofString ">"), ([Str.ofString "NOT", Str.ofString "<"], Str.ofString ">="), ([Str.ofString "NOT", Str.ofString "LESS"], Str.ofString ">="), ([Str.ofString ">="], Str.ofString ">="), ([Str.ofString "GREATER", Str.ofString "THAN", Str.ofString "OR", Str.ofString "EQUAL", Str.ofString "TO"], Str.ofString ">="), ([Str.ofString "GREATER", Str.ofString "OR", Str.ofString "EQUAL"], Str.ofString ">="), ([Str.ofString "=", Str.ofString "TO"], Str.ofString "=")]
def barTable : List (List Str × Int) := [([Str.ofString "LESS"], 0), ([Str.ofString "<"], 0), ([Str.ofString "NOT", Str.ofString "="], 1), ([Str.ofString "NOT", Str.ofString "GREATER"], 1), ([Str.ofString "NOT", Str.ofString ">="], 1), ([Str.ofString "A"], 0), ([Str.ofString "GREATER", Str.ofString "OR", Str.ofString "LESS"], 2)]
theorem rel_in {P : Params} {news : List (Addr × Obj)} : TupIn P news 595 #[.ref 570, .ref 572, .ref 574, .ref 576, .ref 578, .ref 580, .ref 582, .ref 584, .ref 586, .ref 588, .ref 590, .ref 592, .ref 594] := kTup (by rfl)
theorem rel_items {P : Params} {V : Int → Tok → Obj → List (Addr × Obj)} (j : Nat) (x : Value) (hx : (#[.ref 570, .ref 572, .ref 574, .ref 576, .ref 578, .ref 580, .ref 582, .ref 584, .ref 586, .ref 588, .ref 590, .ref 592, .ref 594] : Array Value)[j]? = some x) : ∃ (q qw : Addr) (ws : List Str) (r : Str) (t : Tok), x = .ref q ∧ (∀ a t' o, TupIn P (V a t' o) q #[.ref qw, .str r t]) ∧ WT P V qw ws ∧ (ws, r) ∈ relTable := by
  match j, hx with
  | 0, hx => cases hx; exact ⟨570, 569, _, _, _, rfl, fun _ _ _ => kTup (by rfl), ⟨[_], fun _ _ _ => kTup (by rfl), .cons _ _ .nil⟩, .head _⟩
  | 1, hx => cases hx; exact ⟨572, 571, _, _, _, rfl, fun _ _ _ => kTup (by rfl), ⟨[_], fun _ _ _ => kTup (by rfl), .cons _ _ .nil⟩, .tail _ (.head _)⟩
  | 2, hx => cases hx; exact ⟨574, 573, _, _, _, rfl, fun _ _ _ => kTup (by rfl), ⟨[_, _], fun _ _ _ => kTup (by rfl), .cons _ _ (.cons _ _ .nil)⟩, .tail _ (.tail _ (.head _))⟩
  | 3, hx => cases hx; exact ⟨576, 575, _, _, _, rfl, fun _ _ _ => kTup (by rfl), ⟨[_], fun _ _ _ => kTup (by rfl), .cons _ _ .nil⟩, .tail _ (.tail _ (.tail _ (.head _)))⟩
  | 4, hx => cases hx; exact ⟨578, 577, _, _, _, rfl, fun _ _ _ => kTup (by rfl), ⟨[_], fun _ _ _ => kTup (by rfl), .cons _ _ .nil⟩, .tail _ (.tail _ (.tail _ (.tail _ (.head _))))⟩
  | 5, hx => cases hx; exact ⟨580, 579, _, _, _, rfl, fun _ _ _ => kTup (by rfl), ⟨[_, _, _], fun _ _ _ => kTup (by rfl), .cons _ _ (.cons _ _ (.cons _ _ .nil))⟩, .tail _ (.tail _ (.tail _ (.tail _ (.tail _ (.head _)))))⟩
  | 6, hx => cases hx; exact ⟨582, 581, _, _, _, rfl, fun _ _ _ => kTup (by rfl), ⟨[_, _], fun _ _ _ => kTup (by rfl), .cons _ _ (.cons _ _ .nil)⟩, .tail _ (.tail _ (.tail _ (.tail _ (.tail _ (.tail _ (.head _))))))⟩
  | 7, hx => cases hx; exact ⟨584, 583, _, _, _, rfl, fun _ _ _ => kTup (by rfl), ⟨[_, _], fun _ _ _ => kTup (by rfl), .cons _ _ (.cons _ _ .nil)⟩, .tail _ (.tail _ (.tail _ (.tail _ (.tail _ (.tail _ (.tail _ (.head _)))))))⟩
  | 8, hx => cases hx; exact ⟨586, 585, _, _, _, rfl, fun _ _ _ => kTup (by rfl), ⟨[_, _], fun _ _ _ => kTup (by rfl), .cons _ _ (.cons _ _ .nil)⟩, .tail _ (.tail _ (.tail _ (.tail _ (.tail _ (.tail _ (.tail _ (.tail _ (.head _))))))))⟩
  | 9, hx => cases hx; exact ⟨588, 587, _, _, _, rfl, fun _ _ _ => kTup (by rfl), ⟨[_], fun _ _ _ => kTup (by rfl), .cons _ _ .nil⟩, .tail _ (.tail _ (.tail _ (.tail _ (.tail _ (.tail _ (.tail _ (.tail _ (.tail _ (.head _)))))))))⟩
  | 10, hx => cases hx; exact ⟨590, 589, _, _, _, rfl, fun _ _ _ => kTup (by rfl), ⟨[_, _, _, _, _], fun _ _ _ => kTup (by rfl), .cons _ _ (.cons _ _ (.cons _ _ (.cons _ _ (.cons _ _ .nil))))⟩, .tail _ (.tail _ (.tail _ (.tail _ (.tail _ (.tail _ (.tail _ (.tail _ (.tail _ (.tail _ (.head _))))))))))⟩
  | 11, hx => cases hx; exact ⟨592, 591, _, _, _, rfl, fun _ _ _ => kTup (by rfl), ⟨[_, _, _], fun _ _ _ => kTup (by rfl), .cons _ _ (.cons _ _ (.cons _ _ .nil))⟩, .tail _ (.tail _ (.tail _ (.tail _ (.tail _ (.tail _ (.tail _ (.tail _ (.tail _ (.tail _ (.tail _ (.head _)))))))))))⟩
  | 12, hx => cases hx; exact ⟨594, 593, _, _, _, rfl, fun _ _ _ => kTup (by rfl), ⟨[_, _], fun _ _ _ => kTup (by rfl), .cons _ _ (.cons _ _ .nil)⟩, .tail _ (.tail _ (.tail _ (.tail _ (.tail _ (.tail _ (.tail _ (.tail _ (.tail _ (.tail _ (.tail _ (.tail _ (.head _))))))))))))⟩
  | j + 13, hx => cases hx
theorem bar_in {P : Params} {news : List (Addr × Obj)} : TupIn P news 610 #[.ref 597, .ref 599, .ref 601, .ref 603, .ref 605, .ref 607, .ref 609] := kTup (by rfl)
theorem bar_items {P : Params} {V : Int → Tok → Obj → List (Addr × Obj)} (j : Nat) (x : Value) (hx : (#[.ref 597, .ref 599, .ref 601, .ref 603, .ref 605, .ref 607, .ref 609] : Array Value)[j]? = some x) : ∃ (q qw : Addr) (ws : List Str) (r : Int) (t : Tok), x = .ref q ∧ (∀ a t' o, TupIn P (V a t' o) q #[.ref qw, .int r t]) ∧ WT P V qw ws ∧ (ws, r) ∈ barTable := by
  match j, hx with
  | 0, hx => cases hx; exact ⟨597, 596, _, _, _, rfl, fun _ _ _ => kTup (by rfl), ⟨[_], fun _ _ _ => kTup (by rfl), .cons _ _ .nil⟩, .head _⟩
  | 1, hx => cases hx; exact ⟨599, 598, _, _, _, rfl, fun _ _ _ => kTup (by rfl), ⟨[_], fun _ _ _ => kTup (by rfl), .cons _ _ .nil⟩, .tail _ (.head _)⟩
  | 2, hx => cases hx; exact ⟨601, 600, _, _, _, rfl, fun _ _ _ => kTup (by rfl), ⟨[_, _], fun _ _ _ => kTup (by rfl), .cons _ _ (.cons _ _ .nil)⟩, .tail _ (.tail _ (.head _))⟩
  | 3, hx => cases hx; exact ⟨603, 602, _, _, _, rfl, fun _ _ _ => kTup (by rfl), ⟨[_, _], fun _ _ _ => kTup (by rfl), .cons _ _ (.cons _ _ .nil)⟩, .tail _ (.tail _ (.tail _ (.head _)))⟩
  | 4, hx => cases hx; exact ⟨605, 604, _, _, _, rfl, fun _ _ _ => kTup (by rfl), ⟨[_, _], fun _ _ _ => kTup (by rfl), .cons _ _ (.cons _ _ .nil)⟩, .tail _ (.tail _ (.tail _ (.tail _ (.head _))))⟩
  | 5, hx => cases hx; exact ⟨607, 606, _, _, _, rfl, fun _ _ _ => kTup (by rfl), ⟨[_], fun _ _ _ => kTup (by rfl), .cons _ _ .nil⟩, .tail _ (.tail _ (.tail _ (.tail _ (.tail _ (.head _)))))⟩
  | 6, hx => cases hx; exact ⟨609, 608, _, _, _, rfl, fun _ _ _ => kTup (by rfl), ⟨[_, _, _], fun _ _ _ => kTup (by rfl), .cons _ _ (.cons _ _ (.cons _ _ .nil))⟩, .tail _ (.tail _ (.tail _ (.tail _ (.tail _ (.tail _ (.head _))))))⟩
  | j + 7, hx => cases hx

section
variable {prog : Program} {w : World} {p : Program} {loose : List Str} {mean : ExcName → Option Value} {mg mb : Str → Option Value}
  {dp un : Nat} {gd : Option (List Code)} {cn : Str} {cs : Scope} {a : Addr} {ccd : Value} {A₀ : Around} {base h₀ : Heap} {L : Addr} {m : Str → Option Value} {s : Shared} {Q E : Value → Shared → Prop} {ps : Array Value}
  {sq cq q : Addr} {vs : List Value} {c nc : Nat} {V : Int → Tok → Obj → List (Addr × Obj)} {at_ : Int} {t : Tok} {ws : List Str} {x : Str}
theorem heard_LH (B : Below A₀ base [] h₀) (F : Fr h₀ L s.heap m) (X : (Mine.kMake.heap_1 w.params).In h₀) (T : Top p loose mean mg mb h₀) (hk : cs.kind = .function) (XB : (Mine.kMake.heap_1 w.params).In base) (TB : Top p loose mean mg mb base)
    (H : LH sq cq vs c nc V) (N : News h₀ L s.heap (V at_ t (tabObj ps))) (C : CodeHd base 236 232) (tb : TabOk ⟨174, 36, 174, 76⟩ ps) (hu : un + 130 < cLine) (hd : dp + 26 < recursionLimit)
    (hw : WT w.params V q ws) (hle : ws.length ≤ 40) (hok : ∀ x ∈ ws, WordOk x) (O : WsOk (ws ++ [Str.ofString "."]) x)
    (hret : ∀ d n, startL (ws ++ [Str.ofString "."]) 0 = .ok d n → ∀ (q2 : Addr) (V' : Obj → List (Addr × Obj)) h' tk' ps', TabOk ⟨174, 36, 174, 76⟩ ps' → (∀ o, ∀ p ∈ V at_ t o, p ∈ V' o) → (∀ o, DatIn (V' o) (.ref q2) (.tuple [d, .bool (n == (ws.length : Int))])) → Fr h₀ L h' m → News h₀ L h' (V' (tabObj ps')) → Q (.ref q2) { s with heap := h', toks := tk' })
    (hbad : ∀ n, startL (ws ++ [Str.ofString "."]) 0 = .bad n → ∀ t' h' tk' ps', TabOk ⟨174, 36, 174, 76⟩ ps' → Fr h₀ L h' m → News h₀ L h' (V at_ t (tabObj ps')) → Q (.int (n.toNat : Int) t') { s with heap := h', toks := tk' }) :
    wpAny (model prog w) (ktrTop dp un gd cn cs L a ccd [] []) (call (.ref 568) [.ref q, .ref 617]) Q E s := by
  obtain ⟨us, u1, u2⟩ := hw
  exact heard_ok (V := V at_ t) B F X T hk XB TB N C (H.tab at_ t) tb hu hd (u1 at_ t) u2 hle hok O (fun d n e q2 V' h' tk' ps' h1 _ h3 h4 h5 h6 => hret d n e q2 V' h' tk' ps' h1 h3 h4 h5 h6) hbad
end
-- C36
theorem execs_cut {M : Model} {A : Around} {E : Value → Shared → Prop} {Q : Flow → Shared → Prop} {st : Stmt} {rest : List Stmt} {env : Env} {s : Shared} (C : Shared → Prop)
    (h2 : ∀ s', C s' → wpAny M A (execs rest env) Q E s') (h1 : wpAny M A (exec st env) (fun fl s' => match fl with | .next => C s' | f => Q f s') E s) : wpAny M A (execs (st :: rest) env) Q E s :=
  wpAny_execs_cons (wpAny_mono h1 (fun f s' h => by cases f <;> first | exact h2 s' h | exact h) (fun _ _ h => h))
theorem frPin {h₀ h : Heap} {L : Addr} {m : Str → Option Value} {x : Str} {v : Value} (F : Fr h₀ L h m) (e : m x = some v) : Fr h₀ L h (fun y => if y = x then some v else m y) := by
  have z : (fun y => if y = x then some v else m y) = m := by
    funext y
    by_cases hy : y = x
    · rw [if_pos hy, hy, e]
    · rw [if_neg hy]
  rw [z]; exact F
/-- the law's state: the source's list, its cells, the ledger -/
structure LSt (h₀ h : Heap) (L sq cq : Addr) (vs : List Value) (is : List Int) (c nc : Nat) (V : Int → Tok → Obj → List (Addr × Obj)) (at_ : Int) (t : Tok) (ps : Array Value) : Prop where
  H : LH sq cq vs c nc V
  hi : IntsAre vs is
  h1 : 0 < is.length
  h2 : is.length ≤ 64
  ha : 0 ≤ at_
  tb : TabOk ⟨174, 36, 174, 76⟩ ps
  N : News h₀ L h (V at_ t (tabObj ps))
theorem lh_src {l D : Addr} {c nc : Nat} {vs : List Value} {tl : List (Addr × Obj)} (hD : (D, PySem.W.listOf vs.toArray nc) ∈ tl) (hl : 232 < l) (h1 : ∀ p ∈ tl, p.1 < l) (h2 : ∀ p ∈ tl, p.1 ≠ 232) : LH l D vs c nc (fun at_ t o => (l, PySem.W.listOf #[.ref D, .int at_ t] c) :: (tl ++ [(232, o)])) := by
  refine ⟨fun at_ t o at' t' => .head fun p hp => ?_, fun at_ t o => .tail (Nat.ne_of_gt hl) (updF_app (V := fun o => [(232, o)]) (.head fun p hp => nomatch hp) h2), fun _ _ _ => .tail _ (List.mem_append_left _ hD)⟩
  rcases List.mem_append.mp hp with hp | hp
  · exact Nat.ne_of_lt (h1 p hp)
  · rw [List.mem_singleton.mp hp]; exact Nat.ne_of_lt hl
/-- what lies in every ledger: a tuple of data -/
def BD (V : Int → Tok → Obj → List (Addr × Obj)) (v : Value) (ds : List Dat) : Prop := ∃ (q : Addr) (us : List Value), v = .ref q ∧ (∀ at_ t o, (q, tup us.toArray) ∈ V at_ t o) ∧ ∀ at_ t o, DatAll (V at_ t o) us ds
theorem BD.mono {V V' : Int → Tok → Obj → List (Addr × Obj)} {v : Value} {ds : List Dat} (h : BD V v ds) (hs : ∀ at_ t o, ∀ p ∈ V at_ t o, p ∈ V' at_ t o) : BD V' v ds := by
  obtain ⟨q, us, e, a, b⟩ := h
  exact ⟨q, us, e, fun at_ t o => hs at_ t o _ (a at_ t o), fun at_ t o => (b at_ t o).mono (hs at_ t o)⟩
theorem BD.dat {V : Int → Tok → Obj → List (Addr × Obj)} {v : Value} {ds : List Dat} (h : BD V v ds) (at_ : Int) (t : Tok) (o : Obj) : DatIn (V at_ t o) v (.tuple ds) := by
  obtain ⟨q, us, e, a, b⟩ := h
  subst e
  exact DatIn.tuple (a at_ t o) (b at_ t o)
/-- a pair that lies, in every ledger -/
def PT (P : Params) (V : Int → Tok → Obj → List (Addr × Obj)) (q : Addr) (its : Array Value) : Prop := ∀ at_ t o, TupIn P (V at_ t o) q its
theorem PT.mono {P : Params} {V V' : Int → Tok → Obj → List (Addr × Obj)} {q : Addr} {its : Array Value} (h : PT P V q its) (hs : ∀ at_ t o, ∀ p ∈ V at_ t o, p ∈ V' at_ t o) : PT P V' q its := fun at_ t o => (h at_ t o).mono (hs at_ t o)
theorem subDrop {V V' : Int → Tok → Obj → List (Addr × Obj)} {tl : List (Addr × Obj)} (h : ∀ at_ t o, ∀ p ∈ tl ++ V at_ t o, p ∈ V' at_ t o) : ∀ at_ t o, ∀ p ∈ V at_ t o, p ∈ V' at_ t o := fun at_ t o p hp => h at_ t o p (List.mem_append_right _ hp)
theorem wtLit {P : Params} {V : Int → Tok → Obj → List (Addr × Obj)} {q : Addr} {us : List Value} {ws : List Str} {tl : List (Addr × Obj)} (h : (q, ({ cls := .type "tuple", data := .seq us.toArray } : Obj)) ∈ tl) (hs : StrsAre us ws) : WT P (fun at_ t o => tl ++ V at_ t o) q ws := ⟨us, fun _ _ _ => .inl (List.mem_append_left _ h), hs⟩
theorem wtApp {P : Params} {V : Int → Tok → Obj → List (Addr × Obj)} {q : Addr} {ws : List Str} {tl : List (Addr × Obj)} (h : WT P V q ws) : WT P (fun at_ t o => tl ++ V at_ t o) q ws := h.mono fun _ _ _ _ hp => List.mem_append_right _ hp
/-- what was made lies over the ledger: take it in -/
theorem take_in {sq cq : Addr} {vs : List Value} {c nc : Nat} {V : Int → Tok → Obj → List (Addr × Obj)} (H : LH sq cq vs c nc V) {tl : List (Addr × Obj)} {at_ : Int} {t : Tok} {o : Obj} (h : ∀ q ∈ tl, ∀ p ∈ V at_ t o, p.1 < q.1) : LH sq cq vs c nc (fun at_ t o => tl ++ V at_ t o) :=
  H.app fun q hq => ⟨H.ne (h q hq), H.neT (h q hq)⟩
theorem refresh {h₀ h h' : Heap} {L sq cq : Addr} {vs : List Value} {is : List Int} {c nc : Nat} {V : Int → Tok → Obj → List (Addr × Obj)} {at_ : Int} {t : Tok} {ps : Array Value} (S : LSt h₀ h L sq cq vs is c nc V at_ t ps) (N : News h₀ L h' (V at_ t (tabObj ps))) : LSt h₀ h' L sq cq vs is c nc V at_ t ps := ⟨S.H, S.hi, S.h1, S.h2, S.ha, S.tb, N⟩
theorem absorb (tl : List (Addr × Obj)) {h₀ h h' : Heap} {L sq cq : Addr} {vs : List Value} {is : List Int} {c nc : Nat} {V : Int → Tok → Obj → List (Addr × Obj)} {at_ : Int} {t : Tok} {ps : Array Value} (S : LSt h₀ h L sq cq vs is c nc V at_ t ps) (N : News h₀ L h' (tl ++ V at_ t (tabObj ps))) (ht : ∀ q ∈ tl, ∀ p ∈ V at_ t (tabObj ps), p.1 < q.1) : LSt h₀ h' L sq cq vs is c nc (fun at_ t o => tl ++ V at_ t o) at_ t ps ∧ ∀ at_ t o, ∀ p ∈ V at_ t o, p ∈ (fun at_ t o => tl ++ V at_ t o) at_ t o :=
  ⟨⟨take_in S.H ht, S.hi, S.h1, S.h2, S.ha, S.tb, N⟩, fun _ _ _ _ hp => List.mem_append_right _ hp⟩
theorem wtMem {P : Params} {V : Int → Tok → Obj → List (Addr × Obj)} {q : Addr} {us : List Value} {ws : List Str} (h : ∀ at_ t o, (q, tup us.toArray) ∈ V at_ t o) (hs : StrsAre us ws) : WT P V q ws := ⟨us, fun at_ t o => .inl (h at_ t o), hs⟩
/-- two tuples of words -/
theorem wordsAdd {prog : Program} {w : World} {A : Around} {E : Value → Shared → Prop} {s : Shared} {Q : Value → Shared → Prop} {h₀ : Heap} {L sq cq q1 q2 : Addr} {m : Str → Option Value} {vs : List Value} {is : List Int} {c nc : Nat} {V : Int → Tok → Obj → List (Addr × Obj)} {at_ : Int} {t : Tok} {ps : Array Value} {ws1 ws2 : List Str}
    (S : LSt h₀ s.heap L sq cq vs is c nc V at_ t ps) (F : Fr h₀ L s.heap m) (X : (Mine.kMake.heap_1 w.params).In h₀) (w1 : WT w.params V q1 ws1) (w2 : WT w.params V q2 ws2) (hz : ws1.length + ws2.length ≤ 1000)
    (h : ∀ q V' h', (∀ at_ t o, ∀ p ∈ V at_ t o, p ∈ V' at_ t o) → WT w.params V' q (ws1 ++ ws2) → Fr h₀ L h' m → LSt h₀ h' L sq cq vs is c nc V' at_ t ps → Q (.ref q) { s with heap := h' }) :
    wpAny (model prog w) A (binaryOp .Add (.ref q1) (.ref q2)) Q E s :=
  words_add S.H F X S.N w1 w2 hz fun q V' h' H' sub W' F' N' => h q V' h' sub W' F' ⟨H', S.hi, S.h1, S.h2, S.ha, S.tb, N'⟩
theorem news_of {h₀ h h' : Heap} {L sq cq : Addr} {vs : List Value} {is : List Int} {c nc : Nat} {V : Int → Tok → Obj → List (Addr × Obj)} {at_ : Int} {t t' : Tok} {ps : Array Value} (S : LSt h₀ h L sq cq vs is c nc V at_ t ps) (N : News h₀ L h' (V (at_ + 1) t' (tabObj ps))) : LSt h₀ h' L sq cq vs is c nc V (at_ + 1) t' ps := ⟨S.H, S.hi, S.h1, S.h2, by have := S.ha; omega, S.tb, N⟩
def RefsAre (P : Params) (V : Int → Tok → Obj → List (Addr × Obj)) (D : Addr) : Prop := ∃ its : Array Value, PT P V D its ∧ its.size = 4 ∧ ∀ (j : Nat) x, its[j]? = some x → ∃ (q qw k : Addr) (ws : List Str), x = .ref q ∧ PT P V q #[.ref qw, .ref k] ∧ WT P V qw ws ∧ (ws, k) ∈ refTable
theorem refs_are {P : Params} {V : Int → Tok → Obj → List (Addr × Obj)} {D : Addr} {tl : List (Addr × Obj)} (R : RefsIn tl D) : RefsAre P (fun at_ t o => tl ++ V at_ t o) D := by
  obtain ⟨its, i1, i2, i3⟩ := R
  refine ⟨its, fun _ _ _ => .inl (List.mem_append_left _ i1), i2, fun j x hx => ?_⟩
  obtain ⟨pa, wa, k, us, ws, e, h1, h2, h3, h4⟩ := i3 j x hx
  exact ⟨pa, wa, k, ws, e, fun _ _ _ => .inl (List.mem_append_left _ h1), ⟨us, fun _ _ _ => .inl (List.mem_append_left _ h2), h3⟩, h4⟩
/-- the words' own check, as one Bool -/
def noCC : List Str → Bool
  | [] => true
  | x :: r => (!(x == Str.ofString "CONTINUE" && r.head? == some (Str.ofString "CONTINUE"))) && noCC r
def wordB (x : Str) : Bool := decide (0 < x.length) && decide (x.length ≤ 100) && !(Txt.item x 0 == Str.ofString "!")
def roB (us : List Str) (p : Int) : Bool := match keyRelW (wdL us) (sgL us) p with
  | .ok _ n => (refW (nmL us) (wdL us) (sgL us) (numL us) n).isSome
  | .bad _ => true
def nnB (us : List Str) : Bool := match startL us 0 with
  | .ok _ n => decide (0 ≤ n)
  | _ => true
def okW (ws : List Str) : Bool :=
  let us := ws ++ [Str.ofString "."]
  noCC us && wdL us 0 "START" && (nmL us (0 + 1) == some (Str.ofString "F-A")) && (if wdL us (0 + 1 + 1 + 1) "IS" then roB us (0 + 1 + 1 + 1 + 1) else roB us (0 + 1 + 1 + 1)) && nnB us && ws.all wordB && decide (ws.length ≤ 40) && !(us.head? == some (Str.ofString "CONTINUE"))
theorem okW_le {ws : List Str} (h : okW ws = true) : ws.length ≤ 40 := by
  simp only [okW, Bool.and_eq_true, decide_eq_true_eq] at h
  exact h.1.2
theorem okW_word {ws : List Str} (h : okW ws = true) : ∀ x ∈ ws, WordOk x := by
  simp only [okW, Bool.and_eq_true, decide_eq_true_eq] at h
  have h1 := h.1.1.2
  intro x hx
  have h2 := List.all_eq_true.mp h1 x hx
  simp only [wordB, Bool.and_eq_true, decide_eq_true_eq, Bool.not_eq_true'] at h2
  exact ⟨h2.1.1, h2.1.2, h2.2⟩
theorem noCC_at : ∀ {us : List Str}, noCC us = true → ∀ i, us[i]? = some (Str.ofString "CONTINUE") → us[i + 1]? ≠ some (Str.ofString "CONTINUE")
  | [], _, i, h, _ => by simp at h
  | x :: r, h, i, h1, h2 => by
    simp only [noCC, Bool.and_eq_true, Bool.not_eq_true', Bool.and_eq_false_iff] at h
    cases i with
    | zero =>
      simp only [List.getElem?_cons_zero, Option.some.injEq] at h1
      have h3 : r.head? = some (Str.ofString "CONTINUE") := by simpa [List.head?_eq_getElem?] using h2
      rcases h.1 with q | q
      · rw [h1, beq_self_eq_true] at q; cases q
      · rw [h3, beq_self_eq_true] at q; cases q
    | succ i => exact noCC_at h.2 i (by simpa using h1) (by simpa using h2)
theorem wdL_iff {us : List Str} {p : Int} {wd : Str} (h : wdL us p wd = true) : atL us p = some wd := by
  unfold wdL at h
  split at h
  · rename_i x e
    simp only [Bool.and_eq_true] at h
    rw [e, eq_of_beq h.2]
  · cases h
theorem okW_ok {ws : List Str} (h : okW ws = true) : WsOk (ws ++ [Str.ofString "."]) (Str.ofString "F-A") := by
  simp only [okW, Bool.and_eq_true, decide_eq_true_eq] at h
  obtain ⟨⟨⟨⟨⟨⟨⟨h1, h2⟩, h3⟩, h4⟩, h5⟩, h6⟩, h7⟩, h8⟩ := h
  refine ⟨fun p x e hne => ?_, fun p e => ?_, h2, eq_of_beq h3, ⟨fun e rel n q => ?_, fun e rel n q => ?_⟩, fun d n e => ?_⟩
  · unfold atL at e ⊢
    have hlt : (p + 0).toNat < (ws ++ [Str.ofString "."]).length := (List.getElem?_eq_some_iff.mp e).1
    have hl : (ws ++ [Str.ofString "."]).length = ws.length + 1 := by simp
    rw [hl] at hlt
    have hn : (p + 0).toNat ≠ ws.length := by
      intro z
      rw [z, List.getElem?_append_right (Nat.le_refl _), Nat.sub_self] at e
      exact hne (Option.some.inj e).symm
    rw [List.getElem?_eq_getElem (by rw [hl]; omega)]; rfl
  · cases z : wdL (ws ++ [Str.ofString "."]) (p + 1) "CONTINUE" with
    | false => rfl
    | true =>
      exfalso
      have e1 := wdL_iff e
      have e2 := wdL_iff z
      unfold atL at e1 e2
      by_cases hp : 0 ≤ p
      · refine noCC_at h1 p.toNat ?_ ?_
        · rw [show (p + 0).toNat = p.toNat by omega] at e1; exact e1
        · rw [show (p + 1 + 0).toNat = p.toNat + 1 by omega] at e2; exact e2
      · rw [show (p + 0).toNat = 0 by omega] at e1
        simp only [Bool.not_eq_true', List.head?_eq_getElem?] at h8
        rw [show (ws ++ [Str.ofString "."])[0]? = some (Str.ofString "CONTINUE") from e1] at h8
        rw [beq_self_eq_true] at h8; cases h8
  · rw [if_neg (by rw [e]; decide)] at h4
    unfold roB at h4; rw [q] at h4; exact h4
  · rw [if_pos e] at h4
    unfold roB at h4; rw [q] at h4; exact h4
  · unfold nnB at h5; rw [e] at h5; exact of_decide_eq_true h5
theorem datAll_app {news : List (Addr × Obj)} {us us' : List Value} {ds ds' : List Dat} (h : DatAll news us ds) (h' : DatAll news us' ds') : DatAll news (us ++ us') (ds ++ ds') := by
  induction us generalizing ds with
  | nil => cases h; exact h'
  | cons u us ih => cases h with | cons a b => exact .cons a (ih b)
theorem datAll_len {news : List (Addr × Obj)} {us : List Value} : ∀ {ds : List Dat}, DatAll news us ds → us.length = ds.length := by
  induction us with
  | nil => intro ds h; cases h; rfl
  | cons u us ih => intro ds h; cases h with | cons a b => simp [ih b]
theorem bdMem {V : Int → Tok → Obj → List (Addr × Obj)} {q : Addr} {us : List Value} {ds : List Dat} (h : ∀ at_ t o, (q, tup us.toArray) ∈ V at_ t o) (hs : ∀ at_ t o, DatAll (V at_ t o) us ds) : BD V (.ref q) ds := ⟨q, us, rfl, h, hs⟩
/-- two tuples of data -/
theorem bdAdd {prog : Program} {w : World} {A : Around} {E : Value → Shared → Prop} {s : Shared} {Q : Value → Shared → Prop} {h₀ : Heap} {L sq cq q1 q2 : Addr} {m : Str → Option Value} {vs : List Value} {is : List Int} {c nc : Nat} {V : Int → Tok → Obj → List (Addr × Obj)} {at_ : Int} {t : Tok} {ps : Array Value} {ds1 ds2 : List Dat}
    (S : LSt h₀ s.heap L sq cq vs is c nc V at_ t ps) (F : Fr h₀ L s.heap m) (b1 : BD V (.ref q1) ds1) (b2 : BD V (.ref q2) ds2) (hz : ds1.length + ds2.length ≤ 1000)
    (h : ∀ q V' h', (∀ at_ t o, ∀ p ∈ V at_ t o, p ∈ V' at_ t o) → BD V' (.ref q) (ds1 ++ ds2) → Fr h₀ L h' m → LSt h₀ h' L sq cq vs is c nc V' at_ t ps → Q (.ref q) { s with heap := h' }) :
    wpAny (model prog w) A (binaryOp .Add (.ref q1) (.ref q2)) Q E s := by
  have N := S.N
  obtain ⟨_, u1, e1, a1, c1⟩ := b1
  obtain ⟨_, u2, e2, a2, c2⟩ := b2
  cases e1
  cases e2
  have l1 := datAll_len (c1 0 0 default)
  have l2 := datAll_len (c2 0 0 default)
  refine add_tuples F N (N.isTup (a1 at_ t (tabObj ps))) (N.isTup (a2 at_ t (tabObj ps))) (fun e => ?_) (fun _ e => ?_) (fun _ _ h' F' N' => ?_) (by rw [sizeLine_eq]; omega)
  · have e' : u1 = [] := by simpa using e
    subst e'
    cases c1 0 0 default
    exact h q2 _ s.heap (fun _ _ _ _ hp => hp) ⟨q2, u2, rfl, a2, by simpa using c2⟩ F S
  · have e' : u2 = [] := by simpa using e
    subst e'
    cases c2 0 0 default
    exact h q1 _ s.heap (fun _ _ _ _ hp => hp) ⟨q1, u1, rfl, a1, by simpa using c1⟩ F S
  · have hl : ∀ p ∈ V at_ t (tabObj ps), p.1 < s.heap.objs.size := fun p hp => Heap.lt_size (N p hp).1
    exact h _ (fun at_ t o => (s.heap.objs.size, tup (u1 ++ u2).toArray) :: V at_ t o) h' (fun _ _ _ _ hp => .tail _ hp) ⟨_, _, rfl, fun _ _ _ => .head _, fun at_ t o => (datAll_app (c1 at_ t o) (c2 at_ t o)).mono fun _ hp => .tail _ hp⟩ F' ⟨S.H.cons (S.H.ne hl) (S.H.neT hl), S.hi, S.h1, S.h2, S.ha, S.tb, N'⟩
theorem wt_len {prog : Program} {w : World} {A : Around} {E : Value → Shared → Prop} {s : Shared} {Q : Value → Shared → Prop} {h₀ : Heap} {L sq cq q : Addr} {m : Str → Option Value} {vs : List Value} {is : List Int} {c nc : Nat} {V : Int → Tok → Obj → List (Addr × Obj)} {at_ : Int} {t : Tok} {ps : Array Value} {ws : List Str}
    (S : LSt h₀ s.heap L sq cq vs is c nc V at_ t ps) (F : Fr h₀ L s.heap m) (X : (Mine.kMake.heap_1 w.params).In h₀) (hw : WT w.params V q ws) (hz : ws.length ≤ 64) (h : Q (.int (ws.length : Int) (s.toks + 1)) { s with toks := s.toks + 1 + 1 }) : wpAny (model prog w) A (call (.builtin "len") [.ref q]) Q E s := by
  obtain ⟨us, a, b⟩ := hw
  have e := strsAre_len b
  refine tupIn_len F X S.N (a at_ t (tabObj ps)) (by simpa [e] using hz) ?_
  have e2 : us.toArray.size = ws.length := by simpa using e
  rw [e2]; exact h
theorem pt_is {w : World} {s : Shared} {h₀ : Heap} {L sq cq q : Addr} {m : Str → Option Value} {vs : List Value} {is : List Int} {c nc : Nat} {V : Int → Tok → Obj → List (Addr × Obj)} {at_ : Int} {t : Tok} {ps : Array Value} {its : Array Value} (S : LSt h₀ s.heap L sq cq vs is c nc V at_ t ps) (F : Fr h₀ L s.heap m) (X : (Mine.kMake.heap_1 w.params).In h₀) (hp : PT w.params V q its) : IsTup s.heap q its := tupIn_is F X S.N (hp at_ t (tabObj ps))
/-- a value that reads as a datum in every heap that keeps the base -/
def KV (h₀ : Heap) (v : Value) (d : Dat) : Prop := ∃ as, Reads h₀ v (kqdP d) as
def kDat (k : Addr) : Dat :=
  if k = 516 then .tuple [.str "ref", .str "A", .tuple [], .tuple [], .none]
  else if k = 519 then .tuple [.str "ref", .str "B", .tuple [.str "C"], .tuple [], .none]
  else .tuple [.str "ref", .str "T", .tuple [], .tuple [.tuple [.str "number", .tuple [.int 2, .int 0]]], .none]
theorem kv_none {h₀ : Heap} : KV h₀ .none .none := ⟨_, Reads.none⟩
theorem krTup {P : Params} {h₀ : Heap} (X : (K1 P).In h₀) {q : Addr} {items : Array Value} {n : Nat} {d : Option Addr} {sl : Array (Option Value)} {xs : List PyData} (hk : (K1 P).lookup q = some { cls := .type "tuple", dict := d, data := .seq items n, slots := sl }) (r : ∃ as, ReadsAll h₀ items.toList xs as) : ∃ as, Reads h₀ (.ref q) (.tuple xs) as :=
  r.elim fun as r => ⟨as, Reads.tuple (X _ _ hk) rfl rfl r⟩
theorem krNil {h₀ : Heap} : ∃ as, ReadsAll h₀ [] [] as := ⟨_, ReadsAll.nil⟩
theorem krCons {h₀ : Heap} {v : Value} {vs : List Value} {d : PyData} {ds : List PyData} (a : ∃ as, Reads h₀ v d as) (b : ∃ as, ReadsAll h₀ vs ds as) : ∃ as, ReadsAll h₀ (v :: vs) (d :: ds) as :=
  a.elim fun _ a => b.elim fun _ b => ⟨_, ReadsAll.cons a b⟩
theorem kv_516 {P : Params} {h₀ : Heap} (X : (K1 P).In h₀) : KV h₀ (.ref 516) (kDat 516) := by
  show ∃ as, Reads h₀ (.ref 516) (.tuple [.str "ref", .str "A", .tuple [], .tuple [], .none]) as
  refine krTup X (by rfl) ?_
  repeat (first | exact krNil | refine krCons ?_ ?_ | exact ⟨_, Reads.str _ _⟩ | exact ⟨_, Reads.none⟩ | exact ⟨_, Reads.int _ _⟩ | refine krTup X (by rfl) ?_)
theorem kv_519 {P : Params} {h₀ : Heap} (X : (K1 P).In h₀) : KV h₀ (.ref 519) (kDat 519) := by
  show ∃ as, Reads h₀ (.ref 519) (.tuple [.str "ref", .str "B", .tuple [.str "C"], .tuple [], .none]) as
  refine krTup X (by rfl) ?_
  repeat (first | exact krNil | refine krCons ?_ ?_ | exact ⟨_, Reads.str _ _⟩ | exact ⟨_, Reads.none⟩ | exact ⟨_, Reads.int _ _⟩ | refine krTup X (by rfl) ?_)
theorem kv_524 {P : Params} {h₀ : Heap} (X : (K1 P).In h₀) : KV h₀ (.ref 524) (kDat 524) := by
  show ∃ as, Reads h₀ (.ref 524) (.tuple [.str "ref", .str "T", .tuple [], .tuple [.tuple [.str "number", .tuple [.int 2, .int 0]]], .none]) as
  refine krTup X (by rfl) ?_
  repeat (first | exact krNil | refine krCons ?_ ?_ | exact ⟨_, Reads.str _ _⟩ | exact ⟨_, Reads.none⟩ | exact ⟨_, Reads.int _ _⟩ | refine krTup X (by rfl) ?_)
theorem kv_ref {P : Params} {h₀ : Heap} (X : (K1 P).In h₀) {ws : List Str} {k : Addr} (h : (ws, k) ∈ refTable) : KV h₀ (.ref k) (kDat k) := by
  unfold refTable at h
  rcases List.mem_cons.mp h with h | h
  · rw [(Prod.mk.inj h).2]; exact kv_516 X
  · rcases List.mem_cons.mp h with h | h
    · rw [(Prod.mk.inj h).2]; exact kv_519 X
    · rcases List.mem_cons.mp h with h | h
      · rw [(Prod.mk.inj h).2]; exact kv_524 X
      · rw [(Prod.mk.inj (List.mem_singleton.mp h)).2]; exact kv_519 X
abbrev startD (rel : Str) (kd : Dat) (ds : List Dat) : Dat := .tuple [.str "start", .str "F-A", .str rel, kd, .tuple ds]
structure FinOk (ws : List Str) (e : Dat) : Prop where
  ok : okW ws = true
  st : startL (ws ++ [Str.ofString "."]) 0 = .ok e (ws.length : Int)
  ke : kqdOk 9 e = true
  sh : PySem.SeqAt.shaped (.tuple [kqdP e, .bool true]) = true
/-- the law's comparison of what was read with what was built -/
theorem cmp_LS {prog : Program} {w : World} {A : Around} {E : Value → Shared → Prop} {s : Shared} {Q : Value → Shared → Prop} {h₀ : Heap} {L q2 q3 q4 : Addr} {m : Str → Option Value} {news : List (Addr × Obj)} {kd : Dat} {rel : Str} {ds : List Dat} {ta tb tr : Tok} {kv bv : Value}
    (F : Fr h₀ L s.heap m) (N : News h₀ L s.heap news) (D : DatIn news (.ref q2) (.tuple [startD rel kd ds, .bool true])) (m4 : (q4, tup #[.ref q3, .bool true]) ∈ news) (m3 : (q3, tup #[.str "start" ta, .str "F-A" tb, .str rel tr, kv, bv]) ∈ news) (K : KV h₀ kv kd) (bd : DatIn news bv (.tuple ds))
    (oe : kqdOk 9 (startD rel kd ds) = true) (sh : PySem.SeqAt.shaped (.tuple [kqdP (startD rel kd ds), .bool true]) = true) (hu : A.units + 64 < cLine) (h : Q (.bool false) s) :
    wpAny (model prog w) A (compareOp .NotEq (.ref q2) (.ref q4)) Q E s := by
  obtain ⟨as, ra⟩ : ∃ as, Reads s.heap (.ref q2) (.tuple [kqdP (startD rel kd ds), .bool true]) as := by
    cases D with
    | tuple hm r =>
      cases r with
      | cons r1 r =>
        cases r with
        | cons r2 r =>
          cases r2
          cases r
          obtain ⟨as, r1⟩ := kqd_in N 9 r1 oe
          exact ⟨_, reads_tuple_at (N.get hm) rfl rfl (ReadsAll.cons r1 (ReadsAll.cons (Reads.bool _) ReadsAll.nil))⟩
  obtain ⟨bs, rb⟩ : ∃ bs, Reads s.heap (.ref q4) (.tuple [kqdP (startD rel kd ds), .bool true]) bs := by
    obtain ⟨ks, rk⟩ := K
    have rk := Reads.keeps F.keep rk
    obtain ⟨bs, rd⟩ := kqd_in N 8 bd (by simp only [kqdOk, List.all_cons, List.all_nil, Bool.and_eq_true] at oe; exact oe.2.2.2.2.1)
    exact ⟨_, reads_tuple_at (N.get m4) rfl rfl (ReadsAll.cons (reads_tuple_at (N.get m3) rfl rfl (ReadsAll.cons (Reads.str _ _) (ReadsAll.cons (Reads.str _ _) (ReadsAll.cons (Reads.str _ _) (ReadsAll.cons rk (ReadsAll.cons rd ReadsAll.nil)))))) (ReadsAll.cons (Reads.bool _) ReadsAll.nil))⟩
  refine ne_dataH ra rb sh sh hu ?_
  rw [PySem.SeqAt.eqv_refl _ (PySem.SeqAt.canLay_of_shaped sh)]
  exact h
mutual
def datB : Dat → Dat → Bool
  | .none, .none => true
  | .bool a, .bool b => a == b
  | .int a, .int b => a == b
  | .str a, .str b => a == b
  | .tuple a, .tuple b => datsB a b
  | _, _ => false
def datsB : List Dat → List Dat → Bool
  | [], [] => true
  | a :: r, b :: r' => datB a b && datsB r r'
  | _, _ => false
end
mutual
theorem datB_eq : ∀ (a b : Dat), datB a b = true → a = b
  | .none, b, h => by cases b <;> first | rfl | simp [datB] at h
  | .bool a, b, h => by cases b <;> simp [datB] at h; rw [h]
  | .int a, b, h => by cases b <;> simp [datB] at h; rw [h]
  | .str a, b, h => by cases b <;> simp [datB] at h; rw [h]
  | .bytes a, b, h => by cases b <;> simp [datB] at h
  | .list a, b, h => by cases b <;> simp [datB] at h
  | .tuple a, b, h => by cases b <;> simp [datB] at h; rw [datsB_eq a _ h]
theorem datsB_eq : ∀ (a b : List Dat), datsB a b = true → a = b
  | [], b, h => by cases b <;> first | rfl | simp [datsB] at h
  | x :: r, b, h => by
    cases b with
    | nil => simp [datsB] at h
    | cons y b => simp [datsB] at h; rw [datB_eq x y h.1, datsB_eq r b h.2]
end
def finB (ws : List Str) (e : Dat) : Bool := okW ws && (match startL (ws ++ [Str.ofString "."]) 0 with
  | .ok d n => n == (ws.length : Int) && datB d e
  | _ => false) && kqdOk 9 e && PySem.SeqAt.shaped (.tuple [kqdP e, .bool true])
theorem finB_ok {ws : List Str} {e : Dat} (h : finB ws e = true) : FinOk ws e := by
  simp only [finB, Bool.and_eq_true] at h
  obtain ⟨⟨⟨h1, h2⟩, h3⟩, h4⟩ := h
  refine ⟨h1, ?_, h3, h4⟩
  split at h2
  · rename_i d n q
    simp only [Bool.and_eq_true] at h2
    rw [q, datB_eq _ _ h2.2, eq_of_beq h2.1]
  · cases h2
def badB (ws : List Str) (k : Int) : Bool := okW ws && (match startL (ws ++ [Str.ofString "."]) 0 with
  | .bad n => n == k
  | _ => false)
theorem badB_ok {ws : List Str} {k : Int} (h : badB ws k = true) : okW ws = true ∧ startL (ws ++ [Str.ofString "."]) 0 = .bad k := by
  simp only [badB, Bool.and_eq_true] at h
  refine ⟨h.1, ?_⟩
  have h2 := h.2
  split at h2
  · rename_i n q
    rw [q, eq_of_beq h2]
  · cases h2
abbrev HD := List Str × Str × Dat
def isL : List (List Str) := [[], [Str.ofString "IS"]]
def headKey : List Str := [Str.ofString "START", Str.ofString "F-A"] ++ [Str.ofString "KEY"]
def headsL : List HD := ([Str.ofString "START", Str.ofString "F-A"], Str.ofString "=", .none) :: (relTable.flatMap fun r => refTable.flatMap fun f => isL.map fun i => (((headKey ++ i) ++ r.1) ++ f.1, r.2, kDat f.2))
def keyL : List (List Str) := [[], [Str.ofString "KEY"]]
def t1L : List (List Str × List Dat) := ([], []) :: keyL.map fun k => (([Str.ofString "INVALID"] ++ k) ++ [Str.ofString "CONTINUE"], [dBr "invalid"])
def t2L : List (List Str × List Dat) := ([], []) :: keyL.map fun k => ((([Str.ofString "NOT"] ++ [Str.ofString "INVALID"]) ++ k) ++ [Str.ofString "CONTINUE"], [dBr "not invalid"])
def endL : List (List Str) := [[], [Str.ofString "END-START"]]
theorem len_in {α : Type} {l : List (List Str × α)} {n : Nat} (h : (l.all fun x => decide (x.1.length ≤ n)) = true) {ws : List Str} {r : α} (hm : (ws, r) ∈ l) : ws.length ≤ n := of_decide_eq_true (List.all_eq_true.mp h _ hm)
theorem RefsAre.mono {P : Params} {V V' : Int → Tok → Obj → List (Addr × Obj)} {D : Addr} (h : RefsAre P V D) (hs : ∀ at_ t o, ∀ p ∈ V at_ t o, p ∈ V' at_ t o) : RefsAre P V' D := by
  obtain ⟨its, i1, i2, i3⟩ := h
  refine ⟨its, PT.mono i1 hs, i2, fun j x hx => ?_⟩
  obtain ⟨q, qw, k, ws, e, a1, a2, a3⟩ := i3 j x hx
  exact ⟨q, qw, k, ws, e, PT.mono a1 hs, WT.mono a2 hs, a3⟩

-- C37
section
variable {prog : Program} {w : World} {p : Program} {loose : List Str} {mean : ExcName → Option Value} {mg mb : Str → Option Value}
  {dp un : Nat} {gd : Option (List Code)} {cn : Str} {cs : Scope} {a : Addr} {ccd : Value} {cl : List (Str × Addr)} {outer : List Env} {A₀ : Around} {base h₀ : Heap} {L : Addr} {m : Str → Option Value} {s : Shared} {Q E : Value → Shared → Prop}
  {k : Int} {u : Tok} {sq cq : Addr} {vs : List Value} {c nc : Nat} {V : Int → Tok → Obj → List (Addr × Obj)} {at_ : Int} {t : Tok} {ps : Array Value} {is : List Int}
variable (S : LSt h₀ s.heap L sq cq vs is c nc V at_ t ps) (B : Below A₀ base outer h₀) (F : Fr h₀ L s.heap m) (X : (Mine.kMake.heap_1 w.params).In h₀) (T : Top p loose mean mg mb h₀) (hk : cs.kind = .function)
include S B F X T hk
theorem draw_LS (hd : dp + 2 < recursionLimit) (hl : 0 < k)
    (hret : ∀ i ti t' h' tk', 0 ≤ i → i < k → Fr h₀ L h' m → LSt h₀ h' L sq cq vs is c nc V (at_ + 1) t' ps → Q (.int i ti) { s with heap := h', toks := tk' }) :
    wpAny (model prog w) (ktrTop dp un gd cn cs L a ccd cl outer) (call (.ref 508) [.ref sq, .int k u]) Q E s :=
  draw_LH B F X T hk S.H S.N S.hi S.h1 S.h2 S.ha hd hl fun i ti t' h' tk' a b F' N' => hret i ti t' h' tk' a b F' (news_of S N')
theorem pick_rel (hd : dp + 4 < recursionLimit)
    (hret : ∀ q qw ws r t9 t' h' tk', PT w.params V q #[.ref qw, .str r t9] → WT w.params V qw ws → (ws, r) ∈ relTable → ws.length ≤ 8 → Fr h₀ L h' m → LSt h₀ h' L sq cq vs is c nc V (at_ + 1) t' ps → Q (.ref q) { s with heap := h', toks := tk' }) :
    wpAny (model prog w) (ktrTop dp un gd cn cs L a ccd cl outer) (call (.ref 547) [.ref sq, .ref 595]) Q E s :=
  pick_LH B F X T hk S.H S.N S.hi S.h1 S.h2 S.ha hd (fun _ _ _ => rel_in) (by decide) (by decide) fun j x t' h' tk' hx F' N' => by
    obtain ⟨q, qw, ws, r, t9, rfl, a1, a2, a3⟩ := rel_items (P := w.params) (V := V) j x hx
    exact hret q qw ws r t9 t' h' tk' a1 a2 a3 (len_in (by decide +kernel) a3) F' (news_of S N')
theorem pick_bar (hd : dp + 4 < recursionLimit)
    (hret : ∀ q qw ws r t9 t' h' tk', PT w.params V q #[.ref qw, .int r t9] → WT w.params V qw ws → (ws, r) ∈ barTable → ws.length ≤ 8 → Fr h₀ L h' m → LSt h₀ h' L sq cq vs is c nc V (at_ + 1) t' ps → Q (.ref q) { s with heap := h', toks := tk' }) :
    wpAny (model prog w) (ktrTop dp un gd cn cs L a ccd cl outer) (call (.ref 547) [.ref sq, .ref 610]) Q E s :=
  pick_LH B F X T hk S.H S.N S.hi S.h1 S.h2 S.ha hd (fun _ _ _ => bar_in) (by decide) (by decide) fun j x t' h' tk' hx F' N' => by
    obtain ⟨q, qw, ws, r, t9, rfl, a1, a2, a3⟩ := bar_items (P := w.params) (V := V) j x hx
    exact hret q qw ws r t9 t' h' tk' a1 a2 a3 (len_in (by decide +kernel) a3) F' (news_of S N')
theorem refs_LS (hd : dp + 4 < recursionLimit)
    (hret : ∀ D V' h' tk', (∀ at_ t o, ∀ p ∈ V at_ t o, p ∈ V' at_ t o) → RefsAre w.params V' D → Fr h₀ L h' m → LSt h₀ h' L sq cq vs is c nc V' at_ t ps → Q (.ref D) { s with heap := h', toks := tk' }) :
    wpAny (model prog w) (ktrTop dp un gd cn cs L a ccd cl outer) (call (.ref 533) []) Q E s := by
  refine refs_ok B F X T hk S.N hd fun D tl9 h' tk' F' N' l R => ?_
  exact hret D (fun at_ t o => tl9 ++ V at_ t o) h' tk' (fun _ _ _ _ hp => List.mem_append_right _ hp) (refs_are R) F' ⟨take_in S.H l, S.hi, S.h1, S.h2, S.ha, S.tb, N'⟩
theorem pick_refs {D : Addr} (hR : RefsAre w.params V D) (hd : dp + 4 < recursionLimit)
    (hret : ∀ q qw ws k t' h' tk', PT w.params V q #[.ref qw, .ref k] → WT w.params V qw ws → (ws, k) ∈ refTable → ws.length ≤ 8 → Fr h₀ L h' m → LSt h₀ h' L sq cq vs is c nc V (at_ + 1) t' ps → Q (.ref q) { s with heap := h', toks := tk' }) :
    wpAny (model prog w) (ktrTop dp un gd cn cs L a ccd cl outer) (call (.ref 547) [.ref sq, .ref D]) Q E s := by
  obtain ⟨its, i1, i2, i3⟩ := hR
  refine pick_LH B F X T hk S.H S.N S.hi S.h1 S.h2 S.ha hd i1 (by rw [i2]; decide) (by rw [i2]; decide) fun j x t' h' tk' hx F' N' => ?_
  obtain ⟨q, qw, k, ws, rfl, a1, a2, a3⟩ := i3 j x hx
  exact hret q qw ws k t' h' tk' a1 a2 a3 (len_in (by decide +kernel) a3) F' (news_of S N')
end
section
variable {prog : Program} {w : World} {p : Program} {loose : List Str} {mean : ExcName → Option Value} {mg mb : Str → Option Value}
  {dp un : Nat} {gd : Option (List Code)} {cn : Str} {cs : Scope} {a : Addr} {ccd : Value} {A₀ : Around} {base h₀ : Heap} {L : Addr} {m : Str → Option Value} {s : Shared} {Q E : Value → Shared → Prop} {ps : Array Value}
  {sq cq q : Addr} {vs : List Value} {is : List Int} {c nc : Nat} {V : Int → Tok → Obj → List (Addr × Obj)} {at_ : Int} {t : Tok} {ws : List Str}
theorem heard_fin {rel : Str} {kd : Dat} {ds : List Dat} (S : LSt h₀ s.heap L sq cq vs is c nc V at_ t ps) (B : Below A₀ base [] h₀) (F : Fr h₀ L s.heap m) (X : (Mine.kMake.heap_1 w.params).In h₀) (T : Top p loose mean mg mb h₀) (hk : cs.kind = .function) (XB : (Mine.kMake.heap_1 w.params).In base) (TB : Top p loose mean mg mb base)
    (C : CodeHd base 236 232) (hu : un + 130 < cLine) (hd : dp + 26 < recursionLimit)
    (hw : WT w.params V q ws) (O : FinOk ws (startD rel kd ds))
    (hret : ∀ (q2 : Addr) (V' : Obj → List (Addr × Obj)) h' tk' ps', TabOk ⟨174, 36, 174, 76⟩ ps' → (∀ o, ∀ p ∈ V at_ t o, p ∈ V' o) → (∀ o, DatIn (V' o) (.ref q2) (.tuple [startD rel kd ds, .bool true])) → Fr h₀ L h' m → News h₀ L h' (V' (tabObj ps')) → Q (.ref q2) { s with heap := h', toks := tk' }) :
    wpAny (model prog w) (ktrTop dp un gd cn cs L a ccd [] []) (call (.ref 568) [.ref q, .ref 617]) Q E s :=
  heard_LH B F X T hk XB TB S.H S.N C S.tb hu hd hw (okW_le O.ok) (okW_word O.ok) (okW_ok O.ok)
    (fun d n e q2 V' h' tk' ps' t1 s1 d1 F' N' => by
      rw [O.st] at e
      cases e
      rw [beq_self_eq_true] at d1
      exact hret q2 V' h' tk' ps' t1 s1 d1 F' N')
    fun n e => by
      rw [O.st] at e
      cases e
theorem heard_bad {n : Nat} (S : LSt h₀ s.heap L sq cq vs is c nc V at_ t ps) (B : Below A₀ base [] h₀) (F : Fr h₀ L s.heap m) (X : (Mine.kMake.heap_1 w.params).In h₀) (T : Top p loose mean mg mb h₀) (hk : cs.kind = .function) (XB : (Mine.kMake.heap_1 w.params).In base) (TB : Top p loose mean mg mb base)
    (C : CodeHd base 236 232) (hu : un + 130 < cLine) (hd : dp + 26 < recursionLimit)
    (hw : WT w.params V q ws) (O : okW ws = true ∧ startL (ws ++ [Str.ofString "."]) 0 = .bad (n : Int))
    (hret : ∀ t' h' tk' ps', Fr h₀ L h' m → LSt h₀ h' L sq cq vs is c nc V at_ t ps' → Q (.int (n : Int) t') { s with heap := h', toks := tk' }) :
    wpAny (model prog w) (ktrTop dp un gd cn cs L a ccd [] []) (call (.ref 568) [.ref q, .ref 617]) Q E s :=
  heard_LH B F X T hk XB TB S.H S.N C S.tb hu hd hw (okW_le O.1) (okW_word O.1) (okW_ok O.1)
    (fun d n' e => by
      rw [O.2] at e
      cases e)
    fun n' e t' h' tk' ps' t1 F' N' => by
      rw [O.2] at e
      cases e
      exact hret t' h' tk' ps' F' ⟨S.H, S.hi, S.h1, S.h2, S.ha, t1, N'⟩
end
section
variable {prog : Program} {w : World} {p : Program} {loose : List Str} {mean : ExcName → Option Value} {mg mb : Str → Option Value}
  {dp un : Nat} {gd : Option (List Code)} {cn : Str} {cs : Scope} {a : Addr} {ccd : Value} {A₀ : Around} {base h₀ : Heap} {L : Addr} {m : Str → Option Value} {s : Shared} {Q E : Value → Shared → Prop} {ps : Array Value}
  {sq cq q : Addr} {vs : List Value} {is : List Int} {c nc : Nat} {V : Int → Tok → Obj → List (Addr × Obj)} {at_ : Int} {t : Tok} {ws : List Str}
theorem heard_badI {n : Int} (S : LSt h₀ s.heap L sq cq vs is c nc V at_ t ps) (B : Below A₀ base [] h₀) (F : Fr h₀ L s.heap m) (X : (Mine.kMake.heap_1 w.params).In h₀) (T : Top p loose mean mg mb h₀) (hk : cs.kind = .function) (XB : (Mine.kMake.heap_1 w.params).In base) (TB : Top p loose mean mg mb base)
    (C : CodeHd base 236 232) (hu : un + 130 < cLine) (hd : dp + 26 < recursionLimit)
    (hw : WT w.params V q ws) (O : okW ws = true ∧ startL (ws ++ [Str.ofString "."]) 0 = .bad n) (hn : 0 ≤ n)
    (hret : ∀ t' h' tk' ps', Fr h₀ L h' m → LSt h₀ h' L sq cq vs is c nc V at_ t ps' → Q (.int n t') { s with heap := h', toks := tk' }) :
    wpAny (model prog w) (ktrTop dp un gd cn cs L a ccd [] []) (call (.ref 568) [.ref q, .ref 617]) Q E s := by
  refine heard_bad (n := n.toNat) S B F X T hk XB TB C hu hd hw ⟨O.1, by rw [O.2, Int.toNat_of_nonneg hn]⟩ fun t' h' tk' ps' F' S' => ?_
  rw [Int.toNat_of_nonneg hn]
  exact hret t' h' tk' ps' F' S'
end
-- C38
def barHead : List (List Str) := isL.map fun i => headKey ++ i
theorem plain1 : (headsL.all fun h => keyL.all fun k => badB ((((h.1 ++ []) ++ [Str.ofString "INVALID"]) ++ k) ++ [Str.ofString "END-START"]) ((((h.1 ++ []) ++ [Str.ofString "INVALID"]) ++ k).length : Int)) = true := by decide +kernel
theorem plain2 : (headsL.all fun h => t1L.all fun a => keyL.all fun k => badB (((((h.1 ++ a.1) ++ [Str.ofString "NOT"]) ++ [Str.ofString "INVALID"]) ++ k) ++ [Str.ofString "END-START"]) (((((h.1 ++ a.1) ++ [Str.ofString "NOT"]) ++ [Str.ofString "INVALID"]) ++ k).length : Int)) = true := by decide +kernel
theorem plain3 : (headsL.all fun h => t1L.all fun a => t2L.all fun b => endL.all fun e => finB (((h.1 ++ a.1) ++ b.1) ++ e) (startD h.2.1 h.2.2 (a.2 ++ b.2))) = true := by decide +kernel
theorem plain4 : (barHead.all fun h => barTable.all fun b => badB ((h ++ b.1) ++ [Str.ofString "A"]) ((h.length : Int) + b.2)) = true := by decide +kernel
theorem bad1 {h : HD} (hh : h ∈ headsL) {k : List Str} (hk : k ∈ keyL) : okW ((((h.1 ++ []) ++ [Str.ofString "INVALID"]) ++ k) ++ [Str.ofString "END-START"]) = true ∧ startL (((((h.1 ++ []) ++ [Str.ofString "INVALID"]) ++ k) ++ [Str.ofString "END-START"]) ++ [Str.ofString "."]) 0 = .bad (((((h.1 ++ []) ++ [Str.ofString "INVALID"]) ++ k).length : Nat) : Int) :=
  badB_ok (List.all_eq_true.mp (List.all_eq_true.mp plain1 h hh) k hk)
theorem bad2 {h : HD} (hh : h ∈ headsL) {a : List Str × List Dat} (ha : a ∈ t1L) {k : List Str} (hk : k ∈ keyL) : okW (((((h.1 ++ a.1) ++ [Str.ofString "NOT"]) ++ [Str.ofString "INVALID"]) ++ k) ++ [Str.ofString "END-START"]) = true ∧ startL ((((((h.1 ++ a.1) ++ [Str.ofString "NOT"]) ++ [Str.ofString "INVALID"]) ++ k) ++ [Str.ofString "END-START"]) ++ [Str.ofString "."]) 0 = .bad ((((((h.1 ++ a.1) ++ [Str.ofString "NOT"]) ++ [Str.ofString "INVALID"]) ++ k).length : Nat) : Int) :=
  badB_ok (List.all_eq_true.mp (List.all_eq_true.mp (List.all_eq_true.mp plain2 h hh) a ha) k hk)
theorem fin3 {h : HD} (hh : h ∈ headsL) {a b : List Str × List Dat} (ha : a ∈ t1L) (hb : b ∈ t2L) {e : List Str} (he : e ∈ endL) : FinOk (((h.1 ++ a.1) ++ b.1) ++ e) (startD h.2.1 h.2.2 (a.2 ++ b.2)) :=
  finB_ok (List.all_eq_true.mp (List.all_eq_true.mp (List.all_eq_true.mp (List.all_eq_true.mp plain3 h hh) a ha) b hb) e he)
theorem bad4 {h : List Str} (hh : h ∈ barHead) {b : List Str × Int} (hb : b ∈ barTable) : okW ((h ++ b.1) ++ [Str.ofString "A"]) = true ∧ startL (((h ++ b.1) ++ [Str.ofString "A"]) ++ [Str.ofString "."]) 0 = .bad ((h.length : Int) + b.2) :=
  badB_ok (List.all_eq_true.mp (List.all_eq_true.mp plain4 h hh) b hb)
theorem head_in {r : List Str × Str} {f : List Str × Addr} {i : List Str} (hr : r ∈ relTable) (hf : f ∈ refTable) (hi : i ∈ isL) : ((((headKey ++ i) ++ r.1) ++ f.1, r.2, kDat f.2) : HD) ∈ headsL :=
  List.mem_cons_of_mem _ (List.mem_flatMap.mpr ⟨r, hr, List.mem_flatMap.mpr ⟨f, hf, List.mem_map.mpr ⟨i, hi, rfl⟩⟩⟩)
theorem heads_len {hd : HD} (h : hd ∈ headsL) : hd.1.length ≤ 20 := of_decide_eq_true (List.all_eq_true.mp (by decide +kernel : (headsL.all fun x => decide (x.1.length ≤ 20)) = true) _ h)
theorem t1_len {a : List Str × List Dat} (h : a ∈ t1L) : a.1.length ≤ 4 ∧ a.2.length ≤ 1 := by
  have z := List.all_eq_true.mp (by decide +kernel : (t1L.all fun x => decide (x.1.length ≤ 4) && decide (x.2.length ≤ 1)) = true) _ h
  simp only [Bool.and_eq_true, decide_eq_true_eq] at z
  exact z
theorem t2_len {a : List Str × List Dat} (h : a ∈ t2L) : a.1.length ≤ 4 ∧ a.2.length ≤ 1 := by
  have z := List.all_eq_true.mp (by decide +kernel : (t2L.all fun x => decide (x.1.length ≤ 4) && decide (x.2.length ≤ 1)) = true) _ h
  simp only [Bool.and_eq_true, decide_eq_true_eq] at z
  exact z
-- C39
/-- what lies in every ledger -/
def MT (V : Int → Tok → Obj → List (Addr × Obj)) (x : Addr × Obj) : Prop := ∀ at_ t o, x ∈ V at_ t o
theorem MT.mono {V V' : Int → Tok → Obj → List (Addr × Obj)} {x : Addr × Obj} (h : MT V x) (hs : ∀ at_ t o, ∀ p ∈ V at_ t o, p ∈ V' at_ t o) : MT V' x := fun at_ t o => hs at_ t o _ (h at_ t o)
theorem items_cut2 {prog : Program} {w : World} {A : Around} {E : Value → Shared → Prop} {h₀ : Heap} {env : Env} {target : PySem.Expr} {body : List Stmt} {Q : Flow → Shared → Prop} {s : Shared} {ws : List (Addr × String)} {keep : List (Addr × Obj)} {v1 v2 : Itm} {m : Str → Option Value} {news : List (Addr × Obj)}
    (C : (Str → Option Value) → List (Addr × Obj) → Prop) (h2 : ∀ m' news', C m' news' → ItemsRest prog w A E h₀ env target body Q s ws keep [v2] m' news')
    (h1 : (∀ m' news', C m' news' → ItemsRest prog w A E h₀ env target body Q s ws keep [v2] m' news') → ItemsRest prog w A E h₀ env target body Q s ws keep [v1, v2] m news) : ItemsRest prog w A E h₀ env target body Q s ws keep [v1, v2] m news := h1 h2
/-- the iterator of the loop is let go -/
def keepP (p : Addr × Obj) : Bool := p.1 == 232 || !(p.2.cls == .type "tuple_iterator")
theorem upd_filter {d : Addr} {o o' : Obj} {f : Addr × Obj → Bool} (h : f (d, o) = true) (h' : f (d, o') = true) : ∀ {l l' : List (Addr × Obj)}, Upd d o o' l l' → Upd d o o' (l.filter f) (l'.filter f)
  | _, _, .head hr => by
    rw [List.filter_cons_of_pos h, List.filter_cons_of_pos h']
    exact .head fun p hp => hr p (List.mem_filter.mp hp).1
  | _, _, .tail (p := p) hp r => by
    cases e : f p with
    | true => rw [List.filter_cons_of_pos e, List.filter_cons_of_pos e]; exact .tail hp (upd_filter h h' r)
    | false => rw [List.filter_cons_of_neg (by rw [e]; decide), List.filter_cons_of_neg (by rw [e]; decide)]; exact upd_filter h h' r
theorem updF_filter {d : Addr} {o : Obj} {f : Addr × Obj → Bool} (h : ∀ o, f (d, o) = true) : ∀ {l : List (Addr × Obj)} {g : Obj → List (Addr × Obj)}, UpdF d o l g → UpdF d o (l.filter f) (fun o => (g o).filter f)
  | _, _, .head (r := r) hr => by
    have z : (fun o' => List.filter f ((d, o') :: r)) = fun o' => (d, o') :: r.filter f := funext fun o' => List.filter_cons_of_pos (h o')
    rw [z, List.filter_cons_of_pos (h o)]
    exact .head fun p hp => hr p (List.mem_filter.mp hp).1
  | _, _, .tail (p := p) (g := g) hp r => by
    cases e : f p with
    | true =>
      have z : (fun o' => List.filter f (p :: g o')) = fun o' => p :: (g o').filter f := funext fun o' => List.filter_cons_of_pos e
      rw [z, List.filter_cons_of_pos e]
      exact .tail hp (updF_filter h r)
    | false =>
      have z : (fun o' => List.filter f (p :: g o')) = fun o' => (g o').filter f := funext fun o' => List.filter_cons_of_neg (by rw [e]; decide)
      rw [z, List.filter_cons_of_neg (by rw [e]; decide)]
      exact updF_filter h r
abbrev noIt (V : Int → Tok → Obj → List (Addr × Obj)) : Int → Tok → Obj → List (Addr × Obj) := fun at_ t o => (V at_ t o).filter keepP
theorem keep_cls {q : Addr} {o : Obj} (h : o.cls = .type "tuple" ∨ o.cls = .type "list") : keepP (q, o) = true := by
  unfold keepP
  rcases h with h | h
  · show (q == 232 || !(o.cls == _)) = true
    rw [h, show (Value.type "tuple" == Value.type "tuple_iterator") = false from by decide +kernel]; simp
  · show (q == 232 || !(o.cls == _)) = true
    rw [h, show (Value.type "list" == Value.type "tuple_iterator") = false from by decide +kernel]; simp
theorem keep_tup {q : Addr} {its : Array Value} : keepP (q, tup its) = true := keep_cls (.inl rfl)
theorem keep_list {q : Addr} {its : Array Value} {n : Nat} : keepP (q, PySem.W.listOf its n) = true := keep_cls (.inr rfl)
theorem keep_232 {o : Obj} : keepP (232, o) = true := by
  unfold keepP
  show (((232 : Addr) == 232) || _) = true
  rw [beq_self_eq_true]; rfl
theorem LH.noIt {sq cq : Addr} {vs : List Value} {c nc : Nat} {V : Int → Tok → Obj → List (Addr × Obj)} (H : LH sq cq vs c nc V) : LH sq cq vs c nc (noIt V) :=
  ⟨fun at_ t o at' t' => upd_filter keep_list keep_list (H.upd at_ t o at' t'), fun at_ t o => updF_filter (fun _ => keep_232) (H.tab at_ t o), fun at_ t o => List.mem_filter.mpr ⟨H.cells at_ t o, keep_list⟩⟩
theorem WT.noIt {P : Params} {V : Int → Tok → Obj → List (Addr × Obj)} {q : Addr} {ws : List Str} (h : WT P V q ws) : WT P (noIt V) q ws := by
  obtain ⟨us, a, b⟩ := h
  exact ⟨us, fun at_ t o => (a at_ t o).imp (fun h => List.mem_filter.mpr ⟨h, keep_tup⟩) (fun h => h), b⟩
theorem PT.noIt {P : Params} {V : Int → Tok → Obj → List (Addr × Obj)} {q : Addr} {its : Array Value} (h : PT P V q its) : PT P (noIt V) q its := fun at_ t o => (h at_ t o).imp (fun h => List.mem_filter.mpr ⟨h, keep_tup⟩) (fun h => h)
theorem MT.noIt {V : Int → Tok → Obj → List (Addr × Obj)} {q : Addr} {its : Array Value} (h : MT V (q, tup its)) : MT (noIt V) (q, tup its) := fun at_ t o => List.mem_filter.mpr ⟨h at_ t o, keep_tup⟩
mutual
theorem datIn_keep {news : List (Addr × Obj)} : ∀ {v : Value} {d : Dat}, DatIn news v d → DatIn (news.filter keepP) v d
  | _, _, .none => .none
  | _, _, .bool b => .bool b
  | _, _, .int i t => .int i t
  | _, _, .str x t => .str x t
  | _, _, .bytes b t => .bytes b t
  | _, _, .tuple h r => .tuple (List.mem_filter.mpr ⟨h, keep_cls (.inl rfl)⟩) (datAll_keep r)
  | _, _, .list h r => .list (List.mem_filter.mpr ⟨h, keep_cls (.inr rfl)⟩) (datAll_keep r)
theorem datAll_keep {news : List (Addr × Obj)} : ∀ {vs : List Value} {ds : List Dat}, DatAll news vs ds → DatAll (news.filter keepP) vs ds
  | _, _, .nil => .nil
  | _, _, .cons h r => .cons (datIn_keep h) (datAll_keep r)
end
theorem BD.noIt {V : Int → Tok → Obj → List (Addr × Obj)} {v : Value} {ds : List Dat} (h : BD V v ds) : BD (noIt V) v ds := by
  obtain ⟨q, us, e, a, b⟩ := h
  exact ⟨q, us, e, fun at_ t o => List.mem_filter.mpr ⟨a at_ t o, keep_tup⟩, fun at_ t o => datAll_keep (b at_ t o)⟩
theorem turn_end {h₀ h' : Heap} {L sq cq I : Addr} {it : Obj} {vs : List Value} {is : List Int} {c nc : Nat} {V : Int → Tok → Obj → List (Addr × Obj)} {at_ : Int} {t : Tok} {ps : Array Value} {m' : Str → Option Value} {s₁ : Shared} {tk : Nat} {rest : (Str → Option Value) → List (Addr × Obj) → Prop}
    (S : LSt h₀ h' L sq cq vs is c nc V at_ t ps) (F : Fr h₀ L h' m') (M : MT V (I, it)) (hc : it.cls = .type "tuple_iterator") (hI : I ≠ 232) (r : rest m' (noIt V at_ t (tabObj ps))) : UnrEndW h₀ L s₁ [(I, it)] rest { s₁ with heap := h', toks := tk } := by
  refine unrEndX F S.N _ (M _ _ _) (fun p hp => ?_) r
  have hp' := List.mem_filter.mp hp
  refine ⟨hp'.1, fun e => ?_⟩
  have e1 := (S.N _ hp'.1).1
  rw [e, (S.N _ (M at_ t (tabObj ps))).1] at e1
  have e2 := Option.some.inj e1
  have k := hp'.2
  unfold keepP at k
  rw [← e2] at k
  rw [show (it.cls == Value.type "tuple_iterator") = true from by rw [hc]; decide +kernel, e] at k
  rw [show (I == 232) = false from beq_eq_false_iff_ne.mpr hI] at k
  exact absurd k (by decide)
theorem absorbI {I : Addr} {it : Obj} {h₀ h h' : Heap} {L sq cq : Addr} {vs : List Value} {is : List Int} {c nc : Nat} {V : Int → Tok → Obj → List (Addr × Obj)} {at_ : Int} {t : Tok} {ps : Array Value} (S : LSt h₀ h L sq cq vs is c nc V at_ t ps) (N : News h₀ L h' ((I, it) :: V at_ t (tabObj ps))) (h1 : I ≠ sq) (h2 : I ≠ 232) :
    LSt h₀ h' L sq cq vs is c nc (fun at_ t o => [(I, it)] ++ V at_ t o) at_ t ps ∧ (∀ at_ t o, ∀ p ∈ V at_ t o, p ∈ [(I, it)] ++ V at_ t o) ∧ MT (fun at_ t o => [(I, it)] ++ V at_ t o) (I, it) :=
  ⟨⟨S.H.cons h1 h2, S.hi, S.h1, S.h2, S.ha, S.tb, N⟩, fun _ _ _ _ hp => .tail _ hp, fun _ _ _ => .head _⟩
theorem bd_at1 {h₀ h : Heap} {L sq cq q : Addr} {vs : List Value} {is : List Int} {c nc : Nat} {V : Int → Tok → Obj → List (Addr × Obj)} {at_ : Int} {t : Tok} {ps : Array Value} (_ : LSt h₀ h L sq cq vs is c nc (fun at_ t o => [(q, tup #[])] ++ V at_ t o) at_ t ps) : BD (fun at_ t o => [(q, tup #[])] ++ V at_ t o) (.ref q) [] := bdMem (us := []) (fun _ _ _ => .head _) (fun _ _ _ => .nil)
theorem wtCast {P : Params} {V : Int → Tok → Obj → List (Addr × Obj)} {q : Addr} {ws ws' : List Str} (h : WT P V q ws) (e : ws = ws') : WT P V q ws' := e ▸ h
/-- the loop's own tuples -/
theorem loop_made {P : Params} {h₀ h : Heap} {L sq cq q0 q1 q2 q3 q4 : Addr} {t1 t2 t3 : Tok} {vs : List Value} {is : List Int} {c nc : Nat} {V : Int → Tok → Obj → List (Addr × Obj)} {at_ : Int} {t : Tok} {ps : Array Value} (_ : LSt h₀ h L sq cq vs is c nc (fun at_ t o => [(q4, tup #[.ref q1, .ref q3]), (q3, tup #[.ref q2, .str "not invalid" t3]), (q2, tup #[.str "NOT" t2]), (q1, tup #[.ref q0, .str "invalid" t1]), (q0, tup #[])] ++ V at_ t o) at_ t ps) :
    ∃ W, W = (fun at_ t o => [(q4, tup #[.ref q1, .ref q3]), (q3, tup #[.ref q2, .str "not invalid" t3]), (q2, tup #[.str "NOT" t2]), (q1, tup #[.ref q0, .str "invalid" t1]), (q0, tup #[])] ++ V at_ t o) ∧ MT W (q4, tup #[.ref q1, .ref q3]) ∧ PT P W q3 #[.ref q2, .str "not invalid" t3] ∧ WT P W q2 [Str.ofString "NOT"] ∧ PT P W q1 #[.ref q0, .str "invalid" t1] ∧ WT P W q0 [] :=
  ⟨_, rfl, fun _ _ _ => .head _, fun _ _ _ => .inl (.tail _ (.head _)), wtMem (us := [_]) (fun _ _ _ => .tail _ (.tail _ (.head _))) (.cons _ _ .nil), fun _ _ _ => .inl (.tail _ (.tail _ (.tail _ (.head _)))), wtMem (us := []) (fun _ _ _ => .tail _ (.tail _ (.tail _ (.tail _ (.head _))))) .nil⟩
theorem pinEq {m : Str → Option Value} {x : Str} {v : Value} (e : m x = some v) : m = fun y => if y = x then some v else m y := by
  funext y
  by_cases hy : y = x
  · rw [if_pos hy, hy, e]
  · rw [if_neg hy]
theorem pin5 {m : Str → Option Value} {a b c d e : Value} (e1 : m (Str.ofString "words") = some a) (e2 : m (Str.ofString "relation") = some b) (e3 : m (Str.ofString "key") = some c) (e4 : m (Str.ofString "branches") = some d) (e5 : m (Str.ofString "source") = some e) :
    m = fun y => if y = Str.ofString "words" then some a else if y = Str.ofString "relation" then some b else if y = Str.ofString "key" then some c else if y = Str.ofString "branches" then some d else if y = Str.ofString "source" then some e else m y := by
  funext y
  by_cases h1 : y = Str.ofString "words"
  · rw [if_pos h1, h1, e1]
  · rw [if_neg h1]
    by_cases h2 : y = Str.ofString "relation"
    · rw [if_pos h2, h2, e2]
    · rw [if_neg h2]
      by_cases h3 : y = Str.ofString "key"
      · rw [if_pos h3, h3, e3]
      · rw [if_neg h3]
        by_cases h4 : y = Str.ofString "branches"
        · rw [if_pos h4, h4, e4]
        · rw [if_neg h4]
          by_cases h5 : y = Str.ofString "source"
          · rw [if_pos h5, h5, e5]
          · rw [if_neg h5]
structure LC0 (s₁ : Shared) (h₀ : Heap) (L : Addr) (s' : Shared) : Prop where
  is : ∃ (sq cq : Addr) (vs : List Value) (is : List Int) (c nc : Nat) (V : Int → Tok → Obj → List (Addr × Obj)) (at_ : Int) (t : Tok) (ps : Array Value) (m0 : Str → Option Value) (h : Heap) (tk : Nat), s' = { s₁ with heap := h, toks := tk } ∧ LSt h₀ h L sq cq vs is c nc V at_ t ps ∧ Fr h₀ L h (fun y => if y = Str.ofString "source" then some (.ref sq) else m0 y)
structure LC1 (P : Params) (s₁ : Shared) (h₀ : Heap) (L : Addr) (s' : Shared) : Prop where
  is : ∃ (sq cq : Addr) (vs : List Value) (is : List Int) (c nc : Nat) (V : Int → Tok → Obj → List (Addr × Obj)) (at_ : Int) (t : Tok) (ps : Array Value) (m0 : Str → Option Value) (h : Heap) (tk : Nat) (qw : Addr) (tr : Tok) (kv : Value) (hd : HD), s' = { s₁ with heap := h, toks := tk } ∧ LSt h₀ h L sq cq vs is c nc V at_ t ps ∧ WT P V qw hd.1 ∧ KV h₀ kv hd.2.2 ∧ hd ∈ headsL ∧ Fr h₀ L h (fun y => if y = Str.ofString "words" then some (.ref qw) else if y = Str.ofString "relation" then some (.str hd.2.1 tr) else if y = Str.ofString "key" then some kv else if y = Str.ofString "source" then some (.ref sq) else m0 y)
structure LC3 (P : Params) (s₁ : Shared) (h₀ : Heap) (L : Addr) (s' : Shared) : Prop where
  is : ∃ (sq cq : Addr) (vs : List Value) (is : List Int) (c nc : Nat) (V : Int → Tok → Obj → List (Addr × Obj)) (at_ : Int) (t : Tok) (ps : Array Value) (m0 : Str → Option Value) (h : Heap) (tk : Nat) (qw : Addr) (tr : Tok) (kv bv : Value) (hd : HD) (a b : List Str × List Dat), s' = { s₁ with heap := h, toks := tk } ∧ LSt h₀ h L sq cq vs is c nc V at_ t ps ∧ WT P V qw ((hd.1 ++ a.1) ++ b.1) ∧ KV h₀ kv hd.2.2 ∧ BD V bv (a.2 ++ b.2) ∧ hd ∈ headsL ∧ a ∈ t1L ∧ b ∈ t2L ∧ Fr h₀ L h (fun y => if y = Str.ofString "words" then some (.ref qw) else if y = Str.ofString "relation" then some (.str hd.2.1 tr) else if y = Str.ofString "key" then some kv else if y = Str.ofString "branches" then some bv else if y = Str.ofString "source" then some (.ref sq) else m0 y)
structure LCm (P : Params) (h₀ : Heap) (L I D d2 a2 : Addr) (oD : Obj) (m' : Str → Option Value) (news' : List (Addr × Obj)) : Prop where
  is : ∃ (sq cq : Addr) (vs : List Value) (is : List Int) (c nc : Nat) (V : Int → Tok → Obj → List (Addr × Obj)) (at_ : Int) (t tt : Tok) (ps : Array Value) (m0 : Str → Option Value) (qw : Addr) (tr : Tok) (kv bv : Value) (hd : HD) (a : List Str × List Dat), news' = V at_ t (tabObj ps) ∧ (∀ h, News h₀ L h (V at_ t (tabObj ps)) → LSt h₀ h L sq cq vs is c nc V at_ t ps) ∧ I ≠ sq ∧ I ≠ 232 ∧ MT V (D, oD) ∧ PT P V d2 #[.ref a2, .str "not invalid" tt] ∧ WT P V a2 [Str.ofString "NOT"] ∧ WT P V qw (hd.1 ++ a.1) ∧ KV h₀ kv hd.2.2 ∧ BD V bv a.2 ∧ hd ∈ headsL ∧ a ∈ t1L ∧ m' = fun y => if y = Str.ofString "words" then some (.ref qw) else if y = Str.ofString "relation" then some (.str hd.2.1 tr) else if y = Str.ofString "key" then some kv else if y = Str.ofString "branches" then some bv else if y = Str.ofString "source" then some (.ref sq) else m0 y
theorem tabOk0 : TabOk ⟨174, 36, 174, 76⟩ #[] := ⟨by first | trivial | exact .nil | simp [TriplesOk], .inl (by rfl)⟩
theorem lc0_1 {s₁ : Shared} {h₀ h : Heap} {L l D D2 : Addr} {t : Tok} {ys : List Value} {zs : List Int} {o2 : Obj} {m : Str → Option Value} {tk : Nat} (N : News h₀ L h [(l, PySem.W.listOf #[.ref D, .int 0 t] 0), (D, LCg.lst ys), (D2, o2), (232, tabObj #[])]) (hI : IntsAre ys zs) (h0 : 0 < zs.length) (hz : zs.length ≤ 64)
    (hl : D < l ∧ D2 < l ∧ 232 < l) (hd : D2 ≠ D ∧ 232 ≠ D) (h2 : 232 < D2) (F : Fr h₀ L h m) (e : m (Str.ofString "source") = some (.ref l)) : LC0 s₁ h₀ L { heap := h, gens := s₁.gens, drawn := s₁.drawn, toks := tk, os := s₁.os } :=
  ⟨l, D, ys, zs, 0, ys.length, _, 0, t, #[], m, h, tk, rfl, ⟨lh_src (tl := [(D, LCg.lst ys), (D2, o2)]) (.head _) hl.2.2 (fun p hp => by
    rcases List.mem_cons.mp hp with rfl | hp
    · exact hl.1
    · rw [List.mem_singleton.mp hp]; exact hl.2.1) (fun p hp => by
    rcases List.mem_cons.mp hp with rfl | hp
    · exact hd.2.symm
    · rw [List.mem_singleton.mp hp]; exact Nat.ne_of_gt h2), hI, h0, hz, Int.le_refl 0, tabOk0, N⟩, frPin F e⟩
theorem lc0_2 {s₁ : Shared} {h₀ h : Heap} {L l D D2 D3 : Addr} {t t2 : Tok} {o1 o2 : Obj} {m : Str → Option Value} {tk : Nat} (N : News h₀ L h [(l, PySem.W.listOf #[.ref D, .int 0 t] 0), (D, PySem.W.listOf #[.int 0 t2] 0), (D2, o1), (D3, o2), (232, tabObj #[])])
    (hl : D < l ∧ D2 < l ∧ D3 < l ∧ 232 < l) (hd : D2 < D ∧ D3 < D ∧ 232 < D) (h2 : 232 ≠ D2) (h3 : 232 < D3) (F : Fr h₀ L h m) (e : m (Str.ofString "source") = some (.ref l)) : LC0 s₁ h₀ L { heap := h, gens := s₁.gens, drawn := s₁.drawn, toks := tk, os := s₁.os } :=
  ⟨l, D, [.int 0 t2], [0], 0, 0, _, 0, t, #[], m, h, tk, rfl, ⟨lh_src (tl := [(D, PySem.W.listOf #[.int 0 t2] 0), (D2, o1), (D3, o2)]) (.head _) hl.2.2.2 (fun p hp => by
    rcases List.mem_cons.mp hp with rfl | hp
    · exact hl.1
    · rcases List.mem_cons.mp hp with rfl | hp
      · exact hl.2.1
      · rw [List.mem_singleton.mp hp]; exact hl.2.2.1) (fun p hp => by
    rcases List.mem_cons.mp hp with rfl | hp
    · exact Nat.ne_of_gt hd.2.2
    · rcases List.mem_cons.mp hp with rfl | hp
      · exact h2.symm
      · rw [List.mem_singleton.mp hp]; exact Nat.ne_of_gt h3), .cons _ _ .nil, by decide, by decide, Int.le_refl 0, tabOk0, N⟩, frPin F e⟩
theorem take_le {w : List Int} : (List.map (fun k' => k') (List.take 60 w)).length ≤ 64 := by
  rw [List.length_map, List.length_take]; omega
theorem lc1_mk {P : Params} {s₁ : Shared} {h₀ h : Heap} {L sq cq : Addr} {vs : List Value} {is : List Int} {c nc : Nat} {V : Int → Tok → Obj → List (Addr × Obj)} {at_ : Int} {t tr : Tok} {ps : Array Value} {m : Str → Option Value} {tk : Nat} {qw : Addr} {ws : List Str} {rel : Str} {kv : Value} {kd : Dat}
    (S : LSt h₀ h L sq cq vs is c nc V at_ t ps) (F : Fr h₀ L h m) (e1 : m (Str.ofString "words") = some (.ref qw)) (e2 : m (Str.ofString "relation") = some (.str rel tr)) (e3 : m (Str.ofString "key") = some kv) (e4 : m (Str.ofString "source") = some (.ref sq)) (hw : WT P V qw ws) (hk : KV h₀ kv kd) (hh : (ws, rel, kd) ∈ headsL) :
    LC1 P s₁ h₀ L { heap := h, gens := s₁.gens, drawn := s₁.drawn, toks := tk, os := s₁.os } :=
  ⟨sq, cq, vs, is, c, nc, V, at_, t, ps, m, h, tk, qw, tr, kv, (ws, rel, kd), rfl, S, hw, hk, hh, frPin (frPin (frPin (frPin F e4) (by rw [if_neg (by decide)]; exact e3)) (by rw [if_neg (by decide), if_neg (by decide)]; exact e2)) (by rw [if_neg (by decide), if_neg (by decide), if_neg (by decide)]; exact e1)⟩
theorem wt_at2 {P : Params} {h₀ h : Heap} {L sq cq q : Addr} {vs : List Value} {is : List Int} {c nc : Nat} {V : Int → Tok → Obj → List (Addr × Obj)} {at_ : Int} {t : Tok} {ps : Array Value} {x : Addr × Obj} {us : List Value} {ws : List Str} (_ : LSt h₀ h L sq cq vs is c nc (fun at_ t o => [x, (q, tup us.toArray)] ++ V at_ t o) at_ t ps) (hs : StrsAre us ws) : WT P (fun at_ t o => [x, (q, tup us.toArray)] ++ V at_ t o) q ws := wtMem (fun _ _ _ => .tail _ (.head _)) hs
theorem wt_at1 {P : Params} {h₀ h : Heap} {L sq cq q : Addr} {vs : List Value} {is : List Int} {c nc : Nat} {V : Int → Tok → Obj → List (Addr × Obj)} {at_ : Int} {t : Tok} {ps : Array Value} {us : List Value} {ws : List Str} (_ : LSt h₀ h L sq cq vs is c nc (fun at_ t o => [(q, tup us.toArray)] ++ V at_ t o) at_ t ps) (hs : StrsAre us ws) : WT P (fun at_ t o => [(q, tup us.toArray)] ++ V at_ t o) q ws := wtMem (fun _ _ _ => .head _) hs
theorem head_in' {wr wf i : List Str} {rel : Str} {k : Addr} (hr : (wr, rel) ∈ relTable) (hf : (wf, k) ∈ refTable) (hi : i ∈ isL) : ((((([Str.ofString "START", Str.ofString "F-A"] ++ [Str.ofString "KEY"]) ++ i) ++ wr) ++ wf, rel, kDat k) : HD) ∈ headsL := head_in hr hf hi
theorem itNe {h₀ h : Heap} {L sq cq I : Addr} {vs : List Value} {is : List Int} {c nc : Nat} {V : Int → Tok → Obj → List (Addr × Obj)} {at_ : Int} {t : Tok} {ps : Array Value} (S : LSt h₀ h L sq cq vs is c nc V at_ t ps) (hl : ∀ p ∈ V at_ t (tabObj ps), p.1 < I) : I ≠ sq ∧ I ≠ 232 := ⟨S.H.ne hl, S.H.neT hl⟩
theorem items_cut3 {P : Params} {prog : Program} {w : World} {A : Around} {E : Value → Shared → Prop} {h₀ h : Heap} {env : Env} {target : PySem.Expr} {body : List Stmt} {Q : Flow → Shared → Prop} {s : Shared} {I : Addr} {nm : String} {keep : List (Addr × Obj)} {v1 v2 : Itm} {m : Str → Option Value} {news : List (Addr × Obj)}
    {L sq cq q0 q1 q2 q3 q4 : Addr} {t1 t2 t3 : Tok} {vs : List Value} {is : List Int} {c nc : Nat} {V : Int → Tok → Obj → List (Addr × Obj)} {at_ : Int} {t : Tok} {ps : Array Value}
    (S : LSt h₀ h L sq cq vs is c nc (fun at_ t o => [(q4, tup #[.ref q1, .ref q3]), (q3, tup #[.ref q2, .str "not invalid" t3]), (q2, tup #[.str "NOT" t2]), (q1, tup #[.ref q0, .str "invalid" t1]), (q0, tup #[])] ++ V at_ t o) at_ t ps)
    (h2 : ∀ m' news', LCm P h₀ L I q4 q3 q2 (tup #[.ref q1, .ref q3]) m' news' → ItemsRest prog w A E h₀ env target body Q s [(I, nm)] keep [v2] m' news')
    (h1 : ∀ W, (W = fun at_ t o => [(q4, tup #[.ref q1, .ref q3]), (q3, tup #[.ref q2, .str "not invalid" t3]), (q2, tup #[.str "NOT" t2]), (q1, tup #[.ref q0, .str "invalid" t1]), (q0, tup #[])] ++ V at_ t o) → MT W (q4, tup #[.ref q1, .ref q3]) → PT P W q3 #[.ref q2, .str "not invalid" t3] → WT P W q2 [Str.ofString "NOT"] → PT P W q1 #[.ref q0, .str "invalid" t1] → WT P W q0 [] → (∀ m' news', LCm P h₀ L I q4 q3 q2 (tup #[.ref q1, .ref q3]) m' news' → ItemsRest prog w A E h₀ env target body Q s [(I, nm)] keep [v2] m' news') → ItemsRest prog w A E h₀ env target body Q s [(I, nm)] keep [v1, v2] m news) : ItemsRest prog w A E h₀ env target body Q s [(I, nm)] keep [v1, v2] m news := by
  obtain ⟨W, e, a1, a2, a3, a4, a5⟩ := loop_made (P := P) S
  exact h1 W e a1 a2 a3 a4 a5 h2
theorem lcm_mk {P : Params} {h₀ h : Heap} {L I D d2 a2 sq cq : Addr} {its : Array Value} {vs : List Value} {is : List Int} {c nc : Nat} {V : Int → Tok → Obj → List (Addr × Obj)} {at_ : Int} {t tt tr : Tok} {ps : Array Value} {m : Str → Option Value} {qw : Addr} {ws : List Str} {kv bv : Value} {ds : List Dat} {hd : HD} (a : List Str × List Dat)
    (S : LSt h₀ h L sq cq vs is c nc V at_ t ps) (hI : I ≠ sq ∧ I ≠ 232) (e1 : m (Str.ofString "words") = some (.ref qw)) (e2 : m (Str.ofString "relation") = some (.str hd.2.1 tr)) (e3 : m (Str.ofString "key") = some kv) (e4 : m (Str.ofString "branches") = some bv) (e5 : m (Str.ofString "source") = some (.ref sq))
    (M1 : MT V (D, tup its)) (P3 : PT P V d2 #[.ref a2, .str "not invalid" tt]) (WN : WT P V a2 [Str.ofString "NOT"]) (hk : KV h₀ kv hd.2.2) (hh : hd ∈ headsL) (hw : WT P V qw ws) (hws : ws = hd.1 ++ a.1) (hb : BD V bv ds) (hds : ds = a.2) (ha : a ∈ t1L) : LCm P h₀ L I D d2 a2 (tup its) m (noIt V at_ t (tabObj ps)) :=
  ⟨sq, cq, vs, is, c, nc, noIt V, at_, t, tt, ps, m, qw, tr, kv, bv, hd, a, rfl, fun _ N => ⟨S.H.noIt, S.hi, S.h1, S.h2, S.ha, S.tb, N⟩, hI.1, hI.2, M1.noIt, P3.noIt, WN.noIt, wtCast hw.noIt hws, hk, hds ▸ hb.noIt, hh, ha, pin5 e1 e2 e3 e4 e5⟩
theorem lc3_mk {P : Params} {s₁ : Shared} {h₀ h : Heap} {L sq cq : Addr} {vs : List Value} {is : List Int} {c nc : Nat} {V : Int → Tok → Obj → List (Addr × Obj)} {at_ : Int} {t tr : Tok} {ps : Array Value} {m : Str → Option Value} {tk : Nat} {qw : Addr} {ws : List Str} {kv bv : Value} {ds : List Dat} {hd : HD} {a : List Str × List Dat} (b : List Str × List Dat)
    (S : LSt h₀ h L sq cq vs is c nc V at_ t ps) (F : Fr h₀ L h m) (e1 : m (Str.ofString "words") = some (.ref qw)) (e2 : m (Str.ofString "relation") = some (.str hd.2.1 tr)) (e3 : m (Str.ofString "key") = some kv) (e4 : m (Str.ofString "branches") = some bv) (e5 : m (Str.ofString "source") = some (.ref sq))
    (hk : KV h₀ kv hd.2.2) (hh : hd ∈ headsL) (ha : a ∈ t1L) (hw : WT P V qw ws) (hws : ws = (hd.1 ++ a.1) ++ b.1) (hb : BD V bv ds) (hds : ds = a.2 ++ b.2) (hb2 : b ∈ t2L) : LC3 P s₁ h₀ L { heap := h, gens := s₁.gens, drawn := s₁.drawn, toks := tk, os := s₁.os } :=
  ⟨sq, cq, vs, is, c, nc, V, at_, t, ps, m, h, tk, qw, tr, kv, bv, hd, a, b, rfl, S, wtCast hw hws, hk, hds ▸ hb, hh, ha, hb2, by
    have z := pin5 e1 e2 e3 e4 e5
    rw [← z]; exact F⟩
section
variable {h₀ h h' : Heap} {L sq cq : Addr} {vs : List Value} {is : List Int} {c nc : Nat} {V : Int → Tok → Obj → List (Addr × Obj)} {at_ : Int} {t : Tok} {ps : Array Value} (S : LSt h₀ h L sq cq vs is c nc V at_ t ps)
include S
theorem absorbX (tl : List (Addr × Obj)) (N : News h₀ L h' (tl ++ V at_ t (tabObj ps))) (ht : ∀ q ∈ tl, ∀ p ∈ V at_ t (tabObj ps), p.1 < q.1) : ∃ V', LSt h₀ h' L sq cq vs is c nc V' at_ t ps ∧ (∀ at_ t o, ∀ p ∈ V at_ t o, p ∈ V' at_ t o) :=
  ⟨_, (absorb tl S N ht).1, fun _ _ _ _ hp => List.mem_append_right _ hp⟩
theorem absorbW {P : Params} {q : Addr} {us : List Value} {ws : List Str} (N : News h₀ L h' ((q, tup us.toArray) :: V at_ t (tabObj ps))) (ht : ∀ p ∈ V at_ t (tabObj ps), p.1 < q) (hs : StrsAre us ws) : ∃ V', LSt h₀ h' L sq cq vs is c nc V' at_ t ps ∧ (∀ at_ t o, ∀ p ∈ V at_ t o, p ∈ V' at_ t o) ∧ WT P V' q ws :=
  ⟨_, (absorb [(q, tup us.toArray)] S N fun x hx => by rw [List.mem_singleton.mp hx]; exact ht).1, fun _ _ _ _ hp => List.mem_append_right _ hp, wtMem (fun _ _ _ => .head _) hs⟩
theorem absorb2W {P : Params} {x : Addr × Obj} {q : Addr} {us : List Value} {ws : List Str} (N : News h₀ L h' (x :: (q, tup us.toArray) :: V at_ t (tabObj ps))) (hx : ∀ p ∈ V at_ t (tabObj ps), p.1 < x.1) (ht : ∀ p ∈ V at_ t (tabObj ps), p.1 < q) (hs : StrsAre us ws) : ∃ V', LSt h₀ h' L sq cq vs is c nc V' at_ t ps ∧ (∀ at_ t o, ∀ p ∈ V at_ t o, p ∈ V' at_ t o) ∧ WT P V' q ws :=
  ⟨_, (absorb [x, (q, tup us.toArray)] S N fun y hy => by
    rcases List.mem_cons.mp hy with rfl | hy
    · exact hx
    · rw [List.mem_singleton.mp hy]; exact ht).1, fun _ _ _ _ hp => List.mem_append_right _ hp, wtMem (fun _ _ _ => .tail _ (.head _)) hs⟩
theorem absorbB {q : Addr} (N : News h₀ L h' ((q, tup #[]) :: V at_ t (tabObj ps))) (ht : ∀ p ∈ V at_ t (tabObj ps), p.1 < q) : ∃ V', LSt h₀ h' L sq cq vs is c nc V' at_ t ps ∧ (∀ at_ t o, ∀ p ∈ V at_ t o, p ∈ V' at_ t o) ∧ BD V' (.ref q) [] :=
  ⟨_, (absorb [(q, tup #[])] S N fun x hx => by rw [List.mem_singleton.mp hx]; exact ht).1, fun _ _ _ _ hp => List.mem_append_right _ hp, bdMem (us := []) (fun _ _ _ => .head _) (fun _ _ _ => .nil)⟩
theorem absorbJ {I : Addr} {it : Obj} (N : News h₀ L h' ((I, it) :: V at_ t (tabObj ps))) (h1 : I ≠ sq) (h2 : I ≠ 232) : ∃ V', LSt h₀ h' L sq cq vs is c nc V' at_ t ps ∧ (∀ at_ t o, ∀ p ∈ V at_ t o, p ∈ V' at_ t o) ∧ MT V' (I, it) :=
  ⟨_, (absorbI S N h1 h2).1, (absorbI S N h1 h2).2.1, (absorbI S N h1 h2).2.2⟩
end
section
variable {prog : Program} {w : World} {A : Around} {E : Value → Shared → Prop} {s : Shared} {Q : Value → Shared → Prop} {h₀ h9 : Heap} {L sq cq q1 q2 : Addr} {m : Str → Option Value} {vs : List Value} {is : List Int} {c nc : Nat} {V : Int → Tok → Obj → List (Addr × Obj)} {at_ : Int} {t : Tok} {ps : Array Value}
/-- words, and words just made -/
theorem wordsAddL {ws1 ws2 : List Str} {us : List Value} (S : LSt h₀ h9 L sq cq vs is c nc V at_ t ps) (F : Fr h₀ L s.heap m) (X : (Mine.kMake.heap_1 w.params).In h₀) (N : News h₀ L s.heap ((q2, tup us.toArray) :: V at_ t (tabObj ps))) (ht : ∀ p ∈ V at_ t (tabObj ps), p.1 < q2) (w1 : WT w.params V q1 ws1) (hs : StrsAre us ws2) (hz : ws1.length + ws2.length ≤ 1000)
    (h : ∀ q V' h', (∀ at_ t o, ∀ p ∈ V at_ t o, p ∈ V' at_ t o) → WT w.params V' q (ws1 ++ ws2) → Fr h₀ L h' m → LSt h₀ h' L sq cq vs is c nc V' at_ t ps → Q (.ref q) { s with heap := h' }) :
    wpAny (model prog w) A (binaryOp .Add (.ref q1) (.ref q2)) Q E s := by
  have ⟨S9, sub9⟩ := absorb [(q2, tup us.toArray)] S N (fun x hx => by rw [List.mem_singleton.mp hx]; exact ht)
  exact wordsAdd S9 F X (w1.mono sub9) (wtMem (fun _ _ _ => .head _) hs) hz fun q V' h' sub W' F' S' => h q V' h' (fun a t o p hp => sub a t o p (sub9 a t o p hp)) W' F' S'
/-- data, and data just made -/
theorem bdAddL (tl : List (Addr × Obj)) {ds1 ds2 : List Dat} {us : List Value} {v1 : Value} (S : LSt h₀ h9 L sq cq vs is c nc V at_ t ps) (F : Fr h₀ L s.heap m) (N : News h₀ L s.heap (((q2, tup us.toArray) :: tl) ++ V at_ t (tabObj ps))) (ht : ∀ q ∈ (q2, tup us.toArray) :: tl, ∀ p ∈ V at_ t (tabObj ps), p.1 < q.1) (b1 : BD V v1 ds1) (b2 : DatAll ((q2, tup us.toArray) :: tl) us ds2) (hz : ds1.length + ds2.length ≤ 1000)
    (h : ∀ q V' h', (∀ at_ t o, ∀ p ∈ V at_ t o, p ∈ V' at_ t o) → BD V' (.ref q) (ds1 ++ ds2) → Fr h₀ L h' m → LSt h₀ h' L sq cq vs is c nc V' at_ t ps → Q (.ref q) { s with heap := h' }) :
    wpAny (model prog w) A (binaryOp .Add v1 (.ref q2)) Q E s := by
  have ⟨S9, sub9⟩ := absorb ((q2, tup us.toArray) :: tl) S N ht
  have b1' := b1.mono sub9
  obtain ⟨q1, u1, e, _⟩ := b1
  subst e
  exact bdAdd S9 F b1' (bdMem (fun _ _ _ => .head _) (fun at_ t o => b2.mono fun _ hp => List.mem_append_left _ hp)) hz fun q V' h' sub W' F' S' => h q V' h' (fun a t o p hp => sub a t o p (sub9 a t o p hp)) W' F' S'
end
structure LCe (P : Params) (h₀ : Heap) (L D : Addr) (oD : Obj) (m' : Str → Option Value) (news' : List (Addr × Obj)) : Prop where
  is : ∃ (sq cq : Addr) (vs : List Value) (is : List Int) (c nc : Nat) (V : Int → Tok → Obj → List (Addr × Obj)) (at_ : Int) (t : Tok) (ps : Array Value) (m0 : Str → Option Value) (qw : Addr) (tr : Tok) (kv bv : Value) (hd : HD) (a b : List Str × List Dat), news' = V at_ t (tabObj ps) ∧ (∀ h, News h₀ L h (V at_ t (tabObj ps)) → LSt h₀ h L sq cq vs is c nc V at_ t ps) ∧ MT V (D, oD) ∧ WT P V qw ((hd.1 ++ a.1) ++ b.1) ∧ KV h₀ kv hd.2.2 ∧ BD V bv (a.2 ++ b.2) ∧ hd ∈ headsL ∧ a ∈ t1L ∧ b ∈ t2L ∧ m' = fun y => if y = Str.ofString "words" then some (.ref qw) else if y = Str.ofString "relation" then some (.str hd.2.1 tr) else if y = Str.ofString "key" then some kv else if y = Str.ofString "branches" then some bv else if y = Str.ofString "source" then some (.ref sq) else m0 y
theorem lce_mk {P : Params} {h₀ h : Heap} {L D sq cq : Addr} {its : Array Value} {vs : List Value} {is : List Int} {c nc : Nat} {V : Int → Tok → Obj → List (Addr × Obj)} {at_ : Int} {t tr : Tok} {ps : Array Value} {m : Str → Option Value} {qw : Addr} {ws : List Str} {kv bv : Value} {ds : List Dat} {hd : HD} {a : List Str × List Dat} (b : List Str × List Dat)
    (S : LSt h₀ h L sq cq vs is c nc V at_ t ps) (e1 : m (Str.ofString "words") = some (.ref qw)) (e2 : m (Str.ofString "relation") = some (.str hd.2.1 tr)) (e3 : m (Str.ofString "key") = some kv) (e4 : m (Str.ofString "branches") = some bv) (e5 : m (Str.ofString "source") = some (.ref sq))
    (M1 : MT V (D, tup its)) (hk : KV h₀ kv hd.2.2) (hh : hd ∈ headsL) (ha : a ∈ t1L) (hw : WT P V qw ws) (hws : ws = (hd.1 ++ a.1) ++ b.1) (hb : BD V bv ds) (hds : ds = a.2 ++ b.2) (hb2 : b ∈ t2L) : LCe P h₀ L D (tup its) m (noIt V at_ t (tabObj ps)) :=
  ⟨sq, cq, vs, is, c, nc, noIt V, at_, t, ps, m, qw, tr, kv, bv, hd, a, b, rfl, fun _ N => ⟨S.H.noIt, S.hi, S.h1, S.h2, S.ha, S.tb, N⟩, M1.noIt, wtCast hw.noIt hws, hk, hds ▸ hb.noIt, hh, ha, hb2, pin5 e1 e2 e3 e4 e5⟩
theorem execs_cutN {M : Model} {A : Around} {E : Value → Shared → Prop} {Q : Flow → Shared → Prop} {st : Stmt} {rest : List Stmt} {env : Env} {s : Shared} (C : Shared → Prop)
    (h2 : ∀ s', C s' → wpAny M A (execs rest env) Q E s') (h1 : ∀ Q1 : Flow → Shared → Prop, (∀ s', C s' → Q1 .next s') → wpAny M A (exec st env) Q1 (fun _ _ => False) s) : wpAny M A (execs (st :: rest) env) Q E s :=
  wpAny_execs_cons (wpAny_mono (h1 (fun fl s' => fl = .next ∧ C s') fun _ h => ⟨rfl, h⟩) (fun f s' h => by obtain ⟨rfl, h⟩ := h; exact h2 s' h) (fun _ _ h => h.elim))
theorem items_turn {prog : Program} {w : World} {A : Around} {E : Value → Shared → Prop} {h₀ : Heap} {env : Env} {target : PySem.Expr} {body : List Stmt} {Q : Flow → Shared → Prop} {s : Shared} {I : Addr} {nm : String} {keep : List (Addr × Obj)} {v : Value} {r : List Itm} {m : Str → Option Value} {news : List (Addr × Obj)}
    (C : (Str → Option Value) → List (Addr × Obj) → Prop) (hC : ∀ m' n', C m' n' → SubL keep n' ∧ ItemsRest prog w A E h₀ env target body Q s [(I, nm)] keep r m' n')
    (h : ∀ h tk (o : Obj), o.cls = .type nm → Fr h₀ env.locals h m → News h₀ env.locals h ((I, o) :: news) → wpAny (model prog w) A (assign target env v) (fun _ s₂ => wpAny (model prog w) A (execs body env) (fun f s₃ => f = .next ∧ UnrEndW h₀ env.locals { s with heap := h, toks := tk } [(I, o)] C s₃) (fun _ _ => False) s₂) (fun _ _ => False) { s with heap := h, toks := tk }) : ItemsRest prog w A E h₀ env target body Q s [(I, nm)] keep (.val v :: r) m news := by
  refine ItemsRest.val fun h' tk F => ?_
  intro o ho N
  refine wpAny_mono (h h' tk o ho F N) (fun _ s₂ x => wpAny_mono x (fun f s₃ y => ?_) (fun _ _ z => z.elim)) (fun _ _ z => z.elim)
  obtain ⟨rfl, h2, tk2, m2, n2, e, F2, N2, off, hc⟩ := y
  exact ⟨h2, tk2, m2, n2, e, F2, N2, off, hC _ _ hc⟩
theorem law_loop {P : Params} {prog : Program} {w : World} {A : Around} {E : Value → Shared → Prop} {h₀ h h9 : Heap} {env : Env} {target : PySem.Expr} {body : List Stmt} {Q : Flow → Shared → Prop} {s : Shared} {I : Addr} {m : Str → Option Value}
    {L sq cq q0 q1 q2 q3 q4 qw : Addr} {t1 t2 t3 : Tok} {vs : List Value} {is : List Int} {c nc : Nat} {V : Int → Tok → Obj → List (Addr × Obj)} {at_ : Int} {t : Tok} {ps : Array Value} {hd : HD} {bv : Value}
    (hL : env.locals = L) (S : LSt h₀ h L sq cq vs is c nc V at_ t ps) (N : News h₀ L h9 ([(q4, tup #[.ref q1, .ref q3]), (q3, tup #[.ref q2, .str "not invalid" t3]), (q2, tup #[.str "NOT" t2]), (q1, tup #[.ref q0, .str "invalid" t1]), (q0, tup #[])] ++ V at_ t (tabObj ps)))
    (ht : ∀ q ∈ [(q4, tup #[.ref q1, .ref q3]), (q3, tup #[.ref q2, .str "not invalid" t3]), (q2, tup #[.str "NOT" t2]), (q1, tup #[.ref q0, .str "invalid" t1]), (q0, tup #[])], ∀ p ∈ V at_ t (tabObj ps), p.1 < q.1) (hI : ∀ p ∈ V at_ t (tabObj ps), p.1 < I)
    (hw : WT P V qw hd.1) (hb : BD V bv [])
    (h1 : ∀ W t1 t3 h tk (o : Obj), o.cls = .type "tuple_iterator" → I ≠ sq → I ≠ 232 → MT W (I, o) → MT W (q4, tup #[.ref q1, .ref q3]) → PT P W q3 #[.ref q2, .str "not invalid" t3] → WT P W q2 [Str.ofString "NOT"] → PT P W q1 #[.ref q0, .str "invalid" t1] → WT P W q0 [] → WT P W qw hd.1 → BD W bv [] → LSt h₀ h L sq cq vs is c nc W at_ t ps → Fr h₀ L h m → ∀ Q1 : Flow → Shared → Prop, (∀ s₃, UnrEndW h₀ L { s with heap := h, toks := tk } [(I, o)] (fun m' n' => LCm P h₀ L I q4 q3 q2 (tup #[.ref q1, .ref q3]) m' n') s₃ → Q1 .next s₃) →
      wpAny (model prog w) A (assign target env (.ref q1)) (fun _ s₂ => wpAny (model prog w) A (execs body env) Q1 (fun _ _ => False) s₂) (fun _ _ => False) { s with heap := h, toks := tk })
    (h2 : ∀ (sq cq : Addr) (vs : List Value) (is : List Int) (c nc : Nat) (V : Int → Tok → Obj → List (Addr × Obj)) (at_ : Int) (t tt : Tok) (ps : Array Value) (m0 : Str → Option Value) (qw : Addr) (tr : Tok) (kv bv : Value) (hd : HD) (a : List Str × List Dat) h tk (o : Obj), o.cls = .type "tuple_iterator" → I ≠ sq → I ≠ 232 → MT V (I, o) → MT V (q4, tup #[.ref q1, .ref q3]) → PT P V q3 #[.ref q2, .str "not invalid" tt] → WT P V q2 [Str.ofString "NOT"] → WT P V qw (hd.1 ++ a.1) → KV h₀ kv hd.2.2 → BD V bv a.2 → hd ∈ headsL → a ∈ t1L → LSt h₀ h L sq cq vs is c nc V at_ t ps → (Fr h₀ L h (fun y => if y = Str.ofString "words" then some (.ref qw) else if y = Str.ofString "relation" then some (.str hd.2.1 tr) else if y = Str.ofString "key" then some kv else if y = Str.ofString "branches" then some bv else if y = Str.ofString "source" then some (.ref sq) else m0 y)) → ∀ Q1 : Flow → Shared → Prop, (∀ s₃, UnrEndW h₀ L { s with heap := h, toks := tk } [(I, o)] (fun m' n' => LCe P h₀ L q4 (tup #[.ref q1, .ref q3]) m' n') s₃ → Q1 .next s₃) →
      wpAny (model prog w) A (assign target env (.ref q3)) (fun _ s₂ => wpAny (model prog w) A (execs body env) Q1 (fun _ _ => False) s₂) (fun _ _ => False) { s with heap := h, toks := tk })
    (s₀ : Shared) (hs : ∀ h tk, ({ s with heap := h, toks := tk } : Shared) = { s₀ with heap := h, toks := tk })
    (hend : ∀ h tk, LC3 P s₀ h₀ L { s with heap := h, toks := tk } → Q .next { s with heap := h, toks := tk }) :
    ItemsRest prog w A E h₀ env target body Q s [(I, "tuple_iterator")] [(q4, tup #[.ref q1, .ref q3])] [.val (.ref q1), .val (.ref q3)] m ([(q4, tup #[.ref q1, .ref q3]), (q3, tup #[.ref q2, .str "not invalid" t3]), (q2, tup #[.str "NOT" t2]), (q1, tup #[.ref q0, .str "invalid" t1]), (q0, tup #[])] ++ V at_ t (tabObj ps)) := by
  subst hL
  have ⟨S9, sub9⟩ := absorb _ S N ht
  obtain ⟨W, e, a1, a2, a3, a4, a5⟩ := loop_made (P := P) S9
  subst e
  have ⟨i1, i2⟩ := itNe S hI
  refine items_turn (LCm P h₀ env.locals I q4 q3 q2 (tup #[.ref q1, .ref q3])) (fun m' n' C1 => ?_) fun h tk o ho F N' => ?_
  · obtain ⟨sq, cq, vs, is, c, nc, V, at_, t, tt, ps, m0, qw, tr, kv, bv, hd, a, e1, mk, i1, i2, M, P3, WN, hw, hk, hb, hh, ha, e2⟩ := C1.is
    subst e1
    refine ⟨⟨M _ _ _, trivial⟩, items_turn (LCe P h₀ env.locals q4 (tup #[.ref q1, .ref q3])) (fun m' n' C2 => ?_) fun h tk o ho F N' => ?_⟩
    · obtain ⟨sq, cq, vs, is, c, nc, V, at_, t, ps, m0, qw, tr, kv, bv, hd, a, b, e1, mk, M, hw, hk, hb, hh, ha, hb2, e2⟩ := C2.is
      subst e1
      refine ⟨⟨M _ _ _, trivial⟩, fun h tk F N => hend h tk ⟨sq, cq, vs, is, c, nc, V, at_, t, ps, m0, h, tk, qw, tr, kv, bv, hd, a, b, hs h tk, mk h N, hw, hk, hb, hh, ha, hb2, ?_⟩⟩
      rw [← e2]; exact F
    · rw [e2] at F
      have ⟨S2, sub2, MI⟩ := absorbI (mk h fun p hp => N' p (.tail _ hp)) N' i1 i2
      exact h2 sq cq vs is c nc _ at_ t tt ps m0 qw tr kv bv hd a h tk o ho i1 i2 MI (M.mono sub2) (P3.mono sub2) (WN.mono sub2) (hw.mono sub2) hk (hb.mono sub2) hh ha S2 F _ fun _ h => ⟨rfl, h⟩
  · have ⟨S2, sub2, MI⟩ := absorbI (h' := h) S9 N' i1 i2
    exact h1 _ t1 t3 h tk o ho i1 i2 MI (a1.mono sub2) (a2.mono sub2) (a3.mono sub2) (a4.mono sub2) (a5.mono sub2) ((hw.mono sub9).mono sub2) ((hb.mono sub9).mono sub2) S2 F _ fun _ h => ⟨rfl, h⟩
structure LC4 (P : Params) (s₁ : Shared) (h₀ : Heap) (L : Addr) (s' : Shared) : Prop where
  is : ∃ (sq cq : Addr) (vs : List Value) (is : List Int) (c nc : Nat) (V : Int → Tok → Obj → List (Addr × Obj)) (at_ : Int) (t : Tok) (ps : Array Value) (m0 : Str → Option Value) (h : Heap) (tk : Nat) (qw : Addr) (tr : Tok) (kv bv : Value) (hd : HD) (a b : List Str × List Dat) (e : List Str), s' = { s₁ with heap := h, toks := tk } ∧ LSt h₀ h L sq cq vs is c nc V at_ t ps ∧ WT P V qw (((hd.1 ++ a.1) ++ b.1) ++ e) ∧ KV h₀ kv hd.2.2 ∧ BD V bv (a.2 ++ b.2) ∧ hd ∈ headsL ∧ a ∈ t1L ∧ b ∈ t2L ∧ e ∈ endL ∧ Fr h₀ L h (fun y => if y = Str.ofString "words" then some (.ref qw) else if y = Str.ofString "relation" then some (.str hd.2.1 tr) else if y = Str.ofString "key" then some kv else if y = Str.ofString "branches" then some bv else if y = Str.ofString "source" then some (.ref sq) else m0 y)
theorem lc4_mk {P : Params} {s₁ : Shared} {h₀ h : Heap} {L sq cq : Addr} {vs : List Value} {is : List Int} {c nc : Nat} {V : Int → Tok → Obj → List (Addr × Obj)} {at_ : Int} {t tr : Tok} {ps : Array Value} {m : Str → Option Value} {tk : Nat} {qw : Addr} {kv bv : Value} {hd : HD} {a b : List Str × List Dat} {e : List Str}
    (S : LSt h₀ h L sq cq vs is c nc V at_ t ps) (F : Fr h₀ L h m) (e1 : m (Str.ofString "words") = some (.ref qw)) (e2 : m (Str.ofString "relation") = some (.str hd.2.1 tr)) (e3 : m (Str.ofString "key") = some kv) (e4 : m (Str.ofString "branches") = some bv) (e5 : m (Str.ofString "source") = some (.ref sq))
    (hk : KV h₀ kv hd.2.2) (hh : hd ∈ headsL) (ha : a ∈ t1L) (hb2 : b ∈ t2L) (he : e ∈ endL) (hw : WT P V qw (((hd.1 ++ a.1) ++ b.1) ++ e)) (hb : BD V bv (a.2 ++ b.2)) : LC4 P s₁ h₀ L { heap := h, gens := s₁.gens, drawn := s₁.drawn, toks := tk, os := s₁.os } :=
  ⟨sq, cq, vs, is, c, nc, V, at_, t, ps, m, h, tk, qw, tr, kv, bv, hd, a, b, e, rfl, S, hw, hk, hb, hh, ha, hb2, he, by
    have z := pin5 e1 e2 e3 e4 e5
    rw [← z]; exact F⟩
theorem lc0_mk {s₁ : Shared} {h₀ h : Heap} {L sq cq : Addr} {vs : List Value} {is : List Int} {c nc : Nat} {V : Int → Tok → Obj → List (Addr × Obj)} {at_ : Int} {t : Tok} {ps : Array Value} {m : Str → Option Value} {tk : Nat}
    (S : LSt h₀ h L sq cq vs is c nc V at_ t ps) (F : Fr h₀ L h m) (e5 : m (Str.ofString "source") = some (.ref sq)) : LC0 s₁ h₀ L { heap := h, gens := s₁.gens, drawn := s₁.drawn, toks := tk, os := s₁.os } :=
  ⟨sq, cq, vs, is, c, nc, V, at_, t, ps, m, h, tk, rfl, S, frPin F e5⟩
theorem lst_back {h₀ h h' : Heap} {L sq cq : Addr} {vs : List Value} {is : List Int} {c nc : Nat} {V : Int → Tok → Obj → List (Addr × Obj)} {V' : Obj → List (Addr × Obj)} {at_ : Int} {t : Tok} {ps ps' : Array Value} (S : LSt h₀ h L sq cq vs is c nc V at_ t ps) (tb : TabOk ⟨174, 36, 174, 76⟩ ps') (sub : ∀ o, ∀ p ∈ V at_ t o, p ∈ V' o) (N : News h₀ L h' (V' (tabObj ps'))) : LSt h₀ h' L sq cq vs is c nc V at_ t ps' := ⟨S.H, S.hi, S.h1, S.h2, S.ha, tb, fun p hp => N p (sub _ p hp)⟩
theorem bar_nn {h : List Str} {ws : List Str} {r : Int} (hb : (ws, r) ∈ barTable) : 0 ≤ (h.length : Int) + r := by
  have z := of_decide_eq_true (List.all_eq_true.mp (by decide +kernel : (barTable.all fun x => decide (0 ≤ x.2)) = true) _ hb)
  have z' : 0 ≤ r := z
  omega
structure LCF (s₁ : Shared) (h₀ : Heap) (L : Addr) (s' : Shared) : Prop where
  is : ∃ (m : Str → Option Value) (h : Heap) (tk : Nat) (ps : Array Value) (V : List (Addr × Obj)), s' = { s₁ with heap := h, toks := tk } ∧ Fr h₀ L h m ∧ News h₀ L h V ∧ (232, tabObj ps) ∈ V ∧ TabOk ⟨174, 36, 174, 76⟩ ps
theorem execs_ret {M : Model} {A : Around} {E : Value → Shared → Prop} {Q : Flow → Shared → Prop} {sts : List Stmt} {env : Env} {s : Shared} (C : Shared → Prop)
    (h2 : ∀ s', C s' → Q (.ret (.bool true)) s') (h1 : ∀ Q1 : Flow → Shared → Prop, (∀ b s', b = true → C s' → Q1 (.ret (.bool b)) s') → wpAny M A (execs sts env) Q1 (fun _ _ => False) s) : wpAny M A (execs sts env) Q E s :=
  wpAny_mono (h1 (fun fl s' => fl = .ret (.bool true) ∧ C s') fun b _ e h => ⟨by rw [e], h⟩) (fun f s' h => by obtain ⟨rfl, h⟩ := h; exact h2 s' h) (fun _ _ h => h.elim)
theorem lcf_mk {s₁ : Shared} {h₀ h : Heap} {L sq cq : Addr} {vs : List Value} {is : List Int} {c nc : Nat} {V : Int → Tok → Obj → List (Addr × Obj)} {at_ : Int} {t : Tok} {ps : Array Value} {m : Str → Option Value} {tk : Nat}
    (S : LSt h₀ h L sq cq vs is c nc V at_ t ps) (F : Fr h₀ L h m) : LCF s₁ h₀ L { heap := h, gens := s₁.gens, drawn := s₁.drawn, toks := tk, os := s₁.os } :=
  ⟨m, h, tk, ps, _, rfl, F, S.N, updF_mem (S.H.tab _ _ _), S.tb⟩
theorem ht4 {a b c d : Addr} {oa ob oc od : Obj} {l : List (Addr × Obj)} (f1 : ∀ p ∈ l, p.1 < d) (f2 : d < c ∧ AllLt c l) (f3 : c < b ∧ d < b ∧ AllLt b l) (f4 : b < a ∧ c < a ∧ d < a ∧ AllLt a l) : ∀ q ∈ (a, oa) :: [(b, ob), (c, oc), (d, od)], ∀ p ∈ l, p.1 < q.1 :=
  List.forall_mem_cons.mpr ⟨allLt_all f4.2.2.2, List.forall_mem_cons.mpr ⟨allLt_all f3.2.2, List.forall_mem_cons.mpr ⟨allLt_all f2.2, List.forall_mem_cons.mpr ⟨f1, List.forall_mem_nil _⟩⟩⟩⟩
theorem ht5 {z a b c d : Addr} {oz oa ob oc od : Obj} {l : List (Addr × Obj)} (f1 : ∀ p ∈ l, p.1 < d) (f2 : d < c ∧ AllLt c l) (f3 : c < b ∧ d < b ∧ AllLt b l) (f4 : b < a ∧ c < a ∧ d < a ∧ AllLt a l) (f5 : a < z ∧ b < z ∧ c < z ∧ d < z ∧ AllLt z l) : ∀ q ∈ [(z, oz), (a, oa), (b, ob), (c, oc), (d, od)], ∀ p ∈ l, p.1 < q.1 :=
  List.forall_mem_cons.mpr ⟨allLt_all f5.2.2.2.2, ht4 f1 f2 f3 f4⟩
theorem BD.ref {V : Int → Tok → Obj → List (Addr × Obj)} {v : Value} {ds : List Dat} (h : BD V v ds) : ∃ q, v = .ref q := h.elim fun q h => h.elim fun _ h => ⟨q, h.1⟩
theorem subTr {V V' W : Int → Tok → Obj → List (Addr × Obj)} (h : ∀ at_ t o, ∀ p ∈ V at_ t o, p ∈ V' at_ t o) (h' : ∀ at_ t o, ∀ p ∈ V' at_ t o, p ∈ W at_ t o) : ∀ at_ t o, ∀ p ∈ V at_ t o, p ∈ W at_ t o := fun at_ t o p hp => h' at_ t o p (h at_ t o p hp)
theorem freshV {h₀ h : Heap} {L sq cq : Addr} {vs : List Value} {is : List Int} {c nc : Nat} {V : Int → Tok → Obj → List (Addr × Obj)} {at_ : Int} {t : Tok} {ps : Array Value} (S : LSt h₀ h L sq cq vs is c nc V at_ t ps) : ∃ W, LSt h₀ h L sq cq vs is c nc W at_ t ps ∧ ∀ at_ t o, ∀ p ∈ V at_ t o, p ∈ W at_ t o := ⟨V, S, fun _ _ _ _ hp => hp⟩
theorem LC0.elim {s₁ : Shared} {h₀ : Heap} {L : Addr} {s' : Shared} {K : Shared → Prop} (hC : LC0 s₁ h₀ L s') (k : ∀ (sq cq : Addr) (vs : List Value) (is : List Int) (c nc : Nat) (V : Int → Tok → Obj → List (Addr × Obj)) (at_ : Int) (t : Tok) (ps : Array Value) (m0 : Str → Option Value) (h : Heap) (tk : Nat), LSt h₀ h L sq cq vs is c nc V at_ t ps → (Fr h₀ L h (fun y => if y = Str.ofString "source" then some (.ref sq) else m0 y)) → K { s₁ with heap := h, toks := tk }) : K s' := by
  obtain ⟨sq, cq, vs, is, c, nc, V, at_, t, ps, m0, h, tk, eq9, e0, e1⟩ := hC.is
  rw [eq9]
  exact k sq cq vs is c nc V at_ t ps m0 h tk e0 e1
theorem LC1.elim {P : Params} {s₁ : Shared} {h₀ : Heap} {L : Addr} {s' : Shared} {K : Shared → Prop} (hC : LC1 P s₁ h₀ L s') (k : ∀ (sq cq : Addr) (vs : List Value) (is : List Int) (c nc : Nat) (V : Int → Tok → Obj → List (Addr × Obj)) (at_ : Int) (t : Tok) (ps : Array Value) (m0 : Str → Option Value) (h : Heap) (tk : Nat) (qw : Addr) (tr : Tok) (kv : Value) (hd : HD), LSt h₀ h L sq cq vs is c nc V at_ t ps → WT P V qw hd.1 → KV h₀ kv hd.2.2 → hd ∈ headsL → (Fr h₀ L h (fun y => if y = Str.ofString "words" then some (.ref qw) else if y = Str.ofString "relation" then some (.str hd.2.1 tr) else if y = Str.ofString "key" then some kv else if y = Str.ofString "source" then some (.ref sq) else m0 y)) → K { s₁ with heap := h, toks := tk }) : K s' := by
  obtain ⟨sq, cq, vs, is, c, nc, V, at_, t, ps, m0, h, tk, qw, tr, kv, hd, eq9, e0, e1, e2, e3, e4⟩ := hC.is
  rw [eq9]
  exact k sq cq vs is c nc V at_ t ps m0 h tk qw tr kv hd e0 e1 e2 e3 e4
theorem LC3.elim {P : Params} {s₁ : Shared} {h₀ : Heap} {L : Addr} {s' : Shared} {K : Shared → Prop} (hC : LC3 P s₁ h₀ L s') (k : ∀ (sq cq : Addr) (vs : List Value) (is : List Int) (c nc : Nat) (V : Int → Tok → Obj → List (Addr × Obj)) (at_ : Int) (t : Tok) (ps : Array Value) (m0 : Str → Option Value) (h : Heap) (tk : Nat) (qw : Addr) (tr : Tok) (kv bv : Value) (hd : HD) (a b : List Str × List Dat), LSt h₀ h L sq cq vs is c nc V at_ t ps → WT P V qw ((hd.1 ++ a.1) ++ b.1) → KV h₀ kv hd.2.2 → BD V bv (a.2 ++ b.2) → hd ∈ headsL → a ∈ t1L → b ∈ t2L → (Fr h₀ L h (fun y => if y = Str.ofString "words" then some (.ref qw) else if y = Str.ofString "relation" then some (.str hd.2.1 tr) else if y = Str.ofString "key" then some kv else if y = Str.ofString "branches" then some bv else if y = Str.ofString "source" then some (.ref sq) else m0 y)) → K { s₁ with heap := h, toks := tk }) : K s' := by
  obtain ⟨sq, cq, vs, is, c, nc, V, at_, t, ps, m0, h, tk, qw, tr, kv, bv, hd, a, b, eq9, e0, e1, e2, e3, e4, e5, e6, e7⟩ := hC.is
  rw [eq9]
  exact k sq cq vs is c nc V at_ t ps m0 h tk qw tr kv bv hd a b e0 e1 e2 e3 e4 e5 e6 e7
theorem LC4.elim {P : Params} {s₁ : Shared} {h₀ : Heap} {L : Addr} {s' : Shared} {K : Shared → Prop} (hC : LC4 P s₁ h₀ L s') (k : ∀ (sq cq : Addr) (vs : List Value) (is : List Int) (c nc : Nat) (V : Int → Tok → Obj → List (Addr × Obj)) (at_ : Int) (t : Tok) (ps : Array Value) (m0 : Str → Option Value) (h : Heap) (tk : Nat) (qw : Addr) (tr : Tok) (kv bv : Value) (hd : HD) (a b : List Str × List Dat) (e : List Str), LSt h₀ h L sq cq vs is c nc V at_ t ps → WT P V qw (((hd.1 ++ a.1) ++ b.1) ++ e) → KV h₀ kv hd.2.2 → BD V bv (a.2 ++ b.2) → hd ∈ headsL → a ∈ t1L → b ∈ t2L → e ∈ endL → (Fr h₀ L h (fun y => if y = Str.ofString "words" then some (.ref qw) else if y = Str.ofString "relation" then some (.str hd.2.1 tr) else if y = Str.ofString "key" then some kv else if y = Str.ofString "branches" then some bv else if y = Str.ofString "source" then some (.ref sq) else m0 y)) → K { s₁ with heap := h, toks := tk }) : K s' := by
  obtain ⟨sq, cq, vs, is, c, nc, V, at_, t, ps, m0, h, tk, qw, tr, kv, bv, hd, a, b, e, eq9, e0, e1, e2, e3, e4, e5, e6, e7, e8⟩ := hC.is
  rw [eq9]
  exact k sq cq vs is c nc V at_ t ps m0 h tk qw tr kv bv hd a b e e0 e1 e2 e3 e4 e5 e6 e7 e8
theorem LCF.elim {s₁ : Shared} {h₀ : Heap} {L : Addr} {s' : Shared} {K : Shared → Prop} (hC : LCF s₁ h₀ L s') (k : ∀ (m : Str → Option Value) (h : Heap) (tk : Nat) (ps : Array Value) (V : List (Addr × Obj)), (Fr h₀ L h m) → News h₀ L h V → (232, tabObj ps) ∈ V → TabOk ⟨174, 36, 174, 76⟩ ps → K { s₁ with heap := h, toks := tk }) : K s' := by
  obtain ⟨m, h, tk, ps, V, eq9, e0, e1, e2, e3⟩ := hC.is
  rw [eq9]
  exact k m h tk ps V e0 e1 e2 e3
section
variable {h₀ h h' : Heap} {L sq cq : Addr} {vs : List Value} {is : List Int} {c nc : Nat} {V : Int → Tok → Obj → List (Addr × Obj)} {at_ : Int} {t : Tok} {ps : Array Value} {K : Prop} (S : LSt h₀ h L sq cq vs is c nc V at_ t ps)
include S
theorem absorbXk (tl : List (Addr × Obj)) (N : News h₀ L h' (tl ++ V at_ t (tabObj ps))) (ht : ∀ q ∈ tl, ∀ p ∈ V at_ t (tabObj ps), p.1 < q.1) (k : ∀ V', LSt h₀ h' L sq cq vs is c nc V' at_ t ps → (∀ at_ t o, ∀ p ∈ V at_ t o, p ∈ V' at_ t o) → K) : K :=
  (absorbX S tl N ht).elim fun V' x => k V' x.1 x.2
theorem absorbWk {P : Params} {q : Addr} {us : List Value} {ws : List Str} (N : News h₀ L h' ((q, tup us.toArray) :: V at_ t (tabObj ps))) (ht : ∀ p ∈ V at_ t (tabObj ps), p.1 < q) (hs : StrsAre us ws) (k : ∀ V', LSt h₀ h' L sq cq vs is c nc V' at_ t ps → (∀ at_ t o, ∀ p ∈ V at_ t o, p ∈ V' at_ t o) → WT P V' q ws → K) : K :=
  (absorbW S N ht hs).elim fun V' x => k V' x.1 x.2.1 x.2.2
theorem absorb2Wk {P : Params} {x : Addr × Obj} {q : Addr} {us : List Value} {ws : List Str} (N : News h₀ L h' (x :: (q, tup us.toArray) :: V at_ t (tabObj ps))) (hx : ∀ p ∈ V at_ t (tabObj ps), p.1 < x.1) (ht : ∀ p ∈ V at_ t (tabObj ps), p.1 < q) (hs : StrsAre us ws) (k : ∀ V', LSt h₀ h' L sq cq vs is c nc V' at_ t ps → (∀ at_ t o, ∀ p ∈ V at_ t o, p ∈ V' at_ t o) → WT P V' q ws → K) : K :=
  (absorb2W S N hx ht hs).elim fun V' x => k V' x.1 x.2.1 x.2.2
theorem absorbBk {q : Addr} (N : News h₀ L h' ((q, tup #[]) :: V at_ t (tabObj ps))) (ht : ∀ p ∈ V at_ t (tabObj ps), p.1 < q) (k : ∀ V', LSt h₀ h' L sq cq vs is c nc V' at_ t ps → (∀ at_ t o, ∀ p ∈ V at_ t o, p ∈ V' at_ t o) → BD V' (.ref q) [] → K) : K :=
  (absorbB S N ht).elim fun V' x => k V' x.1 x.2.1 x.2.2
theorem freshVk (k : ∀ W, LSt h₀ h L sq cq vs is c nc W at_ t ps → (∀ at_ t o, ∀ p ∈ V at_ t o, p ∈ W at_ t o) → K) : K := k V S fun _ _ _ _ hp => hp
end
theorem law_wrap {M : Model} {A : Around} {E : Value → Shared → Prop} {Q : Flow → Shared → Prop} {sts : List Stmt} {env : Env} {s : Shared} (C : Shared → Prop)
    (h2 : ∀ s', C s' → Q (.ret (.bool true)) s') (h1 : ∀ (Q1 : Flow → Shared → Prop) (E1 : Value → Shared → Prop), (∀ s', C s' → Q1 (.ret (.bool true)) s') → wpAny M A (execs sts env) Q1 E1 s) : wpAny M A (execs sts env) Q E s := h1 Q E h2

-- law
theorem law_ : PySem.Challenge.rw_pc0140_01.Holds := hd rfl rfl rfl (by
  w_strict (
    intro w s₀ s₁ mg mb G Y fa o pm cd doc dV kV ho hd hcd hD hmg hg args vals as hpre hlay hrd hwl hlo
    obtain ⟨KX, h232⟩ := says_in Y
    have hT8 : ∀ P ∈ ([232] : List Addr), s₁.heap.get? P = some (tabObj #[]) := by
      intro P hP
      rw [List.mem_singleton.mp hP]; exact h232
    have X := (Ground.X G).1
    have V := (Ground.X G).2
    refine Ground.open G ?_
    intro T B D TE TW
    try (refine guard_noD D (by decide +kernel) ?_; clear D)
    km_lay T hmg ho hd cd
    clear hmg
    wrow_args hpre hlay hrd hwl hlo
    all_goals (
      first | refine callC_kw (enter_call ?_) | refine enter_call ?_
      w_top on
      kn_posts
      w_call any ho hd hcd hD T F
      clear hd
      kn_ghosts F T
      k_drop
      skip)
    dsimp only
    refine law_wrap (LCF s₁ (ghostOf s₁.heap [(236, 232)]) s₁.heap.objs.size) ?sF ?hQ
    case sF =>
      intro s' hC
      obtain ⟨m, h, tk, ps, V, rfl, F8, N8, hV, tb⟩ := hC
      refine And.intro ?g ⟨GrownAt.of N8 hV, True.intro⟩
      case g =>
        refine ⟨.inl ⟨.bool true, .bool true, [], rfl, ?gr, ?gb, ?gp, fun _ => ⟨List.nodup_nil, fun _ ha => nomatch ha⟩⟩, fun b o e => F8.keep b o e, rfl, hg⟩
        case gr =>
          intro cls
          first | rfl | exact raisesW_false (by rfl) cls
        case gb => exact ReadsW.bool _
        case gp => wrow_post
    intro Q0 E0 hQ0
    -- A: the source
    refine execs_cutN (LC0 s₁ (ghostOf s₁.heap [(236, 232)]) s₁.heap.objs.size) ?sA ?hA
    case hA =>
      intro Q1 hQ1
      repeat' (first | (k_unfold; (try dsimp only)) | (walk1) | (dsimp only; walk1) | (leave1; try dsimp only))
      all_goals (rename News _ _ _ _ => NZ; rename Fr _ _ _ _ => FZ)
      · refine hQ1 _ ?_
        exact lc0_1 NZ (by assumption) (by assumption) take_le (by assumption) (by assumption) (by assumption) FZ (by rfl)
      · refine hQ1 _ ?_
        exact lc0_2 NZ (by assumption) (by assumption) (And.right (by assumption : _ ≠ _ ∧ _ ≠ _)) (by assumption) FZ (by rfl)
    case sA =>
      clear hcd hD
      intro s' hC
      refine LC0.elim (K := fun s' => wpAny _ _ _ _ _ s') hC ?_
      intro sq cq vs is c nc V at_ t ps m0 h tk S8 F8
      show wpAny _ _ _ _ _ _
      have N8 := S8.N
      repeat' (first | ((with_reducible show wpAny _ _ (exec (Stmt.If _ _ _ _) _) _ _ _); refine wpAny_If ?_) | (k_unfold; (try dsimp only)) | ((fail_if_success (with_reducible show wpAny _ _ (execs (Stmt.If _ _ _ _ :: _) _) _ _ _)); walk1) | (dsimp only; (fail_if_success (with_reducible show wpAny _ _ (execs (Stmt.If _ _ _ _ :: _) _) _ _ _)); walk1) | (leave1; try dsimp only))
      (rename LSt _ _ _ _ _ _ _ _ _ _ _ _ _ => S8)
      (rename News _ _ _ _ => N8)
      refine absorb2Wk (P := w.params) S8 N8 (by first | assumption | first | assumption | exact allLt_all (by assumption) | exact allLt_all (And.right (by assumption)) | exact allLt_all (And.right (And.right (by assumption))) | exact allLt_all (And.right (And.right (And.right (by assumption)))) | exact allLt_all (And.right (And.right (And.right (And.right (by assumption))))) | exact allLt_all (And.right (And.right (And.right (And.right (And.right (by assumption)))))) | exact allLt_all (And.right (And.right (And.right (And.right (And.right (And.right (by assumption))))))) | exact allLt_all (And.right (And.right (And.right (And.right (And.right (And.right (And.right (by assumption)))))))) | exact allLt_all (And.right (And.right (And.right (And.right (And.right (And.right (And.right (And.right (by assumption))))))))) | exact ltSucc (by assumption) | exact ltLt (by assumption) (by assumption) | exact ltTail (by assumption) | exact ltTail (ltTail (by assumption)) | exact ltTail (ltTail (ltTail (by assumption))) | exact ltTail (ltTail (ltTail (ltTail (by assumption)))) | exact ltTail (ltTail (ltTail (ltTail (ltTail (by assumption))))) | exact ltLt (ltLt (by assumption) (by assumption)) (by assumption) | exact ltLt (ltTail (ltTail (by assumption))) (by assumption) | exact ltLt (ltLt (ltTail (ltTail (by assumption))) (by assumption)) (by assumption)) (by first | assumption | first | assumption | exact allLt_all (by assumption) | exact allLt_all (And.right (by assumption)) | exact allLt_all (And.right (And.right (by assumption))) | exact allLt_all (And.right (And.right (And.right (by assumption)))) | exact allLt_all (And.right (And.right (And.right (And.right (by assumption))))) | exact allLt_all (And.right (And.right (And.right (And.right (And.right (by assumption)))))) | exact allLt_all (And.right (And.right (And.right (And.right (And.right (And.right (by assumption))))))) | exact allLt_all (And.right (And.right (And.right (And.right (And.right (And.right (And.right (by assumption)))))))) | exact allLt_all (And.right (And.right (And.right (And.right (And.right (And.right (And.right (And.right (by assumption))))))))) | exact ltSucc (by assumption) | exact ltLt (by assumption) (by assumption) | exact ltTail (by assumption) | exact ltTail (ltTail (by assumption)) | exact ltTail (ltTail (ltTail (by assumption))) | exact ltTail (ltTail (ltTail (ltTail (by assumption)))) | exact ltTail (ltTail (ltTail (ltTail (ltTail (by assumption))))) | exact ltLt (ltLt (by assumption) (by assumption)) (by assumption) | exact ltLt (ltTail (ltTail (by assumption))) (by assumption) | exact ltLt (ltLt (ltTail (ltTail (by assumption))) (by assumption)) (by assumption)) (by (repeat (first | exact StrsAre.nil | apply StrsAre.cons))) ?_
      intro V9 S9 sub9 W9
      clear S8 sub9 N8
      have S8 := S9
      clear S9
      (refine freshVk S8 ?_; intro V0 S0 sub0; clear S8; have S8 := S0; clear S0; have N8 := S8.N)
      (try k_sweep)
      (try dsimp only)
      -- B: the head
      refine execs_cutN (LC1 w.params s₁ (ghostOf s₁.heap [(236, 232)]) s₁.heap.objs.size) ?sB ?hB
      case hB =>
        intro Q1 hQ1
        repeat' (first | ((with_reducible show wpAny _ _ (exec (Stmt.If _ _ _ _) _) _ _ _); refine wpAny_If ?_) | (((with_reducible show wpAny _ _ (call (Value.ref 508) [Value.ref _, _]) _ _ _); ((rename LSt _ _ _ _ _ _ _ _ _ _ _ _ _ => S8); (rename News _ _ _ _ => N8); have S9 := refresh S8 N8; clear S8); k_dflt (refine' draw_LS S9 ?zb ?zf ?zx ?zt ?zhk ?zd ?zhl ?_; (case zb => k_asm); (case zf => k_asm); (case zx => k_asm); (case zt => k_asm); (case zhk => exact rfl); (case zd => ktr_room); (case zhl => decide)); clear S9; intro i9 ti9 t9 h9 tk9 g9 l9 F9 S8; (try clear sub9); (try dsimp only); (rename LSt _ _ _ _ _ _ _ _ _ _ _ _ _ => S8); have N8 := S8.N; (try k_sweep))) | (((with_reducible show wpAny _ _ (call (Value.ref 547) [Value.ref _, Value.ref 595]) _ _ _); ((rename LSt _ _ _ _ _ _ _ _ _ _ _ _ _ => S8); (rename News _ _ _ _ => N8); have S9 := refresh S8 N8; clear S8); k_dflt (refine' pick_rel S9 ?zb ?zf ?zx ?zt ?zhk ?zd ?_; (case zb => k_asm); (case zf => k_asm); (case zx => k_asm); (case zt => k_asm); (case zhk => exact rfl); (case zd => ktr_room)); clear S9; intro q9 qw9 ws9 r9 t9 t' h9 tk9 p9 w9 m9 z9 F9 S8; (try clear sub9); (try dsimp only); (rename LSt _ _ _ _ _ _ _ _ _ _ _ _ _ => S8); have N8 := S8.N; (try k_sweep))) | (((with_reducible show wpAny _ _ (call (Value.ref 547) [Value.ref _, Value.ref _]) _ _ _); ((rename LSt _ _ _ _ _ _ _ _ _ _ _ _ _ => S8); (rename News _ _ _ _ => N8); have S9 := refresh S8 N8; clear S8); k_dflt (refine' pick_refs S9 ?zb ?zf ?zx ?zt ?zhk ?zr ?zd ?_; (case zb => k_asm); (case zf => k_asm); (case zx => k_asm); (case zt => k_asm); (case zhk => exact rfl); (case zr => assumption); (case zd => ktr_room)); clear S9; intro q9 qw9 ws9 k9 t' h9 tk9 p9 w9 m9 z9 F9 S8; (try clear sub9); (try dsimp only); (rename LSt _ _ _ _ _ _ _ _ _ _ _ _ _ => S8); have N8 := S8.N; (try k_sweep))) | (((with_reducible show wpAny _ _ (call (Value.ref 533) _) _ _ _); ((rename LSt _ _ _ _ _ _ _ _ _ _ _ _ _ => S8); (rename News _ _ _ _ => N8); (first | (have S9 := refresh S8 N8) | (refine absorbXk S8 [_] N8 (by (repeat (refine List.forall_mem_cons.mpr ⟨(by dsimp only; first | assumption | first | assumption | exact allLt_all (by assumption) | exact allLt_all (And.right (by assumption)) | exact allLt_all (And.right (And.right (by assumption))) | exact allLt_all (And.right (And.right (And.right (by assumption)))) | exact allLt_all (And.right (And.right (And.right (And.right (by assumption))))) | exact allLt_all (And.right (And.right (And.right (And.right (And.right (by assumption)))))) | exact allLt_all (And.right (And.right (And.right (And.right (And.right (And.right (by assumption))))))) | exact allLt_all (And.right (And.right (And.right (And.right (And.right (And.right (And.right (by assumption)))))))) | exact allLt_all (And.right (And.right (And.right (And.right (And.right (And.right (And.right (And.right (by assumption))))))))) | exact ltSucc (by assumption) | exact ltLt (by assumption) (by assumption) | exact ltTail (by assumption) | exact ltTail (ltTail (by assumption)) | exact ltTail (ltTail (ltTail (by assumption))) | exact ltTail (ltTail (ltTail (ltTail (by assumption)))) | exact ltTail (ltTail (ltTail (ltTail (ltTail (by assumption))))) | exact ltLt (ltLt (by assumption) (by assumption)) (by assumption) | exact ltLt (ltTail (ltTail (by assumption))) (by assumption) | exact ltLt (ltLt (ltTail (ltTail (by assumption))) (by assumption)) (by assumption)), ?_⟩)); exact List.forall_mem_nil _) ?_; intro V9 S9 sub9; clear S8; ((have sub8 := subTr sub0 sub9); (clear sub0); (have sub0 := sub8); (clear sub8); (repeat (rename WT _ _ _ _ => wt9; replace wt9 := WT.mono wt9 sub9; revert wt9)); (repeat (rename BD _ _ _ => wt9; replace wt9 := BD.mono wt9 sub9; revert wt9)); (repeat (rename PT _ _ _ _ => wt9; replace wt9 := PT.mono wt9 sub9; revert wt9)); (repeat (rename RefsAre _ _ _ => wt9; replace wt9 := RefsAre.mono wt9 sub9; revert wt9)); intros); (rename LSt _ _ _ _ _ _ _ _ _ _ _ _ _ => S9)) | (refine absorbXk S8 [_, _] N8 (by (repeat (refine List.forall_mem_cons.mpr ⟨(by dsimp only; first | assumption | first | assumption | exact allLt_all (by assumption) | exact allLt_all (And.right (by assumption)) | exact allLt_all (And.right (And.right (by assumption))) | exact allLt_all (And.right (And.right (And.right (by assumption)))) | exact allLt_all (And.right (And.right (And.right (And.right (by assumption))))) | exact allLt_all (And.right (And.right (And.right (And.right (And.right (by assumption)))))) | exact allLt_all (And.right (And.right (And.right (And.right (And.right (And.right (by assumption))))))) | exact allLt_all (And.right (And.right (And.right (And.right (And.right (And.right (And.right (by assumption)))))))) | exact allLt_all (And.right (And.right (And.right (And.right (And.right (And.right (And.right (And.right (by assumption))))))))) | exact ltSucc (by assumption) | exact ltLt (by assumption) (by assumption) | exact ltTail (by assumption) | exact ltTail (ltTail (by assumption)) | exact ltTail (ltTail (ltTail (by assumption))) | exact ltTail (ltTail (ltTail (ltTail (by assumption)))) | exact ltTail (ltTail (ltTail (ltTail (ltTail (by assumption))))) | exact ltLt (ltLt (by assumption) (by assumption)) (by assumption) | exact ltLt (ltTail (ltTail (by assumption))) (by assumption) | exact ltLt (ltLt (ltTail (ltTail (by assumption))) (by assumption)) (by assumption)), ?_⟩)); exact List.forall_mem_nil _) ?_; intro V9 S9 sub9; clear S8; ((have sub8 := subTr sub0 sub9); (clear sub0); (have sub0 := sub8); (clear sub8); (repeat (rename WT _ _ _ _ => wt9; replace wt9 := WT.mono wt9 sub9; revert wt9)); (repeat (rename BD _ _ _ => wt9; replace wt9 := BD.mono wt9 sub9; revert wt9)); (repeat (rename PT _ _ _ _ => wt9; replace wt9 := PT.mono wt9 sub9; revert wt9)); (repeat (rename RefsAre _ _ _ => wt9; replace wt9 := RefsAre.mono wt9 sub9; revert wt9)); intros); (rename LSt _ _ _ _ _ _ _ _ _ _ _ _ _ => S9)) | (refine absorbXk S8 [_, _, _] N8 (by (repeat (refine List.forall_mem_cons.mpr ⟨(by dsimp only; first | assumption | first | assumption | exact allLt_all (by assumption) | exact allLt_all (And.right (by assumption)) | exact allLt_all (And.right (And.right (by assumption))) | exact allLt_all (And.right (And.right (And.right (by assumption)))) | exact allLt_all (And.right (And.right (And.right (And.right (by assumption))))) | exact allLt_all (And.right (And.right (And.right (And.right (And.right (by assumption)))))) | exact allLt_all (And.right (And.right (And.right (And.right (And.right (And.right (by assumption))))))) | exact allLt_all (And.right (And.right (And.right (And.right (And.right (And.right (And.right (by assumption)))))))) | exact allLt_all (And.right (And.right (And.right (And.right (And.right (And.right (And.right (And.right (by assumption))))))))) | exact ltSucc (by assumption) | exact ltLt (by assumption) (by assumption) | exact ltTail (by assumption) | exact ltTail (ltTail (by assumption)) | exact ltTail (ltTail (ltTail (by assumption))) | exact ltTail (ltTail (ltTail (ltTail (by assumption)))) | exact ltTail (ltTail (ltTail (ltTail (ltTail (by assumption))))) | exact ltLt (ltLt (by assumption) (by assumption)) (by assumption) | exact ltLt (ltTail (ltTail (by assumption))) (by assumption) | exact ltLt (ltLt (ltTail (ltTail (by assumption))) (by assumption)) (by assumption)), ?_⟩)); exact List.forall_mem_nil _) ?_; intro V9 S9 sub9; clear S8; ((have sub8 := subTr sub0 sub9); (clear sub0); (have sub0 := sub8); (clear sub8); (repeat (rename WT _ _ _ _ => wt9; replace wt9 := WT.mono wt9 sub9; revert wt9)); (repeat (rename BD _ _ _ => wt9; replace wt9 := BD.mono wt9 sub9; revert wt9)); (repeat (rename PT _ _ _ _ => wt9; replace wt9 := PT.mono wt9 sub9; revert wt9)); (repeat (rename RefsAre _ _ _ => wt9; replace wt9 := RefsAre.mono wt9 sub9; revert wt9)); intros); (rename LSt _ _ _ _ _ _ _ _ _ _ _ _ _ => S9))); (try clear S8)); k_dflt (refine' refs_LS S9 ?zb ?zf ?zx ?zt ?zhk ?zd ?_; (case zb => k_asm); (case zf => k_asm); (case zx => k_asm); (case zt => k_asm); (case zhk => exact rfl); (case zd => ktr_room)); clear S9; intro D9 V9 h9 tk9 sub9; ((have sub8 := subTr sub0 sub9); (clear sub0); (have sub0 := sub8); (clear sub8); (repeat (rename WT _ _ _ _ => wt9; replace wt9 := WT.mono wt9 sub9; revert wt9)); (repeat (rename BD _ _ _ => wt9; replace wt9 := BD.mono wt9 sub9; revert wt9)); (repeat (rename PT _ _ _ _ => wt9; replace wt9 := PT.mono wt9 sub9; revert wt9)); (repeat (rename RefsAre _ _ _ => wt9; replace wt9 := RefsAre.mono wt9 sub9; revert wt9)); intros); (try clear sub9); (try dsimp only); (rename LSt _ _ _ _ _ _ _ _ _ _ _ _ _ => S8); have N8 := S8.N; (try k_sweep))) | (((with_reducible show wpAny _ _ (assign (Expr.Tuple _ _ _) _ (Value.ref _)) _ _ _); ((rename LSt _ _ _ _ _ _ _ _ _ _ _ _ _ => S8); (rename News _ _ _ _ => N8); have S9 := refresh S8 N8; clear S8); k_dflt (refine' unpackN_ ?zF ?zN ?zT ?zk1 ?zk2 ?zk3 ?_; (case zF => k_asm); (case zN => exact S9.N); (case zT => exact pt_is S9 (by k_asm) (by k_asm) (by first | assumption | exact PT.mono (by assumption) sub0)); (case zk1 => exact rfl); (case zk2 => exact rfl); (case zk3 => exact rfl); k_whole); intro h' F' N'; (try k_sweep))) | (((with_reducible show wpAny _ _ (binaryOp _ (Value.ref _) (Value.ref _)) _ _ _); (rename LSt _ _ _ _ _ _ _ _ _ _ _ _ _ => S8); (rename News _ _ _ _ => N8); (first | (have S9 := refresh S8 N8; clear S8; k_dflt (refine' wordsAdd S9 ?zf ?zx ?zw1 ?zw2 ?zz ?_; (case zf => k_asm); (case zx => k_asm); (case zw1 => first | assumption | exact WT.mono (by assumption) sub0); (case zw2 => first | assumption | exact WT.mono (by assumption) sub0); (case zz => (simp only [List.length_append, List.length_cons, List.length_nil]; omega))); clear S9) | (k_dflt (refine' wordsAddL S8 ?zf ?zx N8 (by first | assumption | first | assumption | exact allLt_all (by assumption) | exact allLt_all (And.right (by assumption)) | exact allLt_all (And.right (And.right (by assumption))) | exact allLt_all (And.right (And.right (And.right (by assumption)))) | exact allLt_all (And.right (And.right (And.right (And.right (by assumption))))) | exact allLt_all (And.right (And.right (And.right (And.right (And.right (by assumption)))))) | exact allLt_all (And.right (And.right (And.right (And.right (And.right (And.right (by assumption))))))) | exact allLt_all (And.right (And.right (And.right (And.right (And.right (And.right (And.right (by assumption)))))))) | exact allLt_all (And.right (And.right (And.right (And.right (And.right (And.right (And.right (And.right (by assumption))))))))) | exact ltSucc (by assumption) | exact ltLt (by assumption) (by assumption) | exact ltTail (by assumption) | exact ltTail (ltTail (by assumption)) | exact ltTail (ltTail (ltTail (by assumption))) | exact ltTail (ltTail (ltTail (ltTail (by assumption)))) | exact ltTail (ltTail (ltTail (ltTail (ltTail (by assumption))))) | exact ltLt (ltLt (by assumption) (by assumption)) (by assumption) | exact ltLt (ltTail (ltTail (by assumption))) (by assumption) | exact ltLt (ltLt (ltTail (ltTail (by assumption))) (by assumption)) (by assumption)) ?zw1 (by (repeat (first | exact StrsAre.nil | apply StrsAre.cons))) ?zz ?_; (case zf => k_asm); (case zx => k_asm); (case zw1 => first | assumption | exact WT.mono (by assumption) sub0); (case zz => (simp only [List.length_append, List.length_cons, List.length_nil]; omega))); clear S8)); intro q9 V9 h9 sub9; ((have sub8 := subTr sub0 sub9); (clear sub0); (have sub0 := sub8); (clear sub8); (repeat (rename WT _ _ _ _ => wt9; replace wt9 := WT.mono wt9 sub9; revert wt9)); (repeat (rename BD _ _ _ => wt9; replace wt9 := BD.mono wt9 sub9; revert wt9)); (repeat (rename PT _ _ _ _ => wt9; replace wt9 := PT.mono wt9 sub9; revert wt9)); (repeat (rename RefsAre _ _ _ => wt9; replace wt9 := RefsAre.mono wt9 sub9; revert wt9)); intros); (try clear sub9); (try dsimp only); (rename LSt _ _ _ _ _ _ _ _ _ _ _ _ _ => S8); have N8 := S8.N; (try k_sweep))) | (k_unfold; (try dsimp only)) | (walk1) | (dsimp only; walk1) | (leave1; try dsimp only))
        all_goals (try dsimp only)
        all_goals (rename Fr _ _ _ _ => FZ; ((rename LSt _ _ _ _ _ _ _ _ _ _ _ _ _ => S8); (rename News _ _ _ _ => N8); (first | (have S9 := refresh S8 N8) | (refine absorbXk S8 [_] N8 (by (repeat (refine List.forall_mem_cons.mpr ⟨(by dsimp only; first | assumption | first | assumption | exact allLt_all (by assumption) | exact allLt_all (And.right (by assumption)) | exact allLt_all (And.right (And.right (by assumption))) | exact allLt_all (And.right (And.right (And.right (by assumption)))) | exact allLt_all (And.right (And.right (And.right (And.right (by assumption))))) | exact allLt_all (And.right (And.right (And.right (And.right (And.right (by assumption)))))) | exact allLt_all (And.right (And.right (And.right (And.right (And.right (And.right (by assumption))))))) | exact allLt_all (And.right (And.right (And.right (And.right (And.right (And.right (And.right (by assumption)))))))) | exact allLt_all (And.right (And.right (And.right (And.right (And.right (And.right (And.right (And.right (by assumption))))))))) | exact ltSucc (by assumption) | exact ltLt (by assumption) (by assumption) | exact ltTail (by assumption) | exact ltTail (ltTail (by assumption)) | exact ltTail (ltTail (ltTail (by assumption))) | exact ltTail (ltTail (ltTail (ltTail (by assumption)))) | exact ltTail (ltTail (ltTail (ltTail (ltTail (by assumption))))) | exact ltLt (ltLt (by assumption) (by assumption)) (by assumption) | exact ltLt (ltTail (ltTail (by assumption))) (by assumption) | exact ltLt (ltLt (ltTail (ltTail (by assumption))) (by assumption)) (by assumption)), ?_⟩)); exact List.forall_mem_nil _) ?_; intro V9 S9 sub9; clear S8; ((have sub8 := subTr sub0 sub9); (clear sub0); (have sub0 := sub8); (clear sub8); (repeat (rename WT _ _ _ _ => wt9; replace wt9 := WT.mono wt9 sub9; revert wt9)); (repeat (rename BD _ _ _ => wt9; replace wt9 := BD.mono wt9 sub9; revert wt9)); (repeat (rename PT _ _ _ _ => wt9; replace wt9 := PT.mono wt9 sub9; revert wt9)); (repeat (rename RefsAre _ _ _ => wt9; replace wt9 := RefsAre.mono wt9 sub9; revert wt9)); intros); (rename LSt _ _ _ _ _ _ _ _ _ _ _ _ _ => S9)) | (refine absorbXk S8 [_, _] N8 (by (repeat (refine List.forall_mem_cons.mpr ⟨(by dsimp only; first | assumption | first | assumption | exact allLt_all (by assumption) | exact allLt_all (And.right (by assumption)) | exact allLt_all (And.right (And.right (by assumption))) | exact allLt_all (And.right (And.right (And.right (by assumption)))) | exact allLt_all (And.right (And.right (And.right (And.right (by assumption))))) | exact allLt_all (And.right (And.right (And.right (And.right (And.right (by assumption)))))) | exact allLt_all (And.right (And.right (And.right (And.right (And.right (And.right (by assumption))))))) | exact allLt_all (And.right (And.right (And.right (And.right (And.right (And.right (And.right (by assumption)))))))) | exact allLt_all (And.right (And.right (And.right (And.right (And.right (And.right (And.right (And.right (by assumption))))))))) | exact ltSucc (by assumption) | exact ltLt (by assumption) (by assumption) | exact ltTail (by assumption) | exact ltTail (ltTail (by assumption)) | exact ltTail (ltTail (ltTail (by assumption))) | exact ltTail (ltTail (ltTail (ltTail (by assumption)))) | exact ltTail (ltTail (ltTail (ltTail (ltTail (by assumption))))) | exact ltLt (ltLt (by assumption) (by assumption)) (by assumption) | exact ltLt (ltTail (ltTail (by assumption))) (by assumption) | exact ltLt (ltLt (ltTail (ltTail (by assumption))) (by assumption)) (by assumption)), ?_⟩)); exact List.forall_mem_nil _) ?_; intro V9 S9 sub9; clear S8; ((have sub8 := subTr sub0 sub9); (clear sub0); (have sub0 := sub8); (clear sub8); (repeat (rename WT _ _ _ _ => wt9; replace wt9 := WT.mono wt9 sub9; revert wt9)); (repeat (rename BD _ _ _ => wt9; replace wt9 := BD.mono wt9 sub9; revert wt9)); (repeat (rename PT _ _ _ _ => wt9; replace wt9 := PT.mono wt9 sub9; revert wt9)); (repeat (rename RefsAre _ _ _ => wt9; replace wt9 := RefsAre.mono wt9 sub9; revert wt9)); intros); (rename LSt _ _ _ _ _ _ _ _ _ _ _ _ _ => S9)) | (refine absorbXk S8 [_, _, _] N8 (by (repeat (refine List.forall_mem_cons.mpr ⟨(by dsimp only; first | assumption | first | assumption | exact allLt_all (by assumption) | exact allLt_all (And.right (by assumption)) | exact allLt_all (And.right (And.right (by assumption))) | exact allLt_all (And.right (And.right (And.right (by assumption)))) | exact allLt_all (And.right (And.right (And.right (And.right (by assumption))))) | exact allLt_all (And.right (And.right (And.right (And.right (And.right (by assumption)))))) | exact allLt_all (And.right (And.right (And.right (And.right (And.right (And.right (by assumption))))))) | exact allLt_all (And.right (And.right (And.right (And.right (And.right (And.right (And.right (by assumption)))))))) | exact allLt_all (And.right (And.right (And.right (And.right (And.right (And.right (And.right (And.right (by assumption))))))))) | exact ltSucc (by assumption) | exact ltLt (by assumption) (by assumption) | exact ltTail (by assumption) | exact ltTail (ltTail (by assumption)) | exact ltTail (ltTail (ltTail (by assumption))) | exact ltTail (ltTail (ltTail (ltTail (by assumption)))) | exact ltTail (ltTail (ltTail (ltTail (ltTail (by assumption))))) | exact ltLt (ltLt (by assumption) (by assumption)) (by assumption) | exact ltLt (ltTail (ltTail (by assumption))) (by assumption) | exact ltLt (ltLt (ltTail (ltTail (by assumption))) (by assumption)) (by assumption)), ?_⟩)); exact List.forall_mem_nil _) ?_; intro V9 S9 sub9; clear S8; ((have sub8 := subTr sub0 sub9); (clear sub0); (have sub0 := sub8); (clear sub8); (repeat (rename WT _ _ _ _ => wt9; replace wt9 := WT.mono wt9 sub9; revert wt9)); (repeat (rename BD _ _ _ => wt9; replace wt9 := BD.mono wt9 sub9; revert wt9)); (repeat (rename PT _ _ _ _ => wt9; replace wt9 := PT.mono wt9 sub9; revert wt9)); (repeat (rename RefsAre _ _ _ => wt9; replace wt9 := RefsAre.mono wt9 sub9; revert wt9)); intros); (rename LSt _ _ _ _ _ _ _ _ _ _ _ _ _ => S9))); (try clear S8)))
        · refine hQ1 _ ?_
          exact lc1_mk S9 FZ (by rfl) (by rfl) (by rfl) (by rfl) (by first | assumption | exact WT.mono (by assumption) sub0) (kv_ref (by k_asm) m9) (head_in' (by assumption) m9 (.tail _ (.head _)))
        · refine hQ1 _ ?_
          exact lc1_mk S9 FZ (by rfl) (by rfl) (by rfl) (by rfl) (by first | assumption | exact WT.mono (by assumption) sub0) (kv_ref (by k_asm) m9) (head_in' (by assumption) m9 (.head _))
        · refine hQ1 _ ?_
          exact lc1_mk S9 FZ (by rfl) (by rfl) (by rfl) (by rfl) (by first | assumption | exact WT.mono (by assumption) sub0) kv_none (.head _)
      case sB =>
        (try clear W9); (try clear N8); (try clear F8); (try clear S8)
        ((repeat (rename (_ ∧ _) => xc9; clear xc9)); (repeat (rename (∀ p ∈ (_ : List (Addr × Obj)), p.1 < _) => xc9; clear xc9)); (repeat (rename Fr _ _ _ _ => xc9; clear xc9)); (repeat (rename News _ _ _ _ => xc9; clear xc9)))
        intro s' hC
        refine LC1.elim (K := fun s' => wpAny _ _ _ _ _ s') hC ?_
        intro sq cq vs is c nc V at_ t ps m0 h tk qw tr kv hd S8 W8 K8 hh F8
        show wpAny _ _ _ _ _ _
        have N8 := S8.N
        have hlen := heads_len hh
        repeat' (first | ((with_reducible show wpAny _ _ (exec (Stmt.If _ _ _ _) _) _ _ _); refine wpAny_If ?_) | (k_unfold; (try dsimp only)) | ((fail_if_success (with_reducible show wpAny _ _ (execs (Stmt.For _ _ _ _ _ :: _) _) _ _ _)); walk1) | (dsimp only; (fail_if_success (with_reducible show wpAny _ _ (execs (Stmt.For _ _ _ _ _ :: _) _) _ _ _)); walk1) | (leave1; try dsimp only))
        -- C: the loop
        (rename LSt _ _ _ _ _ _ _ _ _ _ _ _ _ => S8)
        (rename News _ _ _ _ => N8)
        refine absorbBk S8 N8 (by first | assumption | first | assumption | exact allLt_all (by assumption) | exact allLt_all (And.right (by assumption)) | exact allLt_all (And.right (And.right (by assumption))) | exact allLt_all (And.right (And.right (And.right (by assumption)))) | exact allLt_all (And.right (And.right (And.right (And.right (by assumption))))) | exact allLt_all (And.right (And.right (And.right (And.right (And.right (by assumption)))))) | exact allLt_all (And.right (And.right (And.right (And.right (And.right (And.right (by assumption))))))) | exact allLt_all (And.right (And.right (And.right (And.right (And.right (And.right (And.right (by assumption)))))))) | exact allLt_all (And.right (And.right (And.right (And.right (And.right (And.right (And.right (And.right (by assumption))))))))) | exact ltSucc (by assumption) | exact ltLt (by assumption) (by assumption) | exact ltTail (by assumption) | exact ltTail (ltTail (by assumption)) | exact ltTail (ltTail (ltTail (by assumption))) | exact ltTail (ltTail (ltTail (ltTail (by assumption)))) | exact ltTail (ltTail (ltTail (ltTail (ltTail (by assumption))))) | exact ltLt (ltLt (by assumption) (by assumption)) (by assumption) | exact ltLt (ltTail (ltTail (by assumption))) (by assumption) | exact ltLt (ltLt (ltTail (ltTail (by assumption))) (by assumption)) (by assumption)) ?_
        intro V9 S9 sub9 B9
        clear S8 N8
        have S8 := S9
        clear S9
        have W8 := WT.mono W8 sub9
        clear sub9
        have N8 := S8.N
        (try k_sweep)
        (try dsimp only)
        refine execs_cutN (LC3 w.params s₁ (ghostOf s₁.heap [(236, 232)]) s₁.heap.objs.size) ?sC ?hC
        case hC =>
          intro Q1 hQ1
          repeat' (first | ((with_reducible show wpAny _ _ (exec (Stmt.If _ _ _ _) _) _ _ _); refine wpAny_If ?_) | ((fail_if_success (with_reducible show ItemsRest _ _ _ _ _ _ _ _ _ _ _ _ _ _ _)); ((with_reducible show wpAny _ _ (pyIter (Value.ref _)) (fun it s₂ => TurnsAt _ _ _ _ _ _ _ _ _ it s₂) _ _); (with_unfolding_all refine' iter_tupTurns ?zhh ?zf ?zn ?zm ?zc ?zd ?_; (case zhh => exact rfl); (case zf => k_asm); (case zn => k_asm); (case zm => first | exact List.Mem.head _ | exact List.Mem.tail _ (List.Mem.head _) | exact List.Mem.tail _ (List.Mem.tail _ (List.Mem.head _)) | exact List.Mem.tail _ (List.Mem.tail _ (List.Mem.tail _ (List.Mem.head _))) | exact List.Mem.tail _ (List.Mem.tail _ (List.Mem.tail _ (List.Mem.tail _ (List.Mem.head _)))) | exact List.Mem.tail _ (List.Mem.tail _ (List.Mem.tail _ (List.Mem.tail _ (List.Mem.tail _ (List.Mem.head _))))) | exact List.Mem.tail _ (List.Mem.tail _ (List.Mem.tail _ (List.Mem.tail _ (List.Mem.tail _ (List.Mem.tail _ (List.Mem.head _)))))) | exact List.Mem.tail _ (List.Mem.tail _ (List.Mem.tail _ (List.Mem.tail _ (List.Mem.tail _ (List.Mem.tail _ (List.Mem.tail _ (List.Mem.head _))))))) | exact List.Mem.tail _ (List.Mem.tail _ (List.Mem.tail _ (List.Mem.tail _ (List.Mem.tail _ (List.Mem.tail _ (List.Mem.tail _ (List.Mem.tail _ (List.Mem.head _)))))))) | exact List.Mem.tail _ (List.Mem.tail _ (List.Mem.tail _ (List.Mem.tail _ (List.Mem.tail _ (List.Mem.tail _ (List.Mem.tail _ (List.Mem.tail _ (List.Mem.tail _ (List.Mem.head _)))))))))); (case zc => exact rfl); (case zd => exact rfl)); intro i9ζ l9ζ; (try k_lt l9ζ))) | (k_unfold; (try dsimp only)) | ((fail_if_success (with_reducible show ItemsRest _ _ _ _ _ _ _ _ _ _ _ _ _ _ _)); walk1) | (dsimp only; (fail_if_success (with_reducible show ItemsRest _ _ _ _ _ _ _ _ _ _ _ _ _ _ _)); walk1) | (leave1; try dsimp only))
          have l9 := (by assumption : _ < _ ∧ _ < _ ∧ _ < _ ∧ _ < _ ∧ _ < _ ∧ AllLt _ _)
          have hI := allLt_all l9.2.2.2.2.2
          clear l9
          (rename News _ _ _ _ => N8)
          (try dsimp only)
          refine law_loop (P := w.params) rfl S8 N8 (by first | exact ht5 (by assumption) (by assumption) (by assumption) (by assumption) (by assumption) | exact (by (repeat (refine List.forall_mem_cons.mpr ⟨(by dsimp only; first | assumption | first | assumption | exact allLt_all (by assumption) | exact allLt_all (And.right (by assumption)) | exact allLt_all (And.right (And.right (by assumption))) | exact allLt_all (And.right (And.right (And.right (by assumption)))) | exact allLt_all (And.right (And.right (And.right (And.right (by assumption))))) | exact allLt_all (And.right (And.right (And.right (And.right (And.right (by assumption)))))) | exact allLt_all (And.right (And.right (And.right (And.right (And.right (And.right (by assumption))))))) | exact allLt_all (And.right (And.right (And.right (And.right (And.right (And.right (And.right (by assumption)))))))) | exact allLt_all (And.right (And.right (And.right (And.right (And.right (And.right (And.right (And.right (by assumption))))))))) | exact ltSucc (by assumption) | exact ltLt (by assumption) (by assumption) | exact ltTail (by assumption) | exact ltTail (ltTail (by assumption)) | exact ltTail (ltTail (ltTail (by assumption))) | exact ltTail (ltTail (ltTail (ltTail (by assumption)))) | exact ltTail (ltTail (ltTail (ltTail (ltTail (by assumption))))) | exact ltLt (ltLt (by assumption) (by assumption)) (by assumption) | exact ltLt (ltTail (ltTail (by assumption))) (by assumption) | exact ltLt (ltLt (ltTail (ltTail (by assumption))) (by assumption)) (by assumption)), ?_⟩)); exact List.forall_mem_nil _)) hI (by assumption) (by assumption) ?h1 ?h2 s₁ (fun _ _ => rfl) ?hend
          case hend =>
            intro h tk hC
            exact hQ1 _ hC
          case h1 =>
            (try clear hI); (try clear S8); (try clear N8); (try clear W8); (try clear B9)
            ((repeat (rename (_ ∧ _) => xc9; clear xc9)); (repeat (rename (∀ p ∈ (_ : List (Addr × Obj)), p.1 < _) => xc9; clear xc9)); (repeat (rename Fr _ _ _ _ => xc9; clear xc9)); (repeat (rename News _ _ _ _ => xc9; clear xc9)))
            intro W t1 t3 h tk o ho i1 i2 MI M1 P3 WN P1 W0 W8 B8 S8 F8 Q1 hQ1
            (refine freshVk S8 ?_; intro V0 S0 sub0; clear S8; have S8 := S0; clear S0; have N8 := S8.N)
            repeat' (first | ((with_reducible show wpAny _ _ (exec (Stmt.If _ _ _ _) _) _ _ _); refine wpAny_If ?_) | (((with_reducible show wpAny _ _ (call (Value.ref 568) [Value.ref _, Value.ref 617]) _ _ _); ((rename LSt _ _ _ _ _ _ _ _ _ _ _ _ _ => S8); (rename News _ _ _ _ => N8); have S9 := refresh S8 N8; clear S8); (first | (k_dflt (refine' heard_bad S9 ?zb ?zf ?zx ?zt ?zhk ?zxb ?zyb ?zc ?zu ?zd ?zw (bad1 hh (.head _)) ?_; (case zb => k_asm); (case zf => k_asm); (case zx => k_asm); (case zt => k_asm); (case zhk => exact rfl); (case zxb => k_asm); (case zyb => k_asm); (case zc => exact codeHd); (case zu => decide); (case zd => ktr_room); (case zw => first | assumption | exact WT.mono (by assumption) sub0))) | (k_dflt (refine' heard_bad S9 ?zb ?zf ?zx ?zt ?zhk ?zxb ?zyb ?zc ?zu ?zd ?zw (bad1 hh (.tail _ (.head _))) ?_; (case zb => k_asm); (case zf => k_asm); (case zx => k_asm); (case zt => k_asm); (case zhk => exact rfl); (case zxb => k_asm); (case zyb => k_asm); (case zc => exact codeHd); (case zu => decide); (case zd => ktr_room); (case zw => first | assumption | exact WT.mono (by assumption) sub0)))); clear S9; intro t9 h9 tk9 ps9 F9 S8; (try clear sub9); (try dsimp only); (rename LSt _ _ _ _ _ _ _ _ _ _ _ _ _ => S8); have N8 := S8.N; (try k_sweep))) | (((with_reducible show wpAny _ _ (call (Value.ref 508) [Value.ref _, _]) _ _ _); ((rename LSt _ _ _ _ _ _ _ _ _ _ _ _ _ => S8); (rename News _ _ _ _ => N8); have S9 := refresh S8 N8; clear S8); k_dflt (refine' draw_LS S9 ?zb ?zf ?zx ?zt ?zhk ?zd ?zhl ?_; (case zb => k_asm); (case zf => k_asm); (case zx => k_asm); (case zt => k_asm); (case zhk => exact rfl); (case zd => ktr_room); (case zhl => decide)); clear S9; intro i9 ti9 t9 h9 tk9 g9 l9 F9 S8; (try clear sub9); (try dsimp only); (rename LSt _ _ _ _ _ _ _ _ _ _ _ _ _ => S8); have N8 := S8.N; (try k_sweep))) | (((with_reducible show wpAny _ _ (assign (Expr.Tuple _ _ _) _ (Value.ref _)) _ _ _); ((rename LSt _ _ _ _ _ _ _ _ _ _ _ _ _ => S8); (rename News _ _ _ _ => N8); have S9 := refresh S8 N8; clear S8); k_dflt (refine' unpackN_ ?zF ?zN ?zT ?zk1 ?zk2 ?zk3 ?_; (case zF => k_asm); (case zN => exact S9.N); (case zT => exact pt_is S9 (by k_asm) (by k_asm) (by first | assumption | exact PT.mono (by assumption) sub0)); (case zk1 => exact rfl); (case zk2 => exact rfl); (case zk3 => exact rfl); k_whole); intro h' F' N'; (try k_sweep))) | (((with_reducible show wpAny _ _ (binaryOp _ (Value.ref _) (Value.ref _)) _ _ _); (rename LSt _ _ _ _ _ _ _ _ _ _ _ _ _ => S8); (rename News _ _ _ _ => N8); (first | (have S9 := refresh S8 N8; clear S8; k_dflt (refine' wordsAdd S9 ?zf ?zx ?zw1 ?zw2 ?zz ?_; (case zf => k_asm); (case zx => k_asm); (case zw1 => first | assumption | exact WT.mono (by assumption) sub0); (case zw2 => first | assumption | exact WT.mono (by assumption) sub0); (case zz => (simp only [List.length_append, List.length_cons, List.length_nil]; omega))); clear S9) | (k_dflt (refine' wordsAddL S8 ?zf ?zx N8 (by first | assumption | first | assumption | exact allLt_all (by assumption) | exact allLt_all (And.right (by assumption)) | exact allLt_all (And.right (And.right (by assumption))) | exact allLt_all (And.right (And.right (And.right (by assumption)))) | exact allLt_all (And.right (And.right (And.right (And.right (by assumption))))) | exact allLt_all (And.right (And.right (And.right (And.right (And.right (by assumption)))))) | exact allLt_all (And.right (And.right (And.right (And.right (And.right (And.right (by assumption))))))) | exact allLt_all (And.right (And.right (And.right (And.right (And.right (And.right (And.right (by assumption)))))))) | exact allLt_all (And.right (And.right (And.right (And.right (And.right (And.right (And.right (And.right (by assumption))))))))) | exact ltSucc (by assumption) | exact ltLt (by assumption) (by assumption) | exact ltTail (by assumption) | exact ltTail (ltTail (by assumption)) | exact ltTail (ltTail (ltTail (by assumption))) | exact ltTail (ltTail (ltTail (ltTail (by assumption)))) | exact ltTail (ltTail (ltTail (ltTail (ltTail (by assumption))))) | exact ltLt (ltLt (by assumption) (by assumption)) (by assumption) | exact ltLt (ltTail (ltTail (by assumption))) (by assumption) | exact ltLt (ltLt (ltTail (ltTail (by assumption))) (by assumption)) (by assumption)) ?zw1 (by (repeat (first | exact StrsAre.nil | apply StrsAre.cons))) ?zz ?_; (case zf => k_asm); (case zx => k_asm); (case zw1 => first | assumption | exact WT.mono (by assumption) sub0); (case zz => (simp only [List.length_append, List.length_cons, List.length_nil]; omega))); clear S8)); intro q9 V9 h9 sub9; ((have sub8 := subTr sub0 sub9); (clear sub0); (have sub0 := sub8); (clear sub8); (repeat (rename WT _ _ _ _ => wt9; replace wt9 := WT.mono wt9 sub9; revert wt9)); (repeat (rename BD _ _ _ => wt9; replace wt9 := BD.mono wt9 sub9; revert wt9)); (repeat (rename PT _ _ _ _ => wt9; replace wt9 := PT.mono wt9 sub9; revert wt9)); (repeat (rename RefsAre _ _ _ => wt9; replace wt9 := RefsAre.mono wt9 sub9; revert wt9)); intros); (try clear sub9); (try dsimp only); (rename LSt _ _ _ _ _ _ _ _ _ _ _ _ _ => S8); have N8 := S8.N; (try k_sweep))) | (((with_reducible show wpAny _ _ (binaryOp _ (Value.ref _) (Value.ref _)) _ _ _); (rename LSt _ _ _ _ _ _ _ _ _ _ _ _ _ => S8); (rename News _ _ _ _ => N8); (k_dflt (refine' bdAddL (ds2 := [dBr "invalid"]) [_, _, _] S8 ?zf N8 (ht4 (by assumption) (by assumption) (by assumption) (by assumption)) ?zw1 (by (repeat (first | assumption | exact DatAll.nil | (refine DatAll.cons ?_ ?_) | exact DatIn.str _ _ | exact DatIn.int _ _ | exact DatIn.none | exact DatIn.bool _ | refine DatIn.tuple (List.Mem.head _) ?_ | refine DatIn.tuple (List.Mem.tail _ (List.Mem.head _)) ?_ | refine DatIn.tuple (List.Mem.tail _ (List.Mem.tail _ (List.Mem.head _))) ?_ | refine DatIn.tuple (List.Mem.tail _ (List.Mem.tail _ (List.Mem.tail _ (List.Mem.head _)))) ?_ | refine DatIn.tuple (List.Mem.tail _ (List.Mem.tail _ (List.Mem.tail _ (List.Mem.tail _ (List.Mem.head _))))) ?_ | refine DatIn.tuple (List.Mem.tail _ (List.Mem.tail _ (List.Mem.tail _ (List.Mem.tail _ (List.Mem.tail _ (List.Mem.head _)))))) ?_ | refine DatIn.tuple (List.Mem.tail _ (List.Mem.tail _ (List.Mem.tail _ (List.Mem.tail _ (List.Mem.tail _ (List.Mem.tail _ (List.Mem.head _))))))) ?_ | refine DatIn.tuple (List.Mem.tail _ (List.Mem.tail _ (List.Mem.tail _ (List.Mem.tail _ (List.Mem.tail _ (List.Mem.tail _ (List.Mem.tail _ (List.Mem.head _)))))))) ?_))) ?zz ?_; (case zf => k_asm); (case zw1 => first | assumption | exact BD.mono (by assumption) sub0); (case zz => (simp only [List.length_append, List.length_cons, List.length_nil]; omega))); clear S8); intro q9 V9 h9 sub9; ((have sub8 := subTr sub0 sub9); (clear sub0); (have sub0 := sub8); (clear sub8); (repeat (rename WT _ _ _ _ => wt9; replace wt9 := WT.mono wt9 sub9; revert wt9)); (repeat (rename BD _ _ _ => wt9; replace wt9 := BD.mono wt9 sub9; revert wt9)); (repeat (rename PT _ _ _ _ => wt9; replace wt9 := PT.mono wt9 sub9; revert wt9)); (repeat (rename RefsAre _ _ _ => wt9; replace wt9 := RefsAre.mono wt9 sub9; revert wt9)); intros); (try clear sub9); (try dsimp only); (rename LSt _ _ _ _ _ _ _ _ _ _ _ _ _ => S8); have N8 := S8.N; (try k_sweep))) | (((with_reducible show wpAny _ _ (call (Value.builtin _) [Value.ref _]) _ _ _); ((rename LSt _ _ _ _ _ _ _ _ _ _ _ _ _ => S8); (rename News _ _ _ _ => N8); have S9 := refresh S8 N8; clear S8); k_dflt (refine' wt_len S9 ?zf ?zx ?zw ?zz ?_; (case zf => k_asm); (case zx => k_asm); (case zw => first | assumption | exact WT.mono (by assumption) sub0); (case zz => (simp only [List.length_append, List.length_cons, List.length_nil]; omega))); have N8 := S9.N)) | (k_unfold; (try dsimp only)) | (walk1) | (dsimp only; walk1) | (leave1; try dsimp only))
            all_goals (first | (exfalso; exact (by assumption : _ ≠ _) rfl) | skip)
            all_goals (try dsimp only)
            all_goals (rename Fr _ _ _ _ => FZ; ((rename LSt _ _ _ _ _ _ _ _ _ _ _ _ _ => S8); (rename News _ _ _ _ => N8); (first | (have S9 := refresh S8 N8) | (refine absorbXk S8 [_] N8 (by (repeat (refine List.forall_mem_cons.mpr ⟨(by dsimp only; first | assumption | first | assumption | exact allLt_all (by assumption) | exact allLt_all (And.right (by assumption)) | exact allLt_all (And.right (And.right (by assumption))) | exact allLt_all (And.right (And.right (And.right (by assumption)))) | exact allLt_all (And.right (And.right (And.right (And.right (by assumption))))) | exact allLt_all (And.right (And.right (And.right (And.right (And.right (by assumption)))))) | exact allLt_all (And.right (And.right (And.right (And.right (And.right (And.right (by assumption))))))) | exact allLt_all (And.right (And.right (And.right (And.right (And.right (And.right (And.right (by assumption)))))))) | exact allLt_all (And.right (And.right (And.right (And.right (And.right (And.right (And.right (And.right (by assumption))))))))) | exact ltSucc (by assumption) | exact ltLt (by assumption) (by assumption) | exact ltTail (by assumption) | exact ltTail (ltTail (by assumption)) | exact ltTail (ltTail (ltTail (by assumption))) | exact ltTail (ltTail (ltTail (ltTail (by assumption)))) | exact ltTail (ltTail (ltTail (ltTail (ltTail (by assumption))))) | exact ltLt (ltLt (by assumption) (by assumption)) (by assumption) | exact ltLt (ltTail (ltTail (by assumption))) (by assumption) | exact ltLt (ltLt (ltTail (ltTail (by assumption))) (by assumption)) (by assumption)), ?_⟩)); exact List.forall_mem_nil _) ?_; intro V9 S9 sub9; clear S8; ((have sub8 := subTr sub0 sub9); (clear sub0); (have sub0 := sub8); (clear sub8); (repeat (rename WT _ _ _ _ => wt9; replace wt9 := WT.mono wt9 sub9; revert wt9)); (repeat (rename BD _ _ _ => wt9; replace wt9 := BD.mono wt9 sub9; revert wt9)); (repeat (rename PT _ _ _ _ => wt9; replace wt9 := PT.mono wt9 sub9; revert wt9)); (repeat (rename RefsAre _ _ _ => wt9; replace wt9 := RefsAre.mono wt9 sub9; revert wt9)); intros); (rename LSt _ _ _ _ _ _ _ _ _ _ _ _ _ => S9)) | (refine absorbXk S8 [_, _] N8 (by (repeat (refine List.forall_mem_cons.mpr ⟨(by dsimp only; first | assumption | first | assumption | exact allLt_all (by assumption) | exact allLt_all (And.right (by assumption)) | exact allLt_all (And.right (And.right (by assumption))) | exact allLt_all (And.right (And.right (And.right (by assumption)))) | exact allLt_all (And.right (And.right (And.right (And.right (by assumption))))) | exact allLt_all (And.right (And.right (And.right (And.right (And.right (by assumption)))))) | exact allLt_all (And.right (And.right (And.right (And.right (And.right (And.right (by assumption))))))) | exact allLt_all (And.right (And.right (And.right (And.right (And.right (And.right (And.right (by assumption)))))))) | exact allLt_all (And.right (And.right (And.right (And.right (And.right (And.right (And.right (And.right (by assumption))))))))) | exact ltSucc (by assumption) | exact ltLt (by assumption) (by assumption) | exact ltTail (by assumption) | exact ltTail (ltTail (by assumption)) | exact ltTail (ltTail (ltTail (by assumption))) | exact ltTail (ltTail (ltTail (ltTail (by assumption)))) | exact ltTail (ltTail (ltTail (ltTail (ltTail (by assumption))))) | exact ltLt (ltLt (by assumption) (by assumption)) (by assumption) | exact ltLt (ltTail (ltTail (by assumption))) (by assumption) | exact ltLt (ltLt (ltTail (ltTail (by assumption))) (by assumption)) (by assumption)), ?_⟩)); exact List.forall_mem_nil _) ?_; intro V9 S9 sub9; clear S8; ((have sub8 := subTr sub0 sub9); (clear sub0); (have sub0 := sub8); (clear sub8); (repeat (rename WT _ _ _ _ => wt9; replace wt9 := WT.mono wt9 sub9; revert wt9)); (repeat (rename BD _ _ _ => wt9; replace wt9 := BD.mono wt9 sub9; revert wt9)); (repeat (rename PT _ _ _ _ => wt9; replace wt9 := PT.mono wt9 sub9; revert wt9)); (repeat (rename RefsAre _ _ _ => wt9; replace wt9 := RefsAre.mono wt9 sub9; revert wt9)); intros); (rename LSt _ _ _ _ _ _ _ _ _ _ _ _ _ => S9)) | (refine absorbXk S8 [_, _, _] N8 (by (repeat (refine List.forall_mem_cons.mpr ⟨(by dsimp only; first | assumption | first | assumption | exact allLt_all (by assumption) | exact allLt_all (And.right (by assumption)) | exact allLt_all (And.right (And.right (by assumption))) | exact allLt_all (And.right (And.right (And.right (by assumption)))) | exact allLt_all (And.right (And.right (And.right (And.right (by assumption))))) | exact allLt_all (And.right (And.right (And.right (And.right (And.right (by assumption)))))) | exact allLt_all (And.right (And.right (And.right (And.right (And.right (And.right (by assumption))))))) | exact allLt_all (And.right (And.right (And.right (And.right (And.right (And.right (And.right (by assumption)))))))) | exact allLt_all (And.right (And.right (And.right (And.right (And.right (And.right (And.right (And.right (by assumption))))))))) | exact ltSucc (by assumption) | exact ltLt (by assumption) (by assumption) | exact ltTail (by assumption) | exact ltTail (ltTail (by assumption)) | exact ltTail (ltTail (ltTail (by assumption))) | exact ltTail (ltTail (ltTail (ltTail (by assumption)))) | exact ltTail (ltTail (ltTail (ltTail (ltTail (by assumption))))) | exact ltLt (ltLt (by assumption) (by assumption)) (by assumption) | exact ltLt (ltTail (ltTail (by assumption))) (by assumption) | exact ltLt (ltLt (ltTail (ltTail (by assumption))) (by assumption)) (by assumption)), ?_⟩)); exact List.forall_mem_nil _) ?_; intro V9 S9 sub9; clear S8; ((have sub8 := subTr sub0 sub9); (clear sub0); (have sub0 := sub8); (clear sub8); (repeat (rename WT _ _ _ _ => wt9; replace wt9 := WT.mono wt9 sub9; revert wt9)); (repeat (rename BD _ _ _ => wt9; replace wt9 := BD.mono wt9 sub9; revert wt9)); (repeat (rename PT _ _ _ _ => wt9; replace wt9 := PT.mono wt9 sub9; revert wt9)); (repeat (rename RefsAre _ _ _ => wt9; replace wt9 := RefsAre.mono wt9 sub9; revert wt9)); intros); (rename LSt _ _ _ _ _ _ _ _ _ _ _ _ _ => S9))); (try clear S8)))
            · refine hQ1 _ ?_
              exact turn_end S9 FZ (MT.mono MI sub0) ho i2 (lcm_mk (([Str.ofString "INVALID"] ++ [Str.ofString "KEY"]) ++ [Str.ofString "CONTINUE"], [dBr "invalid"]) S9 ⟨i1, i2⟩ (by rfl) (by rfl) (by rfl) (by rfl) (by rfl) (MT.mono M1 sub0) (PT.mono P3 sub0) (WT.mono WN sub0) (by assumption) hh (by first | assumption | exact WT.mono (by assumption) sub0) (by simp) (by first | assumption | exact BD.mono (by assumption) sub0) (by rfl) (.tail _ (.tail _ (.head _))))
            · refine hQ1 _ ?_
              exact turn_end S9 FZ (MT.mono MI sub0) ho i2 (lcm_mk (([Str.ofString "INVALID"] ++ []) ++ [Str.ofString "CONTINUE"], [dBr "invalid"]) S9 ⟨i1, i2⟩ (by rfl) (by rfl) (by rfl) (by rfl) (by rfl) (MT.mono M1 sub0) (PT.mono P3 sub0) (WT.mono WN sub0) (by assumption) hh (by first | assumption | exact WT.mono (by assumption) sub0) (by simp) (by first | assumption | exact BD.mono (by assumption) sub0) (by rfl) (.tail _ (.head _)))
            · refine hQ1 _ ?_
              exact turn_end S9 FZ (MT.mono MI sub0) ho i2 (lcm_mk ([], []) S9 ⟨i1, i2⟩ (by rfl) (by rfl) (by rfl) (by rfl) (by rfl) (MT.mono M1 sub0) (PT.mono P3 sub0) (WT.mono WN sub0) (by assumption) hh (by first | assumption | exact WT.mono (by assumption) sub0) (by simp) (by first | assumption | exact BD.mono (by assumption) sub0) (by rfl) (.head _))
          case h2 =>
            (try clear hI); (try clear S8); (try clear N8); (try clear W8); (try clear B9)
            ((repeat (rename (_ ∧ _) => xc9; clear xc9)); (repeat (rename (∀ p ∈ (_ : List (Addr × Obj)), p.1 < _) => xc9; clear xc9)); (repeat (rename Fr _ _ _ _ => xc9; clear xc9)); (repeat (rename News _ _ _ _ => xc9; clear xc9)))
            intro sq cq vs is c nc V at_ t tt ps m0 qw tr kv bv hd a h tk o ho i1 i2 MI M1 P3 WN W8 K8 B8 hh ha S8 F8 Q1 hQ1
            obtain ⟨qb, rfl⟩ := BD.ref B8
            (refine freshVk S8 ?_; intro V0 S0 sub0; clear S8; have S8 := S0; clear S0; have N8 := S8.N)
            have hlen := heads_len hh
            have hla := (t1_len ha).1
            have hlb := (t1_len ha).2
            repeat' (first | ((with_reducible show wpAny _ _ (exec (Stmt.If _ _ _ _) _) _ _ _); refine wpAny_If ?_) | (((with_reducible show wpAny _ _ (call (Value.ref 568) [Value.ref _, Value.ref 617]) _ _ _); ((rename LSt _ _ _ _ _ _ _ _ _ _ _ _ _ => S8); (rename News _ _ _ _ => N8); have S9 := refresh S8 N8; clear S8); (first | (k_dflt (refine' heard_bad S9 ?zb ?zf ?zx ?zt ?zhk ?zxb ?zyb ?zc ?zu ?zd ?zw (bad2 hh ha (.head _)) ?_; (case zb => k_asm); (case zf => k_asm); (case zx => k_asm); (case zt => k_asm); (case zhk => exact rfl); (case zxb => k_asm); (case zyb => k_asm); (case zc => exact codeHd); (case zu => decide); (case zd => ktr_room); (case zw => first | assumption | exact WT.mono (by assumption) sub0))) | (k_dflt (refine' heard_bad S9 ?zb ?zf ?zx ?zt ?zhk ?zxb ?zyb ?zc ?zu ?zd ?zw (bad2 hh ha (.tail _ (.head _))) ?_; (case zb => k_asm); (case zf => k_asm); (case zx => k_asm); (case zt => k_asm); (case zhk => exact rfl); (case zxb => k_asm); (case zyb => k_asm); (case zc => exact codeHd); (case zu => decide); (case zd => ktr_room); (case zw => first | assumption | exact WT.mono (by assumption) sub0)))); clear S9; intro t9 h9 tk9 ps9 F9 S8; (try clear sub9); (try dsimp only); (rename LSt _ _ _ _ _ _ _ _ _ _ _ _ _ => S8); have N8 := S8.N; (try k_sweep))) | (((with_reducible show wpAny _ _ (call (Value.ref 508) [Value.ref _, _]) _ _ _); ((rename LSt _ _ _ _ _ _ _ _ _ _ _ _ _ => S8); (rename News _ _ _ _ => N8); have S9 := refresh S8 N8; clear S8); k_dflt (refine' draw_LS S9 ?zb ?zf ?zx ?zt ?zhk ?zd ?zhl ?_; (case zb => k_asm); (case zf => k_asm); (case zx => k_asm); (case zt => k_asm); (case zhk => exact rfl); (case zd => ktr_room); (case zhl => decide)); clear S9; intro i9 ti9 t9 h9 tk9 g9 l9 F9 S8; (try clear sub9); (try dsimp only); (rename LSt _ _ _ _ _ _ _ _ _ _ _ _ _ => S8); have N8 := S8.N; (try k_sweep))) | (((with_reducible show wpAny _ _ (assign (Expr.Tuple _ _ _) _ (Value.ref _)) _ _ _); ((rename LSt _ _ _ _ _ _ _ _ _ _ _ _ _ => S8); (rename News _ _ _ _ => N8); have S9 := refresh S8 N8; clear S8); k_dflt (refine' unpackN_ ?zF ?zN ?zT ?zk1 ?zk2 ?zk3 ?_; (case zF => k_asm); (case zN => exact S9.N); (case zT => exact pt_is S9 (by k_asm) (by k_asm) (by first | assumption | exact PT.mono (by assumption) sub0)); (case zk1 => exact rfl); (case zk2 => exact rfl); (case zk3 => exact rfl); k_whole); intro h' F' N'; (try k_sweep))) | (((with_reducible show wpAny _ _ (binaryOp _ (Value.ref _) (Value.ref _)) _ _ _); (rename LSt _ _ _ _ _ _ _ _ _ _ _ _ _ => S8); (rename News _ _ _ _ => N8); (first | (have S9 := refresh S8 N8; clear S8; k_dflt (refine' wordsAdd S9 ?zf ?zx ?zw1 ?zw2 ?zz ?_; (case zf => k_asm); (case zx => k_asm); (case zw1 => first | assumption | exact WT.mono (by assumption) sub0); (case zw2 => first | assumption | exact WT.mono (by assumption) sub0); (case zz => (simp only [List.length_append, List.length_cons, List.length_nil]; omega))); clear S9) | (k_dflt (refine' wordsAddL S8 ?zf ?zx N8 (by first | assumption | first | assumption | exact allLt_all (by assumption) | exact allLt_all (And.right (by assumption)) | exact allLt_all (And.right (And.right (by assumption))) | exact allLt_all (And.right (And.right (And.right (by assumption)))) | exact allLt_all (And.right (And.right (And.right (And.right (by assumption))))) | exact allLt_all (And.right (And.right (And.right (And.right (And.right (by assumption)))))) | exact allLt_all (And.right (And.right (And.right (And.right (And.right (And.right (by assumption))))))) | exact allLt_all (And.right (And.right (And.right (And.right (And.right (And.right (And.right (by assumption)))))))) | exact allLt_all (And.right (And.right (And.right (And.right (And.right (And.right (And.right (And.right (by assumption))))))))) | exact ltSucc (by assumption) | exact ltLt (by assumption) (by assumption) | exact ltTail (by assumption) | exact ltTail (ltTail (by assumption)) | exact ltTail (ltTail (ltTail (by assumption))) | exact ltTail (ltTail (ltTail (ltTail (by assumption)))) | exact ltTail (ltTail (ltTail (ltTail (ltTail (by assumption))))) | exact ltLt (ltLt (by assumption) (by assumption)) (by assumption) | exact ltLt (ltTail (ltTail (by assumption))) (by assumption) | exact ltLt (ltLt (ltTail (ltTail (by assumption))) (by assumption)) (by assumption)) ?zw1 (by (repeat (first | exact StrsAre.nil | apply StrsAre.cons))) ?zz ?_; (case zf => k_asm); (case zx => k_asm); (case zw1 => first | assumption | exact WT.mono (by assumption) sub0); (case zz => (simp only [List.length_append, List.length_cons, List.length_nil]; omega))); clear S8)); intro q9 V9 h9 sub9; ((have sub8 := subTr sub0 sub9); (clear sub0); (have sub0 := sub8); (clear sub8); (repeat (rename WT _ _ _ _ => wt9; replace wt9 := WT.mono wt9 sub9; revert wt9)); (repeat (rename BD _ _ _ => wt9; replace wt9 := BD.mono wt9 sub9; revert wt9)); (repeat (rename PT _ _ _ _ => wt9; replace wt9 := PT.mono wt9 sub9; revert wt9)); (repeat (rename RefsAre _ _ _ => wt9; replace wt9 := RefsAre.mono wt9 sub9; revert wt9)); intros); (try clear sub9); (try dsimp only); (rename LSt _ _ _ _ _ _ _ _ _ _ _ _ _ => S8); have N8 := S8.N; (try k_sweep))) | (((with_reducible show wpAny _ _ (binaryOp _ (Value.ref _) (Value.ref _)) _ _ _); (rename LSt _ _ _ _ _ _ _ _ _ _ _ _ _ => S8); (rename News _ _ _ _ => N8); (k_dflt (refine' bdAddL (ds2 := [dBr "not invalid"]) [_, _, _] S8 ?zf N8 (ht4 (by assumption) (by assumption) (by assumption) (by assumption)) ?zw1 (by (repeat (first | assumption | exact DatAll.nil | (refine DatAll.cons ?_ ?_) | exact DatIn.str _ _ | exact DatIn.int _ _ | exact DatIn.none | exact DatIn.bool _ | refine DatIn.tuple (List.Mem.head _) ?_ | refine DatIn.tuple (List.Mem.tail _ (List.Mem.head _)) ?_ | refine DatIn.tuple (List.Mem.tail _ (List.Mem.tail _ (List.Mem.head _))) ?_ | refine DatIn.tuple (List.Mem.tail _ (List.Mem.tail _ (List.Mem.tail _ (List.Mem.head _)))) ?_ | refine DatIn.tuple (List.Mem.tail _ (List.Mem.tail _ (List.Mem.tail _ (List.Mem.tail _ (List.Mem.head _))))) ?_ | refine DatIn.tuple (List.Mem.tail _ (List.Mem.tail _ (List.Mem.tail _ (List.Mem.tail _ (List.Mem.tail _ (List.Mem.head _)))))) ?_ | refine DatIn.tuple (List.Mem.tail _ (List.Mem.tail _ (List.Mem.tail _ (List.Mem.tail _ (List.Mem.tail _ (List.Mem.tail _ (List.Mem.head _))))))) ?_ | refine DatIn.tuple (List.Mem.tail _ (List.Mem.tail _ (List.Mem.tail _ (List.Mem.tail _ (List.Mem.tail _ (List.Mem.tail _ (List.Mem.tail _ (List.Mem.head _)))))))) ?_))) ?zz ?_; (case zf => k_asm); (case zw1 => first | assumption | exact BD.mono (by assumption) sub0); (case zz => (simp only [List.length_append, List.length_cons, List.length_nil]; omega))); clear S8); intro q9 V9 h9 sub9; ((have sub8 := subTr sub0 sub9); (clear sub0); (have sub0 := sub8); (clear sub8); (repeat (rename WT _ _ _ _ => wt9; replace wt9 := WT.mono wt9 sub9; revert wt9)); (repeat (rename BD _ _ _ => wt9; replace wt9 := BD.mono wt9 sub9; revert wt9)); (repeat (rename PT _ _ _ _ => wt9; replace wt9 := PT.mono wt9 sub9; revert wt9)); (repeat (rename RefsAre _ _ _ => wt9; replace wt9 := RefsAre.mono wt9 sub9; revert wt9)); intros); (try clear sub9); (try dsimp only); (rename LSt _ _ _ _ _ _ _ _ _ _ _ _ _ => S8); have N8 := S8.N; (try k_sweep))) | (((with_reducible show wpAny _ _ (call (Value.builtin _) [Value.ref _]) _ _ _); ((rename LSt _ _ _ _ _ _ _ _ _ _ _ _ _ => S8); (rename News _ _ _ _ => N8); have S9 := refresh S8 N8; clear S8); k_dflt (refine' wt_len S9 ?zf ?zx ?zw ?zz ?_; (case zf => k_asm); (case zx => k_asm); (case zw => first | assumption | exact WT.mono (by assumption) sub0); (case zz => (simp only [List.length_append, List.length_cons, List.length_nil]; omega))); have N8 := S9.N)) | (k_unfold; (try dsimp only)) | (walk1) | (dsimp only; walk1) | (leave1; try dsimp only))
            all_goals (first | (exfalso; exact (by assumption : _ ≠ _) rfl) | skip)
            all_goals (try dsimp only)
            all_goals (rename Fr _ _ _ _ => FZ; ((rename LSt _ _ _ _ _ _ _ _ _ _ _ _ _ => S8); (rename News _ _ _ _ => N8); (first | (have S9 := refresh S8 N8) | (refine absorbXk S8 [_] N8 (by (repeat (refine List.forall_mem_cons.mpr ⟨(by dsimp only; first | assumption | first | assumption | exact allLt_all (by assumption) | exact allLt_all (And.right (by assumption)) | exact allLt_all (And.right (And.right (by assumption))) | exact allLt_all (And.right (And.right (And.right (by assumption)))) | exact allLt_all (And.right (And.right (And.right (And.right (by assumption))))) | exact allLt_all (And.right (And.right (And.right (And.right (And.right (by assumption)))))) | exact allLt_all (And.right (And.right (And.right (And.right (And.right (And.right (by assumption))))))) | exact allLt_all (And.right (And.right (And.right (And.right (And.right (And.right (And.right (by assumption)))))))) | exact allLt_all (And.right (And.right (And.right (And.right (And.right (And.right (And.right (And.right (by assumption))))))))) | exact ltSucc (by assumption) | exact ltLt (by assumption) (by assumption) | exact ltTail (by assumption) | exact ltTail (ltTail (by assumption)) | exact ltTail (ltTail (ltTail (by assumption))) | exact ltTail (ltTail (ltTail (ltTail (by assumption)))) | exact ltTail (ltTail (ltTail (ltTail (ltTail (by assumption))))) | exact ltLt (ltLt (by assumption) (by assumption)) (by assumption) | exact ltLt (ltTail (ltTail (by assumption))) (by assumption) | exact ltLt (ltLt (ltTail (ltTail (by assumption))) (by assumption)) (by assumption)), ?_⟩)); exact List.forall_mem_nil _) ?_; intro V9 S9 sub9; clear S8; ((have sub8 := subTr sub0 sub9); (clear sub0); (have sub0 := sub8); (clear sub8); (repeat (rename WT _ _ _ _ => wt9; replace wt9 := WT.mono wt9 sub9; revert wt9)); (repeat (rename BD _ _ _ => wt9; replace wt9 := BD.mono wt9 sub9; revert wt9)); (repeat (rename PT _ _ _ _ => wt9; replace wt9 := PT.mono wt9 sub9; revert wt9)); (repeat (rename RefsAre _ _ _ => wt9; replace wt9 := RefsAre.mono wt9 sub9; revert wt9)); intros); (rename LSt _ _ _ _ _ _ _ _ _ _ _ _ _ => S9)) | (refine absorbXk S8 [_, _] N8 (by (repeat (refine List.forall_mem_cons.mpr ⟨(by dsimp only; first | assumption | first | assumption | exact allLt_all (by assumption) | exact allLt_all (And.right (by assumption)) | exact allLt_all (And.right (And.right (by assumption))) | exact allLt_all (And.right (And.right (And.right (by assumption)))) | exact allLt_all (And.right (And.right (And.right (And.right (by assumption))))) | exact allLt_all (And.right (And.right (And.right (And.right (And.right (by assumption)))))) | exact allLt_all (And.right (And.right (And.right (And.right (And.right (And.right (by assumption))))))) | exact allLt_all (And.right (And.right (And.right (And.right (And.right (And.right (And.right (by assumption)))))))) | exact allLt_all (And.right (And.right (And.right (And.right (And.right (And.right (And.right (And.right (by assumption))))))))) | exact ltSucc (by assumption) | exact ltLt (by assumption) (by assumption) | exact ltTail (by assumption) | exact ltTail (ltTail (by assumption)) | exact ltTail (ltTail (ltTail (by assumption))) | exact ltTail (ltTail (ltTail (ltTail (by assumption)))) | exact ltTail (ltTail (ltTail (ltTail (ltTail (by assumption))))) | exact ltLt (ltLt (by assumption) (by assumption)) (by assumption) | exact ltLt (ltTail (ltTail (by assumption))) (by assumption) | exact ltLt (ltLt (ltTail (ltTail (by assumption))) (by assumption)) (by assumption)), ?_⟩)); exact List.forall_mem_nil _) ?_; intro V9 S9 sub9; clear S8; ((have sub8 := subTr sub0 sub9); (clear sub0); (have sub0 := sub8); (clear sub8); (repeat (rename WT _ _ _ _ => wt9; replace wt9 := WT.mono wt9 sub9; revert wt9)); (repeat (rename BD _ _ _ => wt9; replace wt9 := BD.mono wt9 sub9; revert wt9)); (repeat (rename PT _ _ _ _ => wt9; replace wt9 := PT.mono wt9 sub9; revert wt9)); (repeat (rename RefsAre _ _ _ => wt9; replace wt9 := RefsAre.mono wt9 sub9; revert wt9)); intros); (rename LSt _ _ _ _ _ _ _ _ _ _ _ _ _ => S9)) | (refine absorbXk S8 [_, _, _] N8 (by (repeat (refine List.forall_mem_cons.mpr ⟨(by dsimp only; first | assumption | first | assumption | exact allLt_all (by assumption) | exact allLt_all (And.right (by assumption)) | exact allLt_all (And.right (And.right (by assumption))) | exact allLt_all (And.right (And.right (And.right (by assumption)))) | exact allLt_all (And.right (And.right (And.right (And.right (by assumption))))) | exact allLt_all (And.right (And.right (And.right (And.right (And.right (by assumption)))))) | exact allLt_all (And.right (And.right (And.right (And.right (And.right (And.right (by assumption))))))) | exact allLt_all (And.right (And.right (And.right (And.right (And.right (And.right (And.right (by assumption)))))))) | exact allLt_all (And.right (And.right (And.right (And.right (And.right (And.right (And.right (And.right (by assumption))))))))) | exact ltSucc (by assumption) | exact ltLt (by assumption) (by assumption) | exact ltTail (by assumption) | exact ltTail (ltTail (by assumption)) | exact ltTail (ltTail (ltTail (by assumption))) | exact ltTail (ltTail (ltTail (ltTail (by assumption)))) | exact ltTail (ltTail (ltTail (ltTail (ltTail (by assumption))))) | exact ltLt (ltLt (by assumption) (by assumption)) (by assumption) | exact ltLt (ltTail (ltTail (by assumption))) (by assumption) | exact ltLt (ltLt (ltTail (ltTail (by assumption))) (by assumption)) (by assumption)), ?_⟩)); exact List.forall_mem_nil _) ?_; intro V9 S9 sub9; clear S8; ((have sub8 := subTr sub0 sub9); (clear sub0); (have sub0 := sub8); (clear sub8); (repeat (rename WT _ _ _ _ => wt9; replace wt9 := WT.mono wt9 sub9; revert wt9)); (repeat (rename BD _ _ _ => wt9; replace wt9 := BD.mono wt9 sub9; revert wt9)); (repeat (rename PT _ _ _ _ => wt9; replace wt9 := PT.mono wt9 sub9; revert wt9)); (repeat (rename RefsAre _ _ _ => wt9; replace wt9 := RefsAre.mono wt9 sub9; revert wt9)); intros); (rename LSt _ _ _ _ _ _ _ _ _ _ _ _ _ => S9))); (try clear S8)))
            · refine hQ1 _ ?_
              exact turn_end S9 FZ (MT.mono MI sub0) ho i2 (lce_mk ((([Str.ofString "NOT"] ++ [Str.ofString "INVALID"]) ++ [Str.ofString "KEY"]) ++ [Str.ofString "CONTINUE"], [dBr "not invalid"]) S9 (by rfl) (by rfl) (by rfl) (by rfl) (by rfl) (MT.mono M1 sub0) (by assumption) hh ha (by first | assumption | exact WT.mono (by assumption) sub0) (by simp) (by first | assumption | exact BD.mono (by assumption) sub0) (by rfl) (.tail _ (.tail _ (.head _))))
            · refine hQ1 _ ?_
              exact turn_end S9 FZ (MT.mono MI sub0) ho i2 (lce_mk ((([Str.ofString "NOT"] ++ [Str.ofString "INVALID"]) ++ []) ++ [Str.ofString "CONTINUE"], [dBr "not invalid"]) S9 (by rfl) (by rfl) (by rfl) (by rfl) (by rfl) (MT.mono M1 sub0) (by assumption) hh ha (by first | assumption | exact WT.mono (by assumption) sub0) (by simp) (by first | assumption | exact BD.mono (by assumption) sub0) (by rfl) (.tail _ (.head _)))
            · refine hQ1 _ ?_
              exact turn_end S9 FZ (MT.mono MI sub0) ho i2 (lce_mk ([], []) S9 (by rfl) (by rfl) (by rfl) (by rfl) (by rfl) (MT.mono M1 sub0) (by assumption) hh ha (by first | assumption | exact WT.mono (by assumption) sub0) (by simp) (by first | assumption | exact BD.mono (by assumption) sub0) (by simp) (.head _))
        case sC =>
          (try clear W8); (try clear N8); (try clear F8); (try clear S8); (try clear B9)
          ((repeat (rename (_ ∧ _) => xc9; clear xc9)); (repeat (rename (∀ p ∈ (_ : List (Addr × Obj)), p.1 < _) => xc9; clear xc9)); (repeat (rename Fr _ _ _ _ => xc9; clear xc9)); (repeat (rename News _ _ _ _ => xc9; clear xc9)))
          intro s' hC
          refine LC3.elim (K := fun s' => wpAny _ _ _ _ _ s') hC ?_
          intro sq cq vs is c nc V at_ t ps m0 h tk qw tr kv bv hd a b S8 W8 K8 B8 hh ha hb F8
          show wpAny _ _ _ _ _ _
          (refine freshVk S8 ?_; intro V0 S0 sub0; clear S8; have S8 := S0; clear S0; have N8 := S8.N)
          have hlen := heads_len hh
          have hla := (t1_len ha).1
          have hlb := (t2_len hb).1
          -- D: the end
          refine execs_cutN (LC4 w.params s₁ (ghostOf s₁.heap [(236, 232)]) s₁.heap.objs.size) ?sD ?hD
          case hD =>
            intro Q1 hQ1
            repeat' (first | ((with_reducible show wpAny _ _ (exec (Stmt.If _ _ _ _) _) _ _ _); refine wpAny_If ?_) | (((with_reducible show wpAny _ _ (call (Value.ref 508) [Value.ref _, _]) _ _ _); ((rename LSt _ _ _ _ _ _ _ _ _ _ _ _ _ => S8); (rename News _ _ _ _ => N8); have S9 := refresh S8 N8; clear S8); k_dflt (refine' draw_LS S9 ?zb ?zf ?zx ?zt ?zhk ?zd ?zhl ?_; (case zb => k_asm); (case zf => k_asm); (case zx => k_asm); (case zt => k_asm); (case zhk => exact rfl); (case zd => ktr_room); (case zhl => decide)); clear S9; intro i9 ti9 t9 h9 tk9 g9 l9 F9 S8; (try clear sub9); (try dsimp only); (rename LSt _ _ _ _ _ _ _ _ _ _ _ _ _ => S8); have N8 := S8.N; (try k_sweep))) | (((with_reducible show wpAny _ _ (binaryOp _ (Value.ref _) (Value.ref _)) _ _ _); (rename LSt _ _ _ _ _ _ _ _ _ _ _ _ _ => S8); (rename News _ _ _ _ => N8); (first | (have S9 := refresh S8 N8; clear S8; k_dflt (refine' wordsAdd S9 ?zf ?zx ?zw1 ?zw2 ?zz ?_; (case zf => k_asm); (case zx => k_asm); (case zw1 => first | assumption | exact WT.mono (by assumption) sub0); (case zw2 => first | assumption | exact WT.mono (by assumption) sub0); (case zz => (simp only [List.length_append, List.length_cons, List.length_nil]; omega))); clear S9) | (k_dflt (refine' wordsAddL S8 ?zf ?zx N8 (by first | assumption | first | assumption | exact allLt_all (by assumption) | exact allLt_all (And.right (by assumption)) | exact allLt_all (And.right (And.right (by assumption))) | exact allLt_all (And.right (And.right (And.right (by assumption)))) | exact allLt_all (And.right (And.right (And.right (And.right (by assumption))))) | exact allLt_all (And.right (And.right (And.right (And.right (And.right (by assumption)))))) | exact allLt_all (And.right (And.right (And.right (And.right (And.right (And.right (by assumption))))))) | exact allLt_all (And.right (And.right (And.right (And.right (And.right (And.right (And.right (by assumption)))))))) | exact allLt_all (And.right (And.right (And.right (And.right (And.right (And.right (And.right (And.right (by assumption))))))))) | exact ltSucc (by assumption) | exact ltLt (by assumption) (by assumption) | exact ltTail (by assumption) | exact ltTail (ltTail (by assumption)) | exact ltTail (ltTail (ltTail (by assumption))) | exact ltTail (ltTail (ltTail (ltTail (by assumption)))) | exact ltTail (ltTail (ltTail (ltTail (ltTail (by assumption))))) | exact ltLt (ltLt (by assumption) (by assumption)) (by assumption) | exact ltLt (ltTail (ltTail (by assumption))) (by assumption) | exact ltLt (ltLt (ltTail (ltTail (by assumption))) (by assumption)) (by assumption)) ?zw1 (by (repeat (first | exact StrsAre.nil | apply StrsAre.cons))) ?zz ?_; (case zf => k_asm); (case zx => k_asm); (case zw1 => first | assumption | exact WT.mono (by assumption) sub0); (case zz => (simp only [List.length_append, List.length_cons, List.length_nil]; omega))); clear S8)); intro q9 V9 h9 sub9; ((have sub8 := subTr sub0 sub9); (clear sub0); (have sub0 := sub8); (clear sub8); (repeat (rename WT _ _ _ _ => wt9; replace wt9 := WT.mono wt9 sub9; revert wt9)); (repeat (rename BD _ _ _ => wt9; replace wt9 := BD.mono wt9 sub9; revert wt9)); (repeat (rename PT _ _ _ _ => wt9; replace wt9 := PT.mono wt9 sub9; revert wt9)); (repeat (rename RefsAre _ _ _ => wt9; replace wt9 := RefsAre.mono wt9 sub9; revert wt9)); intros); (try clear sub9); (try dsimp only); (rename LSt _ _ _ _ _ _ _ _ _ _ _ _ _ => S8); have N8 := S8.N; (try k_sweep))) | (k_unfold; (try dsimp only)) | (walk1) | (dsimp only; walk1) | (leave1; try dsimp only))
            all_goals (try dsimp only)
            all_goals (rename Fr _ _ _ _ => FZ; ((rename LSt _ _ _ _ _ _ _ _ _ _ _ _ _ => S8); (rename News _ _ _ _ => N8); (first | (have S9 := refresh S8 N8) | (refine absorbXk S8 [_] N8 (by (repeat (refine List.forall_mem_cons.mpr ⟨(by dsimp only; first | assumption | first | assumption | exact allLt_all (by assumption) | exact allLt_all (And.right (by assumption)) | exact allLt_all (And.right (And.right (by assumption))) | exact allLt_all (And.right (And.right (And.right (by assumption)))) | exact allLt_all (And.right (And.right (And.right (And.right (by assumption))))) | exact allLt_all (And.right (And.right (And.right (And.right (And.right (by assumption)))))) | exact allLt_all (And.right (And.right (And.right (And.right (And.right (And.right (by assumption))))))) | exact allLt_all (And.right (And.right (And.right (And.right (And.right (And.right (And.right (by assumption)))))))) | exact allLt_all (And.right (And.right (And.right (And.right (And.right (And.right (And.right (And.right (by assumption))))))))) | exact ltSucc (by assumption) | exact ltLt (by assumption) (by assumption) | exact ltTail (by assumption) | exact ltTail (ltTail (by assumption)) | exact ltTail (ltTail (ltTail (by assumption))) | exact ltTail (ltTail (ltTail (ltTail (by assumption)))) | exact ltTail (ltTail (ltTail (ltTail (ltTail (by assumption))))) | exact ltLt (ltLt (by assumption) (by assumption)) (by assumption) | exact ltLt (ltTail (ltTail (by assumption))) (by assumption) | exact ltLt (ltLt (ltTail (ltTail (by assumption))) (by assumption)) (by assumption)), ?_⟩)); exact List.forall_mem_nil _) ?_; intro V9 S9 sub9; clear S8; ((have sub8 := subTr sub0 sub9); (clear sub0); (have sub0 := sub8); (clear sub8); (repeat (rename WT _ _ _ _ => wt9; replace wt9 := WT.mono wt9 sub9; revert wt9)); (repeat (rename BD _ _ _ => wt9; replace wt9 := BD.mono wt9 sub9; revert wt9)); (repeat (rename PT _ _ _ _ => wt9; replace wt9 := PT.mono wt9 sub9; revert wt9)); (repeat (rename RefsAre _ _ _ => wt9; replace wt9 := RefsAre.mono wt9 sub9; revert wt9)); intros); (rename LSt _ _ _ _ _ _ _ _ _ _ _ _ _ => S9)) | (refine absorbXk S8 [_, _] N8 (by (repeat (refine List.forall_mem_cons.mpr ⟨(by dsimp only; first | assumption | first | assumption | exact allLt_all (by assumption) | exact allLt_all (And.right (by assumption)) | exact allLt_all (And.right (And.right (by assumption))) | exact allLt_all (And.right (And.right (And.right (by assumption)))) | exact allLt_all (And.right (And.right (And.right (And.right (by assumption))))) | exact allLt_all (And.right (And.right (And.right (And.right (And.right (by assumption)))))) | exact allLt_all (And.right (And.right (And.right (And.right (And.right (And.right (by assumption))))))) | exact allLt_all (And.right (And.right (And.right (And.right (And.right (And.right (And.right (by assumption)))))))) | exact allLt_all (And.right (And.right (And.right (And.right (And.right (And.right (And.right (And.right (by assumption))))))))) | exact ltSucc (by assumption) | exact ltLt (by assumption) (by assumption) | exact ltTail (by assumption) | exact ltTail (ltTail (by assumption)) | exact ltTail (ltTail (ltTail (by assumption))) | exact ltTail (ltTail (ltTail (ltTail (by assumption)))) | exact ltTail (ltTail (ltTail (ltTail (ltTail (by assumption))))) | exact ltLt (ltLt (by assumption) (by assumption)) (by assumption) | exact ltLt (ltTail (ltTail (by assumption))) (by assumption) | exact ltLt (ltLt (ltTail (ltTail (by assumption))) (by assumption)) (by assumption)), ?_⟩)); exact List.forall_mem_nil _) ?_; intro V9 S9 sub9; clear S8; ((have sub8 := subTr sub0 sub9); (clear sub0); (have sub0 := sub8); (clear sub8); (repeat (rename WT _ _ _ _ => wt9; replace wt9 := WT.mono wt9 sub9; revert wt9)); (repeat (rename BD _ _ _ => wt9; replace wt9 := BD.mono wt9 sub9; revert wt9)); (repeat (rename PT _ _ _ _ => wt9; replace wt9 := PT.mono wt9 sub9; revert wt9)); (repeat (rename RefsAre _ _ _ => wt9; replace wt9 := RefsAre.mono wt9 sub9; revert wt9)); intros); (rename LSt _ _ _ _ _ _ _ _ _ _ _ _ _ => S9)) | (refine absorbXk S8 [_, _, _] N8 (by (repeat (refine List.forall_mem_cons.mpr ⟨(by dsimp only; first | assumption | first | assumption | exact allLt_all (by assumption) | exact allLt_all (And.right (by assumption)) | exact allLt_all (And.right (And.right (by assumption))) | exact allLt_all (And.right (And.right (And.right (by assumption)))) | exact allLt_all (And.right (And.right (And.right (And.right (by assumption))))) | exact allLt_all (And.right (And.right (And.right (And.right (And.right (by assumption)))))) | exact allLt_all (And.right (And.right (And.right (And.right (And.right (And.right (by assumption))))))) | exact allLt_all (And.right (And.right (And.right (And.right (And.right (And.right (And.right (by assumption)))))))) | exact allLt_all (And.right (And.right (And.right (And.right (And.right (And.right (And.right (And.right (by assumption))))))))) | exact ltSucc (by assumption) | exact ltLt (by assumption) (by assumption) | exact ltTail (by assumption) | exact ltTail (ltTail (by assumption)) | exact ltTail (ltTail (ltTail (by assumption))) | exact ltTail (ltTail (ltTail (ltTail (by assumption)))) | exact ltTail (ltTail (ltTail (ltTail (ltTail (by assumption))))) | exact ltLt (ltLt (by assumption) (by assumption)) (by assumption) | exact ltLt (ltTail (ltTail (by assumption))) (by assumption) | exact ltLt (ltLt (ltTail (ltTail (by assumption))) (by assumption)) (by assumption)), ?_⟩)); exact List.forall_mem_nil _) ?_; intro V9 S9 sub9; clear S8; ((have sub8 := subTr sub0 sub9); (clear sub0); (have sub0 := sub8); (clear sub8); (repeat (rename WT _ _ _ _ => wt9; replace wt9 := WT.mono wt9 sub9; revert wt9)); (repeat (rename BD _ _ _ => wt9; replace wt9 := BD.mono wt9 sub9; revert wt9)); (repeat (rename PT _ _ _ _ => wt9; replace wt9 := PT.mono wt9 sub9; revert wt9)); (repeat (rename RefsAre _ _ _ => wt9; replace wt9 := RefsAre.mono wt9 sub9; revert wt9)); intros); (rename LSt _ _ _ _ _ _ _ _ _ _ _ _ _ => S9))); (try clear S8)))
            · refine hQ1 _ ?_
              exact lc4_mk S9 FZ (by rfl) (by rfl) (by rfl) (by rfl) (by rfl) (by assumption) hh ha hb (.tail _ (.head _)) (by first | assumption | exact WT.mono (by assumption) sub0) (by first | assumption | exact BD.mono (by assumption) sub0)
            · refine hQ1 _ ?_
              exact lc4_mk S9 FZ (by rfl) (by rfl) (by rfl) (by rfl) (by rfl) (by assumption) hh ha hb (.head _) (by first | assumption | exact WT.mono (by assumption) sub0) (by first | assumption | exact BD.mono (by assumption) sub0)
          case sD =>
            (try clear W8); (try clear N8); (try clear F8); (try clear S8); (try clear B8)
            ((repeat (rename (_ ∧ _) => xc9; clear xc9)); (repeat (rename (∀ p ∈ (_ : List (Addr × Obj)), p.1 < _) => xc9; clear xc9)); (repeat (rename Fr _ _ _ _ => xc9; clear xc9)); (repeat (rename News _ _ _ _ => xc9; clear xc9)))
            intro s' hC
            refine LC4.elim (K := fun s' => wpAny _ _ _ _ _ s') hC ?_
            intro sq cq vs is c nc V at_ t ps m0 h tk qw tr kv bv hd a b e S8 W8 K8 B8 hh ha hb he F8
            show wpAny _ _ _ _ _ _
            (refine freshVk S8 ?_; intro V0 S0 sub0; clear S8; have S8 := S0; clear S0; have N8 := S8.N)
            refine execs_cutN (LC0 s₁ (ghostOf s₁.heap [(236, 232)]) s₁.heap.objs.size) ?sE ?hE
            case hE =>
              intro Q1 hQ1
              repeat' (first | ((with_reducible show wpAny _ _ (exec (Stmt.If _ _ _ _) _) _ _ _); refine wpAny_If ?_) | (((with_reducible show wpAny _ _ (call (Value.ref 568) [Value.ref _, Value.ref 617]) _ _ _); ((rename LSt _ _ _ _ _ _ _ _ _ _ _ _ _ => S8); (rename News _ _ _ _ => N8); have S9 := refresh S8 N8; clear S8); (k_dflt (refine' heard_fin S9 ?zb ?zf ?zx ?zt ?zhk ?zxb ?zyb ?zc ?zu ?zd ?zw (fin3 hh ha hb he) ?_; (case zb => k_asm); (case zf => k_asm); (case zx => k_asm); (case zt => k_asm); (case zhk => exact rfl); (case zxb => k_asm); (case zyb => k_asm); (case zc => exact codeHd); (case zu => decide); (case zd => ktr_room); (case zw => first | assumption | exact WT.mono (by assumption) sub0))); intro q9 V7 h9 tk9 ps9 tb9 sub7 dat9 F9 N9; (try dsimp only); have B7 := fun o => ((BD.dat (BD.mono (by assumption) sub0) _ _ _).mono (sub7 o)); (try k_sweep))) | (((with_reducible show wpAny _ _ (compareOp _ (Value.ref _) (Value.ref _)) _ _ _); k_dflt (refine' cmp_LS ?zf ?zn ?zd ?zm ?zl ?zk ?zb ?ze ?zs ?zu ?_; (case zf => k_asm); (case zn => k_asm); (case zd => exact (dat9 _).mono fun _ hp => List.Mem.tail _ (List.Mem.tail _ hp)); (case zm => exact List.Mem.head _); (case zl => exact List.Mem.tail _ (List.Mem.head _)); (case zk => assumption); (case zb => exact (B7 _).mono fun _ hp => List.Mem.tail _ (List.Mem.tail _ hp)); (case ze => exact (fin3 hh ha hb he).ke); (case zs => exact (fin3 hh ha hb he).sh); (case zu => (dsimp only [Around.deeper, callerA]; decide))))) | (k_unfold; (try dsimp only)) | (walk1) | (dsimp only; walk1) | (leave1; try dsimp only))
              all_goals (try dsimp only)
              all_goals (rename Fr _ _ _ _ => FZ; rename News _ _ _ _ => NZ)
              refine hQ1 _ ?_
              exact lc0_mk (lst_back S9 tb9 sub7 (fun p hp => NZ p (by first | exact hp | exact .tail _ (.tail _ hp)))) FZ (by rfl)
            case sE =>
              (try clear W8); (try clear N8); (try clear F8); (try clear S8); (try clear B8)
              ((repeat (rename (_ ∧ _) => xc9; clear xc9)); (repeat (rename (∀ p ∈ (_ : List (Addr × Obj)), p.1 < _) => xc9; clear xc9)); (repeat (rename Fr _ _ _ _ => xc9; clear xc9)); (repeat (rename News _ _ _ _ => xc9; clear xc9)))
              intro s' hC
              refine LC0.elim (K := fun s' => wpAny _ _ _ _ _ s') hC ?_
              intro sq cq vs is c nc V at_ t ps m0 h tk S8 F8
              show wpAny _ _ _ _ _ _
              (refine freshVk S8 ?_; intro V0 S0 sub0; clear S8; have S8 := S0; clear S0; have N8 := S8.N)
              -- E: the barred
              refine execs_ret (LCF s₁ (ghostOf s₁.heap [(236, 232)]) s₁.heap.objs.size) ?sF ?hF
              case hF =>
                intro Q1 hQ1
                repeat' (first | ((with_reducible show wpAny _ _ (exec (Stmt.If _ _ _ _) _) _ _ _); refine wpAny_If ?_) | ((fail_if_success (with_reducible show wpAny _ _ (call (Value.ref 508) _) _ _ _)); ((with_reducible show wpAny _ _ (call (Value.ref 547) [Value.ref _, Value.ref 610]) _ _ _); ((rename LSt _ _ _ _ _ _ _ _ _ _ _ _ _ => S8); (rename News _ _ _ _ => N8); have S9 := refresh S8 N8; clear S8); k_dflt (refine' pick_bar S9 ?zb ?zf ?zx ?zt ?zhk ?zd ?_; (case zb => k_asm); (case zf => k_asm); (case zx => k_asm); (case zt => k_asm); (case zhk => exact rfl); (case zd => ktr_room)); clear S9; intro q9 qw9 ws9 r9 t9 t' h9 tk9 p9 w9 m9 z9 F9 S8; (try clear sub9); (try dsimp only); (rename LSt _ _ _ _ _ _ _ _ _ _ _ _ _ => S8); have N8 := S8.N; (try k_sweep))) | ((fail_if_success (with_reducible show wpAny _ _ (call (Value.ref 508) _) _ _ _)); ((with_reducible show wpAny _ _ (assign (Expr.Tuple _ _ _) _ (Value.ref _)) _ _ _); ((rename LSt _ _ _ _ _ _ _ _ _ _ _ _ _ => S8); (rename News _ _ _ _ => N8); have S9 := refresh S8 N8; clear S8); k_dflt (refine' unpackN_ ?zF ?zN ?zT ?zk1 ?zk2 ?zk3 ?_; (case zF => k_asm); (case zN => exact S9.N); (case zT => exact pt_is S9 (by k_asm) (by k_asm) (by first | assumption | exact PT.mono (by assumption) sub0)); (case zk1 => exact rfl); (case zk2 => exact rfl); (case zk3 => exact rfl); k_whole); intro h' F' N'; (try k_sweep))) | (k_unfold; (try dsimp only)) | ((fail_if_success (with_reducible show wpAny _ _ (call (Value.ref 508) _) _ _ _)); walk1) | (dsimp only; (fail_if_success (with_reducible show wpAny _ _ (call (Value.ref 508) _) _ _ _)); walk1) | (leave1; try dsimp only))
                have hbar := m9
                (rename LSt _ _ _ _ _ _ _ _ _ _ _ _ _ => S8)
                (rename News _ _ _ _ => N8)
                refine absorbWk (P := w.params) S8 N8 (by first | assumption | first | assumption | exact allLt_all (by assumption) | exact allLt_all (And.right (by assumption)) | exact allLt_all (And.right (And.right (by assumption))) | exact allLt_all (And.right (And.right (And.right (by assumption)))) | exact allLt_all (And.right (And.right (And.right (And.right (by assumption))))) | exact allLt_all (And.right (And.right (And.right (And.right (And.right (by assumption)))))) | exact allLt_all (And.right (And.right (And.right (And.right (And.right (And.right (by assumption))))))) | exact allLt_all (And.right (And.right (And.right (And.right (And.right (And.right (And.right (by assumption)))))))) | exact allLt_all (And.right (And.right (And.right (And.right (And.right (And.right (And.right (And.right (by assumption))))))))) | exact ltSucc (by assumption) | exact ltLt (by assumption) (by assumption) | exact ltTail (by assumption) | exact ltTail (ltTail (by assumption)) | exact ltTail (ltTail (ltTail (by assumption))) | exact ltTail (ltTail (ltTail (ltTail (by assumption)))) | exact ltTail (ltTail (ltTail (ltTail (ltTail (by assumption))))) | exact ltLt (ltLt (by assumption) (by assumption)) (by assumption) | exact ltLt (ltTail (ltTail (by assumption))) (by assumption) | exact ltLt (ltLt (ltTail (ltTail (by assumption))) (by assumption)) (by assumption)) (by (repeat (first | exact StrsAre.nil | apply StrsAre.cons))) ?_
                intro V9 S9 sub9 W9
                clear S8 N8
                revert W9
                ((have sub8 := subTr sub0 sub9); (clear sub0); (have sub0 := sub8); (clear sub8); (repeat (rename WT _ _ _ _ => wt9; replace wt9 := WT.mono wt9 sub9; revert wt9)); (repeat (rename BD _ _ _ => wt9; replace wt9 := BD.mono wt9 sub9; revert wt9)); (repeat (rename PT _ _ _ _ => wt9; replace wt9 := PT.mono wt9 sub9; revert wt9)); (repeat (rename RefsAre _ _ _ => wt9; replace wt9 := RefsAre.mono wt9 sub9; revert wt9)); intros)
                (try clear sub9)
                (rename LSt _ _ _ _ _ _ _ _ _ _ _ _ _ => S8)
                have N8 := S8.N
                (try k_sweep)
                repeat' (first | ((with_reducible show wpAny _ _ (exec (Stmt.If _ _ _ _) _) _ _ _); refine wpAny_If ?_) | (((with_reducible show wpAny _ _ (call (Value.ref 568) [Value.ref _, Value.ref 617]) _ _ _); ((rename LSt _ _ _ _ _ _ _ _ _ _ _ _ _ => S8); (rename News _ _ _ _ => N8); have S9 := refresh S8 N8; clear S8); (first | (k_dflt (refine' heard_badI S9 ?zb ?zf ?zx ?zt ?zhk ?zxb ?zyb ?zc ?zu ?zd ?zw (bad4 (.head _) hbar) (bar_nn hbar) ?_; (case zb => k_asm); (case zf => k_asm); (case zx => k_asm); (case zt => k_asm); (case zhk => exact rfl); (case zxb => k_asm); (case zyb => k_asm); (case zc => exact codeHd); (case zu => decide); (case zd => ktr_room); (case zw => first | assumption | exact WT.mono (by assumption) sub0))) | (k_dflt (refine' heard_badI S9 ?zb ?zf ?zx ?zt ?zhk ?zxb ?zyb ?zc ?zu ?zd ?zw (bad4 (.tail _ (.head _)) hbar) (bar_nn hbar) ?_; (case zb => k_asm); (case zf => k_asm); (case zx => k_asm); (case zt => k_asm); (case zhk => exact rfl); (case zxb => k_asm); (case zyb => k_asm); (case zc => exact codeHd); (case zu => decide); (case zd => ktr_room); (case zw => first | assumption | exact WT.mono (by assumption) sub0)))); clear S9; intro t9 h9 tk9 ps9 F9 S8; (try clear sub9); (try dsimp only); (rename LSt _ _ _ _ _ _ _ _ _ _ _ _ _ => S8); have N8 := S8.N; (try k_sweep))) | (((with_reducible show wpAny _ _ (call (Value.ref 508) [Value.ref _, _]) _ _ _); ((rename LSt _ _ _ _ _ _ _ _ _ _ _ _ _ => S8); (rename News _ _ _ _ => N8); have S9 := refresh S8 N8; clear S8); k_dflt (refine' draw_LS S9 ?zb ?zf ?zx ?zt ?zhk ?zd ?zhl ?_; (case zb => k_asm); (case zf => k_asm); (case zx => k_asm); (case zt => k_asm); (case zhk => exact rfl); (case zd => ktr_room); (case zhl => decide)); clear S9; intro i9 ti9 t9 h9 tk9 g9 l9 F9 S8; (try clear sub9); (try dsimp only); (rename LSt _ _ _ _ _ _ _ _ _ _ _ _ _ => S8); have N8 := S8.N; (try k_sweep))) | (((with_reducible show wpAny _ _ (binaryOp _ (Value.ref _) (Value.ref _)) _ _ _); (rename LSt _ _ _ _ _ _ _ _ _ _ _ _ _ => S8); (rename News _ _ _ _ => N8); (first | (have S9 := refresh S8 N8; clear S8; k_dflt (refine' wordsAdd S9 ?zf ?zx ?zw1 ?zw2 ?zz ?_; (case zf => k_asm); (case zx => k_asm); (case zw1 => first | assumption | exact WT.mono (by assumption) sub0); (case zw2 => first | assumption | exact WT.mono (by assumption) sub0); (case zz => (simp only [List.length_append, List.length_cons, List.length_nil]; omega))); clear S9) | (k_dflt (refine' wordsAddL S8 ?zf ?zx N8 (by first | assumption | first | assumption | exact allLt_all (by assumption) | exact allLt_all (And.right (by assumption)) | exact allLt_all (And.right (And.right (by assumption))) | exact allLt_all (And.right (And.right (And.right (by assumption)))) | exact allLt_all (And.right (And.right (And.right (And.right (by assumption))))) | exact allLt_all (And.right (And.right (And.right (And.right (And.right (by assumption)))))) | exact allLt_all (And.right (And.right (And.right (And.right (And.right (And.right (by assumption))))))) | exact allLt_all (And.right (And.right (And.right (And.right (And.right (And.right (And.right (by assumption)))))))) | exact allLt_all (And.right (And.right (And.right (And.right (And.right (And.right (And.right (And.right (by assumption))))))))) | exact ltSucc (by assumption) | exact ltLt (by assumption) (by assumption) | exact ltTail (by assumption) | exact ltTail (ltTail (by assumption)) | exact ltTail (ltTail (ltTail (by assumption))) | exact ltTail (ltTail (ltTail (ltTail (by assumption)))) | exact ltTail (ltTail (ltTail (ltTail (ltTail (by assumption))))) | exact ltLt (ltLt (by assumption) (by assumption)) (by assumption) | exact ltLt (ltTail (ltTail (by assumption))) (by assumption) | exact ltLt (ltLt (ltTail (ltTail (by assumption))) (by assumption)) (by assumption)) ?zw1 (by (repeat (first | exact StrsAre.nil | apply StrsAre.cons))) ?zz ?_; (case zf => k_asm); (case zx => k_asm); (case zw1 => first | assumption | exact WT.mono (by assumption) sub0); (case zz => (simp only [List.length_append, List.length_cons, List.length_nil]; omega))); clear S8)); intro q9 V9 h9 sub9; ((have sub8 := subTr sub0 sub9); (clear sub0); (have sub0 := sub8); (clear sub8); (repeat (rename WT _ _ _ _ => wt9; replace wt9 := WT.mono wt9 sub9; revert wt9)); (repeat (rename BD _ _ _ => wt9; replace wt9 := BD.mono wt9 sub9; revert wt9)); (repeat (rename PT _ _ _ _ => wt9; replace wt9 := PT.mono wt9 sub9; revert wt9)); (repeat (rename RefsAre _ _ _ => wt9; replace wt9 := RefsAre.mono wt9 sub9; revert wt9)); intros); (try clear sub9); (try dsimp only); (rename LSt _ _ _ _ _ _ _ _ _ _ _ _ _ => S8); have N8 := S8.N; (try k_sweep))) | (((with_reducible show wpAny _ _ (call (Value.builtin _) [Value.ref _]) _ _ _); ((rename LSt _ _ _ _ _ _ _ _ _ _ _ _ _ => S8); (rename News _ _ _ _ => N8); have S9 := refresh S8 N8; clear S8); k_dflt (refine' wt_len S9 ?zf ?zx ?zw ?zz ?_; (case zf => k_asm); (case zx => k_asm); (case zw => first | assumption | exact WT.mono (by assumption) sub0); (case zz => (simp only [List.length_append, List.length_cons, List.length_nil]; omega))); have N8 := S9.N)) | (k_unfold; (try dsimp only)) | (walk1) | (dsimp only; walk1) | (leave1; try dsimp only))
                all_goals (try dsimp only)
                all_goals (rename Fr _ _ _ _ => FZ; ((rename LSt _ _ _ _ _ _ _ _ _ _ _ _ _ => S8); (rename News _ _ _ _ => N8); (first | (have S9 := refresh S8 N8) | (refine absorbXk S8 [_] N8 (by (repeat (refine List.forall_mem_cons.mpr ⟨(by dsimp only; first | assumption | first | assumption | exact allLt_all (by assumption) | exact allLt_all (And.right (by assumption)) | exact allLt_all (And.right (And.right (by assumption))) | exact allLt_all (And.right (And.right (And.right (by assumption)))) | exact allLt_all (And.right (And.right (And.right (And.right (by assumption))))) | exact allLt_all (And.right (And.right (And.right (And.right (And.right (by assumption)))))) | exact allLt_all (And.right (And.right (And.right (And.right (And.right (And.right (by assumption))))))) | exact allLt_all (And.right (And.right (And.right (And.right (And.right (And.right (And.right (by assumption)))))))) | exact allLt_all (And.right (And.right (And.right (And.right (And.right (And.right (And.right (And.right (by assumption))))))))) | exact ltSucc (by assumption) | exact ltLt (by assumption) (by assumption) | exact ltTail (by assumption) | exact ltTail (ltTail (by assumption)) | exact ltTail (ltTail (ltTail (by assumption))) | exact ltTail (ltTail (ltTail (ltTail (by assumption)))) | exact ltTail (ltTail (ltTail (ltTail (ltTail (by assumption))))) | exact ltLt (ltLt (by assumption) (by assumption)) (by assumption) | exact ltLt (ltTail (ltTail (by assumption))) (by assumption) | exact ltLt (ltLt (ltTail (ltTail (by assumption))) (by assumption)) (by assumption)), ?_⟩)); exact List.forall_mem_nil _) ?_; intro V9 S9 sub9; clear S8; ((have sub8 := subTr sub0 sub9); (clear sub0); (have sub0 := sub8); (clear sub8); (repeat (rename WT _ _ _ _ => wt9; replace wt9 := WT.mono wt9 sub9; revert wt9)); (repeat (rename BD _ _ _ => wt9; replace wt9 := BD.mono wt9 sub9; revert wt9)); (repeat (rename PT _ _ _ _ => wt9; replace wt9 := PT.mono wt9 sub9; revert wt9)); (repeat (rename RefsAre _ _ _ => wt9; replace wt9 := RefsAre.mono wt9 sub9; revert wt9)); intros); (rename LSt _ _ _ _ _ _ _ _ _ _ _ _ _ => S9)) | (refine absorbXk S8 [_, _] N8 (by (repeat (refine List.forall_mem_cons.mpr ⟨(by dsimp only; first | assumption | first | assumption | exact allLt_all (by assumption) | exact allLt_all (And.right (by assumption)) | exact allLt_all (And.right (And.right (by assumption))) | exact allLt_all (And.right (And.right (And.right (by assumption)))) | exact allLt_all (And.right (And.right (And.right (And.right (by assumption))))) | exact allLt_all (And.right (And.right (And.right (And.right (And.right (by assumption)))))) | exact allLt_all (And.right (And.right (And.right (And.right (And.right (And.right (by assumption))))))) | exact allLt_all (And.right (And.right (And.right (And.right (And.right (And.right (And.right (by assumption)))))))) | exact allLt_all (And.right (And.right (And.right (And.right (And.right (And.right (And.right (And.right (by assumption))))))))) | exact ltSucc (by assumption) | exact ltLt (by assumption) (by assumption) | exact ltTail (by assumption) | exact ltTail (ltTail (by assumption)) | exact ltTail (ltTail (ltTail (by assumption))) | exact ltTail (ltTail (ltTail (ltTail (by assumption)))) | exact ltTail (ltTail (ltTail (ltTail (ltTail (by assumption))))) | exact ltLt (ltLt (by assumption) (by assumption)) (by assumption) | exact ltLt (ltTail (ltTail (by assumption))) (by assumption) | exact ltLt (ltLt (ltTail (ltTail (by assumption))) (by assumption)) (by assumption)), ?_⟩)); exact List.forall_mem_nil _) ?_; intro V9 S9 sub9; clear S8; ((have sub8 := subTr sub0 sub9); (clear sub0); (have sub0 := sub8); (clear sub8); (repeat (rename WT _ _ _ _ => wt9; replace wt9 := WT.mono wt9 sub9; revert wt9)); (repeat (rename BD _ _ _ => wt9; replace wt9 := BD.mono wt9 sub9; revert wt9)); (repeat (rename PT _ _ _ _ => wt9; replace wt9 := PT.mono wt9 sub9; revert wt9)); (repeat (rename RefsAre _ _ _ => wt9; replace wt9 := RefsAre.mono wt9 sub9; revert wt9)); intros); (rename LSt _ _ _ _ _ _ _ _ _ _ _ _ _ => S9)) | (refine absorbXk S8 [_, _, _] N8 (by (repeat (refine List.forall_mem_cons.mpr ⟨(by dsimp only; first | assumption | first | assumption | exact allLt_all (by assumption) | exact allLt_all (And.right (by assumption)) | exact allLt_all (And.right (And.right (by assumption))) | exact allLt_all (And.right (And.right (And.right (by assumption)))) | exact allLt_all (And.right (And.right (And.right (And.right (by assumption))))) | exact allLt_all (And.right (And.right (And.right (And.right (And.right (by assumption)))))) | exact allLt_all (And.right (And.right (And.right (And.right (And.right (And.right (by assumption))))))) | exact allLt_all (And.right (And.right (And.right (And.right (And.right (And.right (And.right (by assumption)))))))) | exact allLt_all (And.right (And.right (And.right (And.right (And.right (And.right (And.right (And.right (by assumption))))))))) | exact ltSucc (by assumption) | exact ltLt (by assumption) (by assumption) | exact ltTail (by assumption) | exact ltTail (ltTail (by assumption)) | exact ltTail (ltTail (ltTail (by assumption))) | exact ltTail (ltTail (ltTail (ltTail (by assumption)))) | exact ltTail (ltTail (ltTail (ltTail (ltTail (by assumption))))) | exact ltLt (ltLt (by assumption) (by assumption)) (by assumption) | exact ltLt (ltTail (ltTail (by assumption))) (by assumption) | exact ltLt (ltLt (ltTail (ltTail (by assumption))) (by assumption)) (by assumption)), ?_⟩)); exact List.forall_mem_nil _) ?_; intro V9 S9 sub9; clear S8; ((have sub8 := subTr sub0 sub9); (clear sub0); (have sub0 := sub8); (clear sub8); (repeat (rename WT _ _ _ _ => wt9; replace wt9 := WT.mono wt9 sub9; revert wt9)); (repeat (rename BD _ _ _ => wt9; replace wt9 := BD.mono wt9 sub9; revert wt9)); (repeat (rename PT _ _ _ _ => wt9; replace wt9 := PT.mono wt9 sub9; revert wt9)); (repeat (rename RefsAre _ _ _ => wt9; replace wt9 := RefsAre.mono wt9 sub9; revert wt9)); intros); (rename LSt _ _ _ _ _ _ _ _ _ _ _ _ _ => S9))); (try clear S8)))
                all_goals exact hQ1 _ _ (beq_self_eq_true _) (lcf_mk S9 FZ)
              case sF => exact hQ0))
end Mine
theorem PySem.Challenge.cw_pc0140_01_holds : PySem.Challenge.rw_pc0140_01.Holds :=
  Mine.law_
