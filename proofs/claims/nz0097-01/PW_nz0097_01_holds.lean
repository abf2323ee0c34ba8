import PyProof.Rows.All
import Wide.All
import OpenK.AllK
import Wide.FinOn
import Lean
import PySem.Challenge.RW_nz0097_01
open PySem PySem.W PyProof.Rows
set_option Elab.async false
set_option maxRecDepth 100000
set_option maxHeartbeats 0
set_option linter.all false
namespace Mine
abbrev rw' := PySem.Challenge.rw_nz0097_01
def lkS : Look := { strict := false, foot := none, bare := [] }
theorem strict_is.tw3896726915529954845 : True := trivial
set_option Elab.async true in
theorem strict_is : ((importedModules rw'.row.prog.main.body).all cThrough.contains) = true := by k_qdec
theorem bare1.tw3896726915529954845 : True := trivial
set_option Elab.async true in
theorem bare1 : (!readsOut rw'.row.prog rw'.row.prog.main.body "vars") = true := by k_qdec
theorem bare2.tw3896726915529954845 : True := trivial
set_option Elab.async true in
theorem bare2 : (!readsOut rw'.row.prog rw'.row.prog.main.body "dir") = true := by k_qdec
theorem bare3.tw3896726915529954845 : True := trivial
set_option Elab.async true in
theorem bare3 : (!readsOut rw'.row.prog rw'.row.prog.main.body "locals") = true := by k_qdec
theorem lk_is : ({ strict := !(importedModules rw'.row.prog.main.body).all cThrough.contains, foot := none, bare := (["vars", "dir", "locals"] : List PySem.Str).filter (readsOut rw'.row.prog rw'.row.prog.main.body) } : Look) = lkS := by
  have a := bare1
  have b := bare2
  have c := bare3
  simp only [Bool.not_eq_true'] at a b c
  rw [strict_is]
  simp only [List.filter, a, b, c, Bool.not_true]
  rfl
theorem split_all (lk : Look) : ∀ l : List Stmt, noRoadLSs lk l = l.all (noRoadLS lk)
  | [] => rfl
  | s :: r => congrArg (noRoadLS lk s && ·) (split_all lk r)
theorem exprs_all (lk : Look) : ∀ l : List Expr, noRoadLs lk l = l.all (noRoadL lk)
  | [] => rfl
  | s :: r => congrArg (noRoadL lk s && ·) (exprs_all lk r)
theorem take_drop (n : Nat) {lk : Look} {l : List Stmt} (a : noRoadLSs lk (l.take n) = true) (b : noRoadLSs lk (l.drop n) = true) : noRoadLSs lk l = true := by
  rw [split_all] at *
  rw [← List.take_append_drop n l, List.all_append, a, b]; rfl
/-- a text that the looks let pass for cheap reasons: it has a '=', none of '.', '{', '}', and opens with no '_' -/
noncomputable def easyStr (x : PySem.Str) : Bool := x.cps.toList.any (fun c => Nat.beq c 61) && x.cps.toList.all (fun c => !(Nat.beq c 46) && !(Nat.beq c 123) && !(Nat.beq c 125)) && (match x.cps.toList with | c :: _ => !(Nat.beq c 95) | [] => false)
noncomputable def easyE : Expr → Bool
  | .Constant (.str x) _ _ => easyStr x
  | _ => false
theorem frame_no : (frameAttrs.all fun a => a.cps.toList.all fun c => !(Nat.beq c 61)) = true := by decide +kernel
theorem Nat.beq_eq_false_iff {a b : Nat} : Nat.beq a b = false ↔ a ≠ b := by
  constructor
  · exact Nat.ne_of_beq_eq_false
  · intro h
    cases e : Nat.beq a b
    · rfl
    · exact absurd (Nat.eq_of_beq_eq_true e) h
theorem easy_ok {lk : Look} {x : PySem.Str} (l1 : lk.strict = false) (l2 : lk.foot = none) (l3 : lk.but = none) (h : easyStr x = true) : lk.str x = true := by
  unfold easyStr at h
  simp only [Bool.and_eq_true, List.any_eq_true, List.all_eq_true, Bool.not_eq_true'] at h
  obtain ⟨⟨⟨c, hc, h61⟩, hall⟩, hhead⟩ := h
  have hc61 : c = 61 := Nat.eq_of_beq_eq_true h61
  have hfr : frameAttrs.contains x = false := by
    rw [Bool.eq_false_iff]
    intro hx
    have hx' : x ∈ frameAttrs := by simpa using hx
    have q := List.all_eq_true.mp frame_no x hx'
    have q' := List.all_eq_true.mp q c hc
    rw [h61] at q'
    cases q'
  have hroad : roadStr x = false := by
    unfold roadStr
    have e1 : (x.cps.any fun c => c == 123 || c == 125) = false := by
      rw [Bool.eq_false_iff]
      intro hx
      rw [← Array.any_toList] at hx
      obtain ⟨d, hd, hq⟩ := List.any_eq_true.mp hx
      have := hall d hd
      simp only [Bool.and_eq_true, Bool.not_eq_true', Nat.beq_eq_false_iff] at this
      simp only [Bool.or_eq_true, beq_iff_eq] at hq
      omega
    have e2 : (x.cps.any fun c => c == 46) = false := by
      rw [Bool.eq_false_iff]
      intro hx
      rw [← Array.any_toList] at hx
      obtain ⟨d, hd, hq⟩ := List.any_eq_true.mp hx
      have := hall d hd
      simp only [Bool.and_eq_true, Bool.not_eq_true', Nat.beq_eq_false_iff] at this
      simp only [Bool.or_eq_true, beq_iff_eq] at hq
      omega
    rw [e1, e2]; rfl
  have hop : x.opensWith "__" = false := by
    rw [Bool.eq_false_iff]
    intro hx
    have hx' : x.cps.extract 0 2 = #[95, 95] := by
      have : (("__" : PySem.Str)).cps = #[95, 95] := by decide +kernel
      unfold PySem.Str.opensWith at hx
      rw [this] at hx
      exact beq_iff_eq.mp hx
    have hl := congrArg Array.toList hx'
    rw [Array.toList_extract] at hl
    cases e : x.cps.toList with
    | nil => rw [e] at hl; simp at hl
    | cons c r =>
      rw [e] at hl hhead
      simp only [Nat.beq_eq_false_iff, Bool.not_eq_true'] at hhead
      simp [List.extract] at hl
      exact hhead hl.1
  unfold Look.str Look.word attrL
  rw [hfr, hroad, hop, l1, l2, l3]
  simp
theorem easy_all {lk : Look} {l : List Expr} (l1 : lk.strict = false) (l2 : lk.foot = none) (l3 : lk.but = none) (h : l.all easyE = true) : noRoadLs lk l = true := by
  rw [exprs_all, List.all_eq_true]
  intro e he
  have := List.all_eq_true.mp h e he
  unfold easyE at this
  split at this
  · show lk.str _ = true
    exact easy_ok l1 l2 l3 this
  · cases this
/-- the statement 14 is the def of row_of: its table apart -/
noncomputable def isRow : Stmt → Bool
  | .FunctionDef _ a (.Assign ts (.Dict ks vs _) _ :: r) ds ret tps _ _ _ _ =>
    noRoadLArgs lkS a && lkS.inDef.stores ts && noRoadLs lkS.inDef ts && noRoadLOpts lkS.inDef.out ks && noRoadLSs lkS.inDef r && noRoadLs lkS ds && noRoadLOpt lkS ret && noRoadLTps lkS tps
  | _ => false
noncomputable def rowVals : Stmt → List Expr
  | .FunctionDef _ _ (.Assign _ (.Dict _ vs _) _ :: _) _ _ _ _ _ _ _ => vs
  | _ => []
theorem cut_all {α : Type} (f : α → Bool) (n : Nat) {l : List α} (a : (l.take n).all f = true) (b : (l.drop n).all f = true) : l.all f = true := by
  rw [← List.take_append_drop n l, List.all_append, a, b]; rfl
theorem row_ok {s : Stmt} (h : isRow s = true) (h1 : (rowVals s).all easyE = true) : noRoadLS lkS s = true := by
  unfold isRow at h
  split at h
  · simp only [Bool.and_eq_true] at h
    obtain ⟨⟨⟨⟨⟨⟨⟨h2, h3⟩, h4⟩, h5⟩, h6⟩, h7⟩, h8⟩, h9⟩ := h
    rename_i nm a ts ks vs p q r ds ret tps x1 x2 x3 x4
    have e : noRoadLs lkS.inDef.out vs = true := easy_all rfl rfl rfl h1
    have g : noRoadLS lkS.inDef (.Assign ts (.Dict ks vs p) q) = true := by
      show (lkS.inDef.stores ts && noRoadLs lkS.inDef ts && (noRoadLOpts lkS.inDef.out ks && noRoadLs lkS.inDef.out vs)) = true
      rw [h3, h4, h5, e]; rfl
    show (noRoadLArgs lkS a && (noRoadLS lkS.inDef (.Assign ts (.Dict ks vs p) q) && noRoadLSs lkS.inDef r) && noRoadLs lkS ds && noRoadLOpt lkS ret && noRoadLTps lkS tps) = true
    rw [h2, g, h6, h7, h8, h9]; rfl
  · cases h
end Mine
open Mine
theorem Mine.p1.tw3896726915529954845 : True := trivial
set_option Elab.async true in
theorem Mine.p1 : noRoadLSs lkS (rw'.row.prog.main.body.take 14) = true := by k_qdec
theorem Mine.p2.tw3896726915529954845 : True := trivial
set_option Elab.async true in
theorem Mine.p2 : (((rw'.row.prog.main.body.drop 14).take 1).all isRow) = true := by k_qdec
theorem Mine.p2a.tw3896726915529954845 : True := trivial
set_option Elab.async true in
theorem Mine.p2a : (((rw'.row.prog.main.body.drop 14).take 1).all fun s => ((rowVals s).take 27).all easyE) = true := by k_qdec
theorem Mine.p2b.tw3896726915529954845 : True := trivial
set_option Elab.async true in
theorem Mine.p2b : (((rw'.row.prog.main.body.drop 14).take 1).all fun s => (((rowVals s).drop 27).take 6).all easyE) = true := by k_qdec
theorem Mine.p2c.tw3896726915529954845 : True := trivial
set_option Elab.async true in
theorem Mine.p2c : (((rw'.row.prog.main.body.drop 14).take 1).all fun s => ((((rowVals s).drop 27).drop 6).take 5).all easyE) = true := by k_qdec
theorem Mine.p2d.tw3896726915529954845 : True := trivial
set_option Elab.async true in
theorem Mine.p2d : (((rw'.row.prog.main.body.drop 14).take 1).all fun s => (((((rowVals s).drop 27).drop 6).drop 5).take 4).all easyE) = true := by k_qdec
theorem Mine.p2e.tw3896726915529954845 : True := trivial
set_option Elab.async true in
theorem Mine.p2e : (((rw'.row.prog.main.body.drop 14).take 1).all fun s => (((((rowVals s).drop 27).drop 6).drop 5).drop 4).all easyE) = true := by k_qdec
theorem Mine.p3.tw3896726915529954845 : True := trivial
set_option Elab.async true in
theorem Mine.p3 : noRoadLSs lkS ((rw'.row.prog.main.body.drop 14).drop 1) = true := by k_qdec
theorem Mine.p4 : noRoadLSs { strict := !(importedModules rw'.row.prog.main.body).all cThrough.contains, foot := none, bare := (["vars", "dir", "locals"] : List PySem.Str).filter (readsOut rw'.row.prog rw'.row.prog.main.body) } rw'.row.prog.main.body = true := by
  rw [lk_is]
  refine take_drop 14 p1 (take_drop 1 ?_ p3)
  rw [split_all, List.all_eq_true]
  intro st hs
  exact row_ok (List.all_eq_true.mp p2 st hs) (cut_all _ 27 (List.all_eq_true.mp p2a st hs) (cut_all _ 6 (List.all_eq_true.mp p2b st hs) (cut_all _ 5 (List.all_eq_true.mp p2c st hs) (cut_all _ 4 (List.all_eq_true.mp p2d st hs) (List.all_eq_true.mp p2e st hs)))))
theorem Mine.well.tw3896726915529954845 : True := trivial
set_option maxHeartbeats 0 in
set_option Elab.async true in
theorem Mine.well : rw'.wellSaid = true := by
  unfold OpenLaw.wellSaid OpenRow.wellSaid OpenRow.partSaid looksOpen
  repeat' (with_reducible refine look_both ?_ ?_)
  all_goals first | (with_reducible exact p4) | k_qdec | decide +kernel
section
local macro_rules | `(tactic| o_head $_) => `(tactic| assumption)
theorem Mine.top (x : PySem.Challenge.rw_nz0097_01.row.Holds) : PySem.Challenge.rw_nz0097_01.row.Holds := by k_head
end
namespace Mine
def notAssign : Stmt → Bool
  | .Assign .. => false
  | _ => true
def q : Program := { rw'.row.prog with main := { rw'.row.prog.main with body := rw'.row.prog.main.body.filter notAssign } }
noncomputable def as : List Addr := [2, 3, 15, 17, 18, 20, 21, 22, 24, 25, 27, 28, 29, 31, 32, 34, 35, 36, 38, 39, 41, 42, 43, 45, 46, 48, 49, 50, 52, 53, 55, 56, 57, 59, 60, 62, 63, 64, 66, 
67, 69, 70, 71, 73, 74, 76, 77, 78, 80, 81, 83, 84, 85, 87, 88, 90, 91, 92, 94, 95, 97, 98, 99, 101, 102, 104, 105, 106, 108, 109, 111, 112, 113, 115, 116, 118, 119, 120, 122, 
123, 125, 126, 127, 129, 130, 132, 133, 134, 136, 137, 139, 140, 141, 143, 144, 146, 147, 148, 150, 151, 153, 154, 155, 157, 158, 160, 161, 162, 164, 165, 167, 168, 169, 171, 172, 
174, 175, 176, 178, 179, 181, 182, 183, 185, 186, 188, 189, 190, 192, 193, 195, 196, 197, 199, 200, 202, 203, 204, 206, 207, 209, 210, 211, 218, 220, 221, 223, 224, 225, 226, 227, 
228, 231, 238, 239, 240, 243, 245, 246, 248, 249, 257, 259, 260, 262, 263, 264, 266, 267, 269, 270, 271, 273, 274, 276, 277, 278, 280, 281, 283, 284, 285, 286, 287, 288, 289, 299, 
300, 302, 303, 305, 306, 307, 309, 310, 312, 313, 314, 316, 317, 319, 320, 321, 323, 324, 326, 327, 328, 330, 331, 333, 334, 335, 337, 338, 340, 341, 342, 344, 345, 347, 348, 349, 
351, 352, 354, 355, 356, 358, 359, 361, 362, 363, 365, 366, 368, 369, 370, 372, 373, 375, 376, 377, 379, 380, 382, 383, 384, 386, 387, 389, 390, 391, 392, 394, 395, 397, 398, 399, 
401, 402, 404, 405, 406, 408, 409, 411, 412, 413, 415, 416, 418, 419, 420, 422, 423, 425, 426, 427, 429, 430, 432, 433, 434, 436, 437, 439, 440, 441, 443, 444, 446, 447, 448, 449, 
450, 451, 452, 462, 464, 465, 467, 468, 469, 471, 472, 474, 475, 476, 478, 479, 481, 482, 483, 485, 486, 488, 489, 490, 492, 493, 495, 496, 497, 499, 500, 502, 503, 504, 505, 506, 
507, 508, 511, 513, 514, 516, 517, 518, 520, 521, 523, 524, 525, 527, 528, 530, 531, 532, 534, 535, 537, 538, 539, 541, 542, 544, 545, 546, 548, 549, 551, 552, 553, 556, 557]

theorem asOk : ∀ P, as = (Mine.top.heap_1 P).map (·.1) := fun _ => by kernel_rfl
def Walks : Prop := ∀ d kwd, defOf Mine.q rw'.row.name = some (d, kwd) → WalkO Mine.q [] (XL Mine.q []) (kHook Mine.top.heap_1 Mine.as asOk).says rw'.row.toRowW d kwd (fun f vs => call f vs)
end Mine
namespace Mine
local macro_rules | `(tactic| k_room) => `(tactic| ktr_room)
local macro_rules | `(tactic| k_units) => `(tactic| ktr_units)
local macro_rules | `(tactic| k_all) => `(tactic| k_extra "kall")
local macro_rules | `(tactic| k_ne) => `(tactic| k_extra "kne")
local macro_rules | `(tactic| walk_at $s:str) => `(tactic| k_extra $s)
local macro_rules | `(tactic| walk_at "call ref") => `(tactic| (k_here; (try dsimp only); k_extra "mcall"))
theorem rsC2 : True := by
  k_with_none
  k_with "kne" => (refine neN ?_; (try dsimp only); first | with_reducible assumption | with_reducible exact Ne.symm (by with_reducible assumption) | (refine Nat.ne_of_lt ?_; (first | with_reducible assumption | with_reducible exact And.left (by with_reducible assumption) | with_reducible exact And.left (And.right (by with_reducible assumption)) | with_reducible exact And.left (And.right (And.right (by with_reducible assumption))) | with_reducible exact And.left (And.right (And.right (And.right (by with_reducible assumption)))) | with_reducible exact And.left (And.right (And.right (And.right (And.right (by with_reducible assumption))))) | with_reducible exact And.left (And.right (And.right (And.right (And.right (And.right (by with_reducible assumption)))))) | with_reducible exact And.left (And.right (And.right (And.right (And.right (And.right (And.right (by with_reducible assumption))))))) | with_reducible exact And.left (And.right (And.right (And.right (And.right (And.right (And.right (And.right (by with_reducible assumption)))))))) | with_reducible exact And.left (And.right (And.right (And.right (And.right (And.right (And.right (And.right (And.right (by with_reducible assumption))))))))) | with_reducible exact And.left (And.right (And.right (And.right (And.right (And.right (And.right (And.right (And.right (And.right (by with_reducible assumption)))))))))) | with_reducible exact And.left (And.right (And.right (And.right (And.right (And.right (And.right (And.right (And.right (And.right (And.right (by with_reducible assumption))))))))))) | with_reducible exact And.left (And.right (And.right (And.right (And.right (And.right (And.right (And.right (And.right (And.right (And.right (And.right (by with_reducible assumption)))))))))))) | with_reducible exact And.left (And.right (And.right (And.right (And.right (And.right (And.right (And.right (And.right (And.right (And.right (And.right (And.right (by with_reducible assumption))))))))))))) | with_reducible exact (And.right (by with_reducible assumption)) | with_reducible exact (And.right (And.right (by with_reducible assumption))) | with_reducible exact (And.right (And.right (And.right (by with_reducible assumption)))) | with_reducible exact (And.right (And.right (And.right (And.right (by with_reducible assumption))))) | with_reducible exact (And.right (And.right (And.right (And.right (And.right (by with_reducible assumption)))))) | with_reducible exact (And.right (And.right (And.right (And.right (And.right (And.right (by with_reducible assumption))))))))) | (refine Nat.ne_of_gt ?_; (first | with_reducible assumption | with_reducible exact And.left (by with_reducible assumption) | with_reducible exact And.left (And.right (by with_reducible assumption)) | with_reducible exact And.left (And.right (And.right (by with_reducible assumption))) | with_reducible exact And.left (And.right (And.right (And.right (by with_reducible assumption)))) | with_reducible exact And.left (And.right (And.right (And.right (And.right (by with_reducible assumption))))) | with_reducible exact And.left (And.right (And.right (And.right (And.right (And.right (by with_reducible assumption)))))) | with_reducible exact And.left (And.right (And.right (And.right (And.right (And.right (And.right (by with_reducible assumption))))))) | with_reducible exact And.left (And.right (And.right (And.right (And.right (And.right (And.right (And.right (by with_reducible assumption)))))))) | with_reducible exact And.left (And.right (And.right (And.right (And.right (And.right (And.right (And.right (And.right (by with_reducible assumption))))))))) | with_reducible exact And.left (And.right (And.right (And.right (And.right (And.right (And.right (And.right (And.right (And.right (by with_reducible assumption)))))))))) | with_reducible exact And.left (And.right (And.right (And.right (And.right (And.right (And.right (And.right (And.right (And.right (And.right (by with_reducible assumption))))))))))) | with_reducible exact And.left (And.right (And.right (And.right (And.right (And.right (And.right (And.right (And.right (And.right (And.right (And.right (by with_reducible assumption)))))))))))) | with_reducible exact And.left (And.right (And.right (And.right (And.right (And.right (And.right (And.right (And.right (And.right (And.right (And.right (And.right (by with_reducible assumption))))))))))))) | with_reducible exact (And.right (by with_reducible assumption)) | with_reducible exact (And.right (And.right (by with_reducible assumption))) | with_reducible exact (And.right (And.right (And.right (by with_reducible assumption)))) | with_reducible exact (And.right (And.right (And.right (And.right (by with_reducible assumption))))) | with_reducible exact (And.right (And.right (And.right (And.right (And.right (by with_reducible assumption)))))) | with_reducible exact (And.right (And.right (And.right (And.right (And.right (And.right (by with_reducible assumption))))))))) | omega)
  trivial
noncomputable def c1Tab : List Int := [8364, 0, 8218, 402, 8222, 8230, 8224, 8225, 710, 8240, 352, 8249, 338, 0, 381, 0, 0, 8216, 8217, 8220, 8221, 8226, 8211, 8212, 732, 8482, 353, 8250, 339, 0, 382, 376]
noncomputable def c1 (code : Int) : Int := if 128 ≤ code ∧ code ≤ 159 ∧ c1Tab.getD (code - 128).toNat 0 ≠ 0 then c1Tab.getD (code - 128).toNat 0 else code
theorem c1_low : ∀ v ∈ c1Tab, 0 ≤ v ∧ v ≤ 8482 := by decide
theorem c1_room {code : Int} (h0 : 0 ≤ code) (h1 : code ≤ 1114111) : 0 ≤ c1 code ∧ c1 code ≤ 1114111 := by
  unfold c1
  split
  · rename_i h
    have : (code - 128).toNat < c1Tab.length := by show _ < 32; omega
    have e : c1Tab.getD (code - 128).toNat 0 = c1Tab[(code - 128).toNat] := by simp [List.getD, this]
    have := c1_low _ (List.getElem_mem this)
    rw [e]; omega
  · omega
theorem c1_claim {w : World} {mean : ExcName → Option Value} {mg mb : PySem.Str → Option Value} {dp un : Nat} {gd : Option (List Code)} {cn : PySem.Str} {cs : Scope} {a : Addr} {ccd : Value} {cl : List (PySem.Str × Addr)} {outer : List Env} {A₀ : Around} {base h₀ : Heap} {L : Addr} {m : PySem.Str → Option Value} {s : Shared} {Q E : Value → Shared → Prop} {news : List (Addr × Obj)} {code : Int} {t1 : Tok} (B : Below A₀ base outer h₀) (F : Fr h₀ L s.heap m) (X : (Mine.top.heap_1 w.params).In h₀) (N : News h₀ L s.heap news) (T : Top q (looseW q []) mean mg mb h₀) (hk : cs.kind = .function) (hd : dp + 2 < recursionLimit) (hu : un + 16 < cLine) (h0 : 0 ≤ code)
    (hret : ∀ (t : Tok) (h' : Heap) (tk' : Nat), Fr h₀ L h' m → News h₀ L h' news → Q (.int (c1 code) t) { s with heap := h', toks := tk' }) :
    wpAny (model rw'.row.toRowW.prog w) (ktrTop dp un gd cn cs L a ccd cl outer) (call (.ref 84) [.int code t1]) Q E s := by
  revert X
  k_fill
  intro X
  refine wpAny_call ?_
  k_dflt cell_enter
  k_steps
  all_goals (refine cb_retI (x := c1 code) hret ?e1 ?e2 ?e3; (case e2 => k_asm); (case e3 => first | k_asm | (refine' cb_drop ?cbN ?cbS; (case cbN => assumption); (case cbS => kcj_all))); (case e1 => unfold c1 c1Tab; simp_all <;> omega))
theorem wdC2x1 : True := by
  k_with "mcall" => ((with_reducible show wpAny _ _ (call (Value.ref (nat_lit 84)) [Value.int _ _]) _ _ _); k_dflt (refine' c1_claim ?k1 ?k2 ?k3 ?k4 ?k5 ?k6 ?k7 ?k8 ?kp ?_; (case k1 => k_asm); (case k2 => k_asm); (case k3 => k_asm); (case k4 => k_asm); (case k5 => k_asm); (case k6 => first | exact rfl | assumption); (case k7 => ktr_room); (case k8 => ktr_units); (case kp => omega)); intro t9 h9 tk9 F9 N9; (have hc19 := c1_room (by assumption) (by omega)); (try dsimp only); (try k_fold))
  trivial
noncomputable def mChar (code : Int) : Nat := if code = 0 ∨ 1114111 < code ∨ (55296 ≤ code ∧ code ≤ 57343) then 65533 else (c1 code).toNat
noncomputable def mText (code : Int) : PySem.Str := ⟨#[mChar code]⟩
noncomputable def mFault (code : Int) : Option PySem.Str :=
  if code = 0 then some (PySem.Str.ofString "null-character-reference")
  else if 1114111 < code then some (PySem.Str.ofString "character-reference-outside-unicode-range")
  else if 55296 ≤ code ∧ code ≤ 57343 then some (PySem.Str.ofString "surrogate-character-reference")
  else if (64976 ≤ code ∧ code ≤ 65007) ∨ 65534 ≤ code % 65536 then some (PySem.Str.ofString "noncharacter-character-reference")
  else if (code ≤ 31 ∨ (127 ≤ code ∧ code ≤ 159)) ∧ ¬ (code = 9 ∨ code = 10 ∨ code = 12) then some (PySem.Str.ofString "control-character-reference")
  else none
/-- a pair (text, fault or None) came back -/
noncomputable def PairIs (code : Int) (o : Obj) : Prop :=
  (∃ t1 c, mFault code = none ∧ o = ({ cls := .type "tuple", data := .seq #[.str (mText code) t1, .none] c } : Obj)) ∨
  (∃ t1 f t2 c, mFault code = some f ∧ o = ({ cls := .type "tuple", data := .seq #[.str (mText code) t1, .str f t2] c } : Obj))
theorem pair_ret {h₀ h : Heap} {L D : Addr} {m : PySem.Str → Option Value} {news news' : List (Addr × Obj)} {s : Shared} {Q : Value → Shared → Prop} {code : Int} {o : Obj} {tk : Nat}
    (hret : ∀ (D : Addr) (o : Obj) (h' : Heap) (tk' : Nat), PairIs code o → Fr h₀ L h' m → News h₀ L h' ((D, o) :: news) → (∀ p ∈ news, p.1 < D) → Q (.ref D) { s with heap := h', toks := tk' })
    (P : PairIs code o) (F : Fr h₀ L h m) (N : News h₀ L h news') (hD : (D, o) ∈ news') (hs : ∀ p ∈ news, p ∈ news') (hl : ∀ p ∈ news, p.1 < D) : Q (.ref D) { s with heap := h, toks := tk } := by
  refine hret D o h tk P F (fun p hp => ?_) hl
  rcases List.mem_cons.mp hp with rfl | hp
  · exact N _ hD
  · exact N p (hs p hp)
theorem fffd : PySem.Str.ofString "\uFFFD" = ⟨#[65533]⟩ := by decide +kernel
theorem pairN {code : Int} {x : PySem.Str} {t1 : Tok} {c : Nat} (ht : x = mText code) (hf : mFault code = none) : PairIs code { cls := .type "tuple", data := .seq #[.str x t1, .none] c } := by
  subst ht; exact .inl ⟨_, _, hf, rfl⟩
theorem pairS {code : Int} {x f : PySem.Str} {t1 t2 : Tok} {c : Nat} (ht : x = mText code) (hf : mFault code = some f) : PairIs code { cls := .type "tuple", data := .seq #[.str x t1, .str f t2] c } := by
  subst ht; exact .inr ⟨_, _, _, _, hf, rfl⟩
theorem lt_of_allLt {d : Addr} : ∀ {l : List (Addr × Obj)}, AllLt d l → ∀ p ∈ l, p.1 < d
  | [], _, _, hp => nomatch hp
  | _ :: _, h, _, hp => by
    rcases List.mem_cons.mp hp with rfl | hp
    · exact h.1
    · exact lt_of_allLt h.2 _ hp
theorem nonchar_t {code : Int} (h : (if 64976 ≤ code ∧ code ≤ 65007 then decide (code ≤ 65007) else if 64976 ≤ code ∧ ¬code ≤ 65007 then decide (65534 ≤ code.fmod 65536) else decide (65534 ≤ code.fmod 65536)) = true) : (64976 ≤ code ∧ code ≤ 65007) ∨ 65534 ≤ code % 65536 := by
  rw [Int.fmod_eq_emod_of_nonneg _ (by decide)] at h
  split at h <;> (try split at h) <;> simp only [decide_eq_true_eq] at h <;> omega
theorem nonchar_f {code : Int} (h : (if 64976 ≤ code ∧ code ≤ 65007 then decide (code ≤ 65007) else if 64976 ≤ code ∧ ¬code ≤ 65007 then decide (65534 ≤ code.fmod 65536) else decide (65534 ≤ code.fmod 65536)) = false) : ¬ ((64976 ≤ code ∧ code ≤ 65007) ∨ 65534 ≤ code % 65536) := by
  rw [Int.fmod_eq_emod_of_nonneg _ (by decide)] at h
  split at h <;> (try split at h) <;> simp only [decide_eq_false_iff_not] at h <;> omega
theorem ctrl_t {code : Int} (h : (if code ≤ 31 then decide (code ≤ 31) else if 127 ≤ code then decide (code ≤ 159) else decide (127 ≤ code)) = true) : code ≤ 31 ∨ (127 ≤ code ∧ code ≤ 159) := by
  split at h <;> (try split at h) <;> simp only [decide_eq_true_eq] at h <;> omega
theorem ctrl_f {code : Int} (h : (if code ≤ 31 then decide (code ≤ 31) else if 127 ≤ code then decide (code ≤ 159) else decide (127 ≤ code)) = false) : ¬ (code ≤ 31 ∨ (127 ≤ code ∧ code ≤ 159)) := by
  split at h <;> (try split at h) <;> simp only [decide_eq_false_iff_not] at h <;> omega
theorem in3_t {code : Int} (h : (([9, 10, 12] : List Int).any fun x => x == code) = true) : code = 9 ∨ code = 10 ∨ code = 12 := by
  simp at h; omega
theorem in3_f {code : Int} (h : (([9, 10, 12] : List Int).any fun x => x == code) = false) : ¬ (code = 9 ∨ code = 10 ∨ code = 12) := by
  simp at h; omega
theorem c1_off {code : Int} (h : ¬ (128 ≤ code ∧ code ≤ 159)) : c1 code = code := by
  unfold c1; rw [if_neg]; rintro ⟨a, b, _⟩; exact h ⟨a, b⟩
theorem mChar_off {code : Int} (h0 : 0 ≤ code) (h1 : code ≠ 0) (h2 : code ≤ 1114111) (h3 : ¬ (55296 ≤ code ∧ code ≤ 57343)) : mChar code = (c1 code).toNat := by
  unfold mChar; rw [if_neg]; omega
theorem mChar_on {code : Int} (h : code = 0 ∨ 1114111 < code ∨ (55296 ≤ code ∧ code ≤ 57343)) : mChar code = 65533 := by
  unfold mChar; rw [if_pos h]
section
variable {code : Int} {t1 t2 : Tok} {n : Nat}
theorem P_null (h : code = 0) : PairIs code { cls := .type "tuple", data := .seq #[.str (PySem.Str.ofString "\uFFFD") t1, .str (PySem.Str.ofString "null-character-reference") t2] n } :=
  pairS (by unfold mText; rw [fffd, mChar_on (.inl h)]) (by unfold mFault; rw [if_pos h])
theorem P_big (h : 1114111 < code) : PairIs code { cls := .type "tuple", data := .seq #[.str (PySem.Str.ofString "\uFFFD") t1, .str (PySem.Str.ofString "character-reference-outside-unicode-range") t2] n } :=
  pairS (by unfold mText; rw [fffd, mChar_on (.inr (.inl h))]) (by unfold mFault; rw [if_neg (by omega), if_pos h])
theorem P_surr (h1 : 55296 ≤ code) (h2 : code ≤ 57343) : PairIs code { cls := .type "tuple", data := .seq #[.str (PySem.Str.ofString "\uFFFD") t1, .str (PySem.Str.ofString "surrogate-character-reference") t2] n } :=
  pairS (by unfold mText; rw [fffd, mChar_on (.inr (.inr ⟨h1, h2⟩))]) (by unfold mFault; rw [if_neg (by omega), if_neg (by omega), if_pos ⟨h1, h2⟩])
variable (h0 : 0 ≤ code) (hz : code ≠ 0) (hb : ¬ 1114111 < code) (hs : ¬ (55296 ≤ code ∧ code ≤ 57343))
include h0 hz hb hs
theorem P_chr (h : ¬ (128 ≤ code ∧ code ≤ 159)) : (⟨#[code.toNat]⟩ : PySem.Str) = mText code := by
  unfold mText; rw [mChar_off h0 hz (Int.not_lt.mp hb) hs, c1_off h]
theorem P_c1 : (⟨#[(c1 code).toNat]⟩ : PySem.Str) = mText code := by
  unfold mText; rw [mChar_off h0 hz (Int.not_lt.mp hb) hs]
theorem P_non (h : (64976 ≤ code ∧ code ≤ 65007) ∨ 65534 ≤ code % 65536) : PairIs code { cls := .type "tuple", data := .seq #[.str ⟨#[code.toNat]⟩ t1, .str (PySem.Str.ofString "noncharacter-character-reference") t2] n } :=
  pairS (P_chr h0 hz hb hs (by omega)) (by unfold mFault; rw [if_neg hz, if_neg hb, if_neg hs, if_pos h])
variable (hn : ¬ ((64976 ≤ code ∧ code ≤ 65007) ∨ 65534 ≤ code % 65536))
include hn
theorem P_ctrl {x : PySem.Str} (hx : x = mText code) (h : code ≤ 31 ∨ (127 ≤ code ∧ code ≤ 159)) (h9 : ¬ (code = 9 ∨ code = 10 ∨ code = 12)) : PairIs code { cls := .type "tuple", data := .seq #[.str x t1, .str (PySem.Str.ofString "control-character-reference") t2] n } :=
  pairS hx (by unfold mFault; rw [if_neg hz, if_neg hb, if_neg hs, if_neg hn, if_pos ⟨h, h9⟩])
theorem P_none (h9 : ¬ ((code ≤ 31 ∨ (127 ≤ code ∧ code ≤ 159)) ∧ ¬ (code = 9 ∨ code = 10 ∨ code = 12))) : PairIs code { cls := .type "tuple", data := .seq #[.str ⟨#[code.toNat]⟩ t1, .none] n } :=
  pairN (P_chr h0 hz hb hs (by omega)) (by unfold mFault; rw [if_neg hz, if_neg hb, if_neg hs, if_neg hn, if_neg h9])
end
theorem n65 {code : Int} (h : 65533 < code % 65536) : 65534 ≤ code % 65536 := by omega
theorem big_t {code : Int} (h : 16 < code / 65536) : 1114111 < code := by omega
theorem big_f {code : Int} (h : ¬ 16 < code / 65536) : ¬ 1114111 < code := by omega
theorem surr_t {code : Int} (h : code / 2048 = 27) : 55296 ≤ code ∧ code ≤ 57343 := by omega
theorem surr_f {code : Int} (h : code / 2048 ≠ 27) : ¬ (55296 ≤ code ∧ code ≤ 57343) := by omega
theorem non_t {code : Int} (h : (code - 64976) / 32 = 0) : (64976 ≤ code ∧ code ≤ 65007) ∨ 65534 ≤ code % 65536 := by omega
theorem non_f {code : Int} (h1 : ¬ 65533 < code % 65536) (h2 : (code - 64976) / 32 ≠ 0) : ¬ ((64976 ≤ code ∧ code ≤ 65007) ∨ 65534 ≤ code % 65536) := by omega
theorem c32_t {code : Int} (h : code / 32 = 4) : (code ≤ 31 ∨ (127 ≤ code ∧ code ≤ 159)) ∧ ¬ (code = 9 ∨ code = 10 ∨ code = 12) := by omega
theorem c127_t {code : Int} (h : code = 127) : (code ≤ 31 ∨ (127 ≤ code ∧ code ≤ 159)) ∧ ¬ (code = 9 ∨ code = 10 ∨ code = 12) ∧ ¬ (128 ≤ code ∧ code ≤ 159) := by omega
theorem c31_t {code : Int} (h : code < 32) : (code ≤ 31 ∨ (127 ≤ code ∧ code ≤ 159)) ∧ ¬ (128 ≤ code ∧ code ≤ 159) := by omega
theorem c31_f {code : Int} (h : ¬ code < 32) (h1 : code ≠ 127) (h2 : code / 32 ≠ 4) : ¬ (code ≤ 31 ∨ (127 ≤ code ∧ code ≤ 159)) := by omega
theorem numref_claim {w : World} {mean : ExcName → Option Value} {mg mb : PySem.Str → Option Value} {dp un : Nat} {gd : Option (List Code)} {cn : PySem.Str} {cs : Scope} {a : Addr} {ccd : Value} {cl : List (PySem.Str × Addr)} {outer : List Env} {A₀ : Around} {base h₀ : Heap} {L : Addr} {m : PySem.Str → Option Value} {s : Shared} {Q E : Value → Shared → Prop} {news : List (Addr × Obj)} {code : Int} {t1 : Tok} (B : Below A₀ base outer h₀) (F : Fr h₀ L s.heap m) (X : (Mine.top.heap_1 w.params).In h₀) (N : News h₀ L s.heap news) (T : Top q (looseW q []) mean mg mb h₀) (hk : cs.kind = .function) (hd : dp + 4 < recursionLimit) (hu : un + 32 < cLine) (h0 : 0 ≤ code)
    (hret : ∀ (D : Addr) (o : Obj) (h' : Heap) (tk' : Nat), PairIs code o → Fr h₀ L h' m → News h₀ L h' ((D, o) :: news) → (∀ p ∈ news, p.1 < D) → Q (.ref D) { s with heap := h', toks := tk' }) :
    wpAny (model rw'.row.toRowW.prog w) (ktrTop dp un gd cn cs L a ccd cl outer) (call (.ref 91) [.int code t1]) Q E s := by
  revert X
  k_fill
  intro X
  refine wpAny_call ?_
  k_dflt cell_enter
  k_steps
  all_goals (
    rename News h₀ L _ _ => kN9
    refine pair_ret hret ?_ (by k_asm) kN9 (by k_mem) (by kcj_all) (by first | assumption | exact lt_of_allLt (by assumption) | exact lt_of_allLt (And.right (by assumption)) | exact lt_of_allLt (And.right (And.right (by assumption))))
    (try have hA := nonchar_t (by with_reducible assumption))
    (try have hA := nonchar_f (by with_reducible assumption))
    (try have hB := ctrl_t (by with_reducible assumption))
    (try have hB := ctrl_f (by with_reducible assumption))
    (try have hC := in3_t (by with_reducible assumption))
    (try have hC := in3_f (by with_reducible assumption))
    first
      | exact P_null (by with_reducible assumption)
      | exact P_big (by with_reducible assumption)
      | exact P_surr (by with_reducible assumption) (by with_reducible assumption)
      | (have hS : ¬ (55296 ≤ code ∧ code ≤ 57343) := (by first | exact fun h => absurd h.1 (by with_reducible assumption) | exact fun h => absurd h.2 (by with_reducible assumption))
         first
         | exact P_non h0 (by with_reducible assumption) (by with_reducible assumption) hS hA
         | exact P_ctrl h0 (by with_reducible assumption) (by with_reducible assumption) hS (by first | exact hA | omega) (P_c1 h0 (by with_reducible assumption) (by with_reducible assumption) hS) hB hC
         | exact P_none h0 (by with_reducible assumption) (by with_reducible assumption) hS (by first | exact hA | omega) (by first | exact fun h => hB h.1 | exact fun h => h.2 hC | omega)))
theorem wdC2x2 : True := by
  k_with "mcall" => ((with_reducible show wpAny _ _ (call (Value.ref (nat_lit 91)) [Value.int _ _]) _ _ _); k_dflt (refine' numref_claim ?k1 ?k2 ?k3 ?k4 ?k5 ?k6 ?k7 ?k8 ?kp ?_; (case k1 => k_asm); (case k2 => k_asm); (case k3 => k_asm); (case k4 => k_asm); (case k5 => k_asm); (case k6 => first | exact rfl | assumption); (case k7 => ktr_room); (case k8 => ktr_units); (case kp => omega)); intro D9 o9 h9 tk9 P9 F9 N9 l9; (try k_lt l9); k_dflt (unfold PairIs at P9; rcases P9 with ⟨t19, c19, hf9, he9⟩ | ⟨t19, f9, t29, c19, hf9, he9⟩); all_goals ((subst he9); (try dsimp only); (try k_fold)))
  trivial
noncomputable def rowText : PySem.Str := PySem.Str.ofString "€\x81‚ƒ„…†‡ˆ‰Š‹Œ\x8dŽ\x8f" ++ PySem.Str.ofString "\x90‘’“”•–—˜™š›œ\x9džŸ"
theorem row_items : ∀ j : Fin 32, Txt.item (PySem.Str.ofString "€\x81‚ƒ„…†‡ˆ‰Š‹Œ\x8dŽ\x8f\x90‘’“”•–—˜™š›œ\x9džŸ") (j.val : Int) = ⟨#[(c1 (128 + (j.val : Int))).toNat]⟩ := by decide +kernel
theorem row_item {code : Int} (h : code / 32 = 4) : Txt.item (PySem.Str.ofString "€\x81‚ƒ„…†‡ˆ‰Š‹Œ\x8dŽ\x8f\x90‘’“”•–—˜™š›œ\x9džŸ") (code % 32) = ⟨#[(c1 code).toNat]⟩ := by
  have hj : (code % 32).toNat < 32 := by omega
  have e := row_items ⟨(code % 32).toNat, hj⟩
  have e1 : (((⟨(code % 32).toNat, hj⟩ : Fin 32).val : Nat) : Int) = code % 32 := by show (((code % 32).toNat : Nat) : Int) = _; omega
  rw [e1] at e
  have e2 : 128 + code % 32 = code := by omega
  rw [e2] at e
  exact e
theorem meant_claim {w : World} {mean : ExcName → Option Value} {mg mb : PySem.Str → Option Value} {dp un : Nat} {gd : Option (List Code)} {cn : PySem.Str} {cs : Scope} {a : Addr} {ccd : Value} {cl : List (PySem.Str × Addr)} {outer : List Env} {A₀ : Around} {base h₀ : Heap} {L : Addr} {m : PySem.Str → Option Value} {s : Shared} {Q E : Value → Shared → Prop} {news : List (Addr × Obj)} {code : Int} {t1 : Tok} (B : Below A₀ base outer h₀) (F : Fr h₀ L s.heap m) (X : (Mine.top.heap_1 w.params).In h₀) (N : News h₀ L s.heap news) (T : Top q (looseW q []) mean mg mb h₀) (hk : cs.kind = .function) (hd : dp + 4 < recursionLimit) (hu : un + 32 < cLine) (h0 : 0 ≤ code)
    (hret : ∀ (D : Addr) (o : Obj) (h' : Heap) (tk' : Nat), PairIs code o → Fr h₀ L h' m → News h₀ L h' ((D, o) :: news) → (∀ p ∈ news, p.1 < D) → Q (.ref D) { s with heap := h', toks := tk' }) :
    wpAny (model rw'.row.toRowW.prog w) (ktrTop dp un gd cn cs L a ccd cl outer) (call (.ref 531) [.int code t1]) Q E s := by
  revert X
  k_fill
  intro X
  refine wpAny_call ?_
  k_dflt cell_enter
  k_steps
  all_goals (
    rename News h₀ L _ _ => kN9
    refine pair_ret hret ?_ (by k_asm) kN9 (by k_mem) (by kcj_all) (by first | assumption | exact lt_of_allLt (by assumption) | exact lt_of_allLt (And.right (by assumption)) | exact lt_of_allLt (And.right (And.right (by assumption))))
    (try have hC := in3_t (by with_reducible assumption))
    (try have hC := in3_f (by with_reducible assumption))
    (try simp only [Int.fdiv_eq_ediv_of_nonneg _ (by decide : (0:Int) ≤ 65536), Int.fdiv_eq_ediv_of_nonneg _ (by decide : (0:Int) ≤ 2048), Int.fdiv_eq_ediv_of_nonneg _ (by decide : (0:Int) ≤ 32), Int.fmod_eq_emod_of_nonneg _ (by decide : (0:Int) ≤ 65536)] at *)
    first
      | exact P_null (by with_reducible assumption)
      | exact P_big (big_t (by with_reducible assumption))
      | exact P_surr (surr_t (by with_reducible assumption)).1 (surr_t (by with_reducible assumption)).2
      | (have hG := big_f (by with_reducible assumption)
         have hS := surr_f (by with_reducible assumption)
         first
         | exact P_non h0 (by with_reducible assumption) hG hS (.inr (n65 (code := code) (by with_reducible assumption)))
         | exact P_non h0 (by with_reducible assumption) hG hS (non_t (by with_reducible assumption))
         | (have hN := non_f (by with_reducible assumption) (by with_reducible assumption)
            first
            | (have h4 : code / 32 = 4 := (by with_reducible assumption)
               refine P_ctrl h0 (by with_reducible assumption) hG hS hN ?_ (c32_t h4).1 (c32_t h4).2
               rw [Int.fmod_eq_emod_of_nonneg _ (by decide : (0:Int) ≤ 32), row_item h4]; exact P_c1 h0 (by with_reducible assumption) hG hS)
            | (have h7 : code = 127 := (by with_reducible assumption)
               exact P_ctrl h0 (by with_reducible assumption) hG hS hN (P_chr h0 (by with_reducible assumption) hG hS (c127_t h7).2.2) (c127_t h7).1 (c127_t h7).2.1)
            | (have h3 : code < 32 := (by with_reducible assumption)
               first
               | exact P_none h0 (by with_reducible assumption) hG hS hN (fun h => h.2 hC)
               | exact P_ctrl h0 (by with_reducible assumption) hG hS hN (P_chr h0 (by with_reducible assumption) hG hS (c31_t h3).2) (c31_t h3).1 hC)
            | exact P_none h0 (by with_reducible assumption) hG hS hN (fun h => c31_f (code := code) (by with_reducible assumption) (by with_reducible assumption) (by with_reducible assumption) h.1))))
theorem wdC2x3 : True := by
  k_with "mcall" => ((with_reducible show wpAny _ _ (call (Value.ref (nat_lit 531)) [Value.int _ _]) _ _ _); k_dflt (refine' meant_claim ?k1 ?k2 ?k3 ?k4 ?k5 ?k6 ?k7 ?k8 ?kp ?_; (case k1 => k_asm); (case k2 => k_asm); (case k3 => k_asm); (case k4 => k_asm); (case k5 => k_asm); (case k6 => first | exact rfl | assumption); (case k7 => ktr_room); (case k8 => ktr_units); (case kp => omega)); intro D9 o9 h9 tk9 P9 F9 N9 l9; (try k_lt l9); k_dflt (unfold PairIs at P9; rcases P9 with ⟨t19, c19, hf9, he9⟩ | ⟨t19, f9, t29, c19, hf9, he9⟩); all_goals ((subst he9); (try dsimp only); (try k_fold)))
  trivial

theorem rsC1 : True := by
  k_with_none
  k_with "kne" => (refine neN ?_; (try dsimp only); first | with_reducible assumption | with_reducible exact Ne.symm (by with_reducible assumption) | (refine Nat.ne_of_lt ?_; (first | with_reducible assumption | with_reducible exact And.left (by with_reducible assumption) | with_reducible exact And.left (And.right (by with_reducible assumption)) | with_reducible exact And.left (And.right (And.right (by with_reducible assumption))) | with_reducible exact And.left (And.right (And.right (And.right (by with_reducible assumption)))) | with_reducible exact And.left (And.right (And.right (And.right (And.right (by with_reducible assumption))))) | with_reducible exact And.left (And.right (And.right (And.right (And.right (And.right (by with_reducible assumption)))))) | with_reducible exact And.left (And.right (And.right (And.right (And.right (And.right (And.right (by with_reducible assumption))))))) | with_reducible exact And.left (And.right (And.right (And.right (And.right (And.right (And.right (And.right (by with_reducible assumption)))))))) | with_reducible exact And.left (And.right (And.right (And.right (And.right (And.right (And.right (And.right (And.right (by with_reducible assumption))))))))) | with_reducible exact And.left (And.right (And.right (And.right (And.right (And.right (And.right (And.right (And.right (And.right (by with_reducible assumption)))))))))) | with_reducible exact And.left (And.right (And.right (And.right (And.right (And.right (And.right (And.right (And.right (And.right (And.right (by with_reducible assumption))))))))))) | with_reducible exact And.left (And.right (And.right (And.right (And.right (And.right (And.right (And.right (And.right (And.right (And.right (And.right (by with_reducible assumption)))))))))))) | with_reducible exact And.left (And.right (And.right (And.right (And.right (And.right (And.right (And.right (And.right (And.right (And.right (And.right (And.right (by with_reducible assumption))))))))))))) | with_reducible exact (And.right (by with_reducible assumption)) | with_reducible exact (And.right (And.right (by with_reducible assumption))) | with_reducible exact (And.right (And.right (And.right (by with_reducible assumption)))) | with_reducible exact (And.right (And.right (And.right (And.right (by with_reducible assumption))))) | with_reducible exact (And.right (And.right (And.right (And.right (And.right (by with_reducible assumption)))))) | with_reducible exact (And.right (And.right (And.right (And.right (And.right (And.right (by with_reducible assumption))))))))) | (refine Nat.ne_of_gt ?_; (first | with_reducible assumption | with_reducible exact And.left (by with_reducible assumption) | with_reducible exact And.left (And.right (by with_reducible assumption)) | with_reducible exact And.left (And.right (And.right (by with_reducible assumption))) | with_reducible exact And.left (And.right (And.right (And.right (by with_reducible assumption)))) | with_reducible exact And.left (And.right (And.right (And.right (And.right (by with_reducible assumption))))) | with_reducible exact And.left (And.right (And.right (And.right (And.right (And.right (by with_reducible assumption)))))) | with_reducible exact And.left (And.right (And.right (And.right (And.right (And.right (And.right (by with_reducible assumption))))))) | with_reducible exact And.left (And.right (And.right (And.right (And.right (And.right (And.right (And.right (by with_reducible assumption)))))))) | with_reducible exact And.left (And.right (And.right (And.right (And.right (And.right (And.right (And.right (And.right (by with_reducible assumption))))))))) | with_reducible exact And.left (And.right (And.right (And.right (And.right (And.right (And.right (And.right (And.right (And.right (by with_reducible assumption)))))))))) | with_reducible exact And.left (And.right (And.right (And.right (And.right (And.right (And.right (And.right (And.right (And.right (And.right (by with_reducible assumption))))))))))) | with_reducible exact And.left (And.right (And.right (And.right (And.right (And.right (And.right (And.right (And.right (And.right (And.right (And.right (by with_reducible assumption)))))))))))) | with_reducible exact And.left (And.right (And.right (And.right (And.right (And.right (And.right (And.right (And.right (And.right (And.right (And.right (And.right (by with_reducible assumption))))))))))))) | with_reducible exact (And.right (by with_reducible assumption)) | with_reducible exact (And.right (And.right (by with_reducible assumption))) | with_reducible exact (And.right (And.right (And.right (by with_reducible assumption)))) | with_reducible exact (And.right (And.right (And.right (And.right (by with_reducible assumption))))) | with_reducible exact (And.right (And.right (And.right (And.right (And.right (by with_reducible assumption)))))) | with_reducible exact (And.right (And.right (And.right (And.right (And.right (And.right (by with_reducible assumption))))))))) | omega)
  k_with "mcall" => ((with_reducible show wpAny _ _ (call (Value.ref (nat_lit 84)) [Value.int _ _]) _ _ _); k_dflt (refine' c1_claim ?k1 ?k2 ?k3 ?k4 ?k5 ?k6 ?k7 ?k8 ?kp ?_; (case k1 => k_asm); (case k2 => k_asm); (case k3 => k_asm); (case k4 => k_asm); (case k5 => k_asm); (case k6 => first | exact rfl | assumption); (case k7 => ktr_room); (case k8 => ktr_units); (case kp => omega)); intro t9 h9 tk9 F9 N9; (have hc19 := c1_room (by assumption) (by omega)); (try dsimp only); (try k_fold))
  k_with "mcall" => ((with_reducible show wpAny _ _ (call (Value.ref (nat_lit 91)) [Value.int _ _]) _ _ _); k_dflt (refine' numref_claim ?k1 ?k2 ?k3 ?k4 ?k5 ?k6 ?k7 ?k8 ?kp ?_; (case k1 => k_asm); (case k2 => k_asm); (case k3 => k_asm); (case k4 => k_asm); (case k5 => k_asm); (case k6 => first | exact rfl | assumption); (case k7 => ktr_room); (case k8 => ktr_units); (case kp => omega)); intro D9 o9 h9 tk9 P9 F9 N9 l9; (try k_lt l9); k_dflt (unfold PairIs at P9; rcases P9 with ⟨t19, c19, hf9, he9⟩ | ⟨t19, f9, t29, c19, hf9, he9⟩); all_goals ((subst he9); (try dsimp only); (try k_fold)))
  k_with "mcall" => ((with_reducible show wpAny _ _ (call (Value.ref (nat_lit 531)) [Value.int _ _]) _ _ _); k_dflt (refine' meant_claim ?k1 ?k2 ?k3 ?k4 ?k5 ?k6 ?k7 ?k8 ?kp ?_; (case k1 => k_asm); (case k2 => k_asm); (case k3 => k_asm); (case k4 => k_asm); (case k5 => k_asm); (case k6 => first | exact rfl | assumption); (case k7 => ktr_room); (case k8 => ktr_units); (case kp => omega)); intro D9 o9 h9 tk9 P9 F9 N9 l9; (try k_lt l9); k_dflt (unfold PairIs at P9; rcases P9 with ⟨t19, c19, hf9, he9⟩ | ⟨t19, f9, t29, c19, hf9, he9⟩); all_goals ((subst he9); (try dsimp only); (try k_fold)))
  trivial
noncomputable def lawCode (which drawn : Int) : Int :=
  if which = 0 then ([13, 0, 9, 10, 11, 12, 14, 31, 32, 126, 127, 128, 160] : List Int).getD (drawn.fmod 13).toNat 0
  else if which = 1 then 128 + drawn.fmod 32
  else if which = 2 then 55296 + drawn.fmod 2048
  else if which = 3 then ([55295, 57344, 64975, 64976, 65007, 65008] : List Int).getD (drawn.fmod 6).toNat 0
  else if which = 4 then 65536 * (drawn.fmod 17) + 65533 + (drawn.fdiv 17).fmod 3
  else if which = 5 then 1114110 + drawn.fmod 4
  else if which = 6 then drawn.fmod 1114112
  else 1114112 + drawn
theorem getD_room {l : List Int} {i : Nat} {lo hi : Int} (h : ∀ v ∈ l, lo ≤ v ∧ v ≤ hi) (hi' : i < l.length) : lo ≤ l.getD i 0 ∧ l.getD i 0 ≤ hi := by
  have e : l.getD i 0 = l[i] := by simp [List.getD, hi']
  rw [e]; exact h _ (List.getElem_mem hi')
theorem lawCode_room {which drawn : Int} (h0 : 0 ≤ drawn) (h1 : drawn < 1152921504606846976) : 0 ≤ lawCode which drawn ∧ lawCode which drawn < 1152921504608000000 := by
  unfold lawCode
  simp only [Int.fmod_eq_emod_of_nonneg _ (by decide : (0:Int) ≤ 13), Int.fmod_eq_emod_of_nonneg _ (by decide : (0:Int) ≤ 32), Int.fmod_eq_emod_of_nonneg _ (by decide : (0:Int) ≤ 2048), Int.fmod_eq_emod_of_nonneg _ (by decide : (0:Int) ≤ 6), Int.fmod_eq_emod_of_nonneg _ (by decide : (0:Int) ≤ 17), Int.fdiv_eq_ediv_of_nonneg _ (by decide : (0:Int) ≤ 17), Int.fmod_eq_emod_of_nonneg _ (by decide : (0:Int) ≤ 3), Int.fmod_eq_emod_of_nonneg _ (by decide : (0:Int) ≤ 4), Int.fmod_eq_emod_of_nonneg _ (by decide : (0:Int) ≤ 1114112)]
  split
  · have := getD_room (l := [13, 0, 9, 10, 11, 12, 14, 31, 32, 126, 127, 128, 160]) (i := (drawn % 13).toNat) (lo := 0) (hi := 160) (by decide) (by show _ < 13; omega)
    omega
  split
  · omega
  split
  · omega
  split
  · have := getD_room (l := [55295, 57344, 64975, 64976, 65007, 65008]) (i := (drawn % 6).toNat) (lo := 0) (hi := 65008) (by decide) (by show _ < 6; omega)
    omega
  split
  · omega
  split
  · omega
  split
  · omega
  · omega
theorem lawCode_room2 {which drawn : Int} (h0 : 0 ≤ drawn) (h1 : drawn < 2 ^ Int.toNat 60) : 0 ≤ lawCode which drawn ∧ lawCode which drawn < 1152921504608000000 :=
  lawCode_room h0 (by have e : (2 : Int) ^ Int.toNat 60 = 1152921504606846976 := by decide +kernel
                      rw [e] at h1; exact h1)
theorem lawCode_claim {w : World} {mean : ExcName → Option Value} {mg mb : PySem.Str → Option Value} {dp un : Nat} {gd : Option (List Code)} {cn : PySem.Str} {cs : Scope} {a : Addr} {ccd : Value} {cl : List (PySem.Str × Addr)} {outer : List Env} {A₀ : Around} {base h₀ : Heap} {L : Addr} {m : PySem.Str → Option Value} {s : Shared} {Q E : Value → Shared → Prop} {news : List (Addr × Obj)} {which drawn : Int} {t1 t2 : Tok} (B : Below A₀ base outer h₀) (F : Fr h₀ L s.heap m) (X : (Mine.top.heap_1 w.params).In h₀) (N : News h₀ L s.heap news) (T : Top q (looseW q []) mean mg mb h₀) (hk : cs.kind = .function) (hd : dp + 2 < recursionLimit) (hu : un + 16 < cLine) (h0 : 0 ≤ drawn) (h1 : drawn < 2 ^ Int.toNat 60)
    (hret : ∀ (c : Int) (t : Tok) (h' : Heap) (tk' : Nat), 0 ≤ c → c < 1152921504608000000 → Fr h₀ L h' m → News h₀ L h' news → Q (.int c t) { s with heap := h', toks := tk' }) :
    wpAny (model rw'.row.toRowW.prog w) (ktrTop dp un gd cn cs L a ccd cl outer) (call (.ref 524) [.int which t1, .int drawn t2]) Q E s := by
  have hroom := lawCode_room2 (which := which) h0 h1
  have hret2 : ∀ (t : Tok) (h' : Heap) (tk' : Nat), Fr h₀ L h' m → News h₀ L h' news → Q (.int (lawCode which drawn) t) { s with heap := h', toks := tk' } := fun t h' tk' F N => hret _ t h' tk' hroom.1 hroom.2 F N
  clear hret hroom h1
  revert X
  k_fill
  intro X
  refine wpAny_call ?_
  k_dflt cell_enter
  k_steps
  all_goals (
    rename Fr h₀ L _ _ => kF9
    rename News h₀ L _ _ => kN9
    refine cb_retI (x := lawCode which drawn) hret2 ?_ kF9 (cb_drop kN9 (by kcj_all))
    unfold lawCode; (repeat (first | rw [if_pos (by omega)] | rw [if_neg (by omega)])))
theorem wdC1x1 : True := by
  k_with "mcall" => ((with_reducible show wpAny _ _ (call (Value.ref (nat_lit 524)) [Value.int _ _, Value.int _ _]) _ _ _); k_dflt (refine' lawCode_claim ?k1 ?k2 ?k3 ?k4 ?k5 ?k6 ?k7 ?k8 ?kp ?kq ?_; (case k1 => k_asm); (case k2 => k_asm); (case k3 => k_asm); (case k4 => k_asm); (case k5 => k_asm); (case k6 => first | exact rfl | assumption); (case k7 => ktr_room); (case k8 => ktr_units); (case kp => with_reducible assumption); (case kq => with_reducible assumption)); intro c9 t9 h9 tk9 hlo9 hhi9 F9 N9; (try dsimp only); (try k_fold))
  trivial

theorem rsC4 : True := by
  k_with_none
  k_with "kne" => (refine neN ?_; (try dsimp only); first | with_reducible assumption | with_reducible exact Ne.symm (by with_reducible assumption) | (refine Nat.ne_of_lt ?_; (first | with_reducible assumption | with_reducible exact And.left (by with_reducible assumption) | with_reducible exact And.left (And.right (by with_reducible assumption)) | with_reducible exact And.left (And.right (And.right (by with_reducible assumption))) | with_reducible exact And.left (And.right (And.right (And.right (by with_reducible assumption)))) | with_reducible exact And.left (And.right (And.right (And.right (And.right (by with_reducible assumption))))) | with_reducible exact And.left (And.right (And.right (And.right (And.right (And.right (by with_reducible assumption)))))) | with_reducible exact And.left (And.right (And.right (And.right (And.right (And.right (And.right (by with_reducible assumption))))))) | with_reducible exact And.left (And.right (And.right (And.right (And.right (And.right (And.right (And.right (by with_reducible assumption)))))))) | with_reducible exact And.left (And.right (And.right (And.right (And.right (And.right (And.right (And.right (And.right (by with_reducible assumption))))))))) | with_reducible exact And.left (And.right (And.right (And.right (And.right (And.right (And.right (And.right (And.right (And.right (by with_reducible assumption)))))))))) | with_reducible exact And.left (And.right (And.right (And.right (And.right (And.right (And.right (And.right (And.right (And.right (And.right (by with_reducible assumption))))))))))) | with_reducible exact And.left (And.right (And.right (And.right (And.right (And.right (And.right (And.right (And.right (And.right (And.right (And.right (by with_reducible assumption)))))))))))) | with_reducible exact And.left (And.right (And.right (And.right (And.right (And.right (And.right (And.right (And.right (And.right (And.right (And.right (And.right (by with_reducible assumption))))))))))))) | with_reducible exact (And.right (by with_reducible assumption)) | with_reducible exact (And.right (And.right (by with_reducible assumption))) | with_reducible exact (And.right (And.right (And.right (by with_reducible assumption)))) | with_reducible exact (And.right (And.right (And.right (And.right (by with_reducible assumption))))) | with_reducible exact (And.right (And.right (And.right (And.right (And.right (by with_reducible assumption)))))) | with_reducible exact (And.right (And.right (And.right (And.right (And.right (And.right (by with_reducible assumption))))))))) | (refine Nat.ne_of_gt ?_; (first | with_reducible assumption | with_reducible exact And.left (by with_reducible assumption) | with_reducible exact And.left (And.right (by with_reducible assumption)) | with_reducible exact And.left (And.right (And.right (by with_reducible assumption))) | with_reducible exact And.left (And.right (And.right (And.right (by with_reducible assumption)))) | with_reducible exact And.left (And.right (And.right (And.right (And.right (by with_reducible assumption))))) | with_reducible exact And.left (And.right (And.right (And.right (And.right (And.right (by with_reducible assumption)))))) | with_reducible exact And.left (And.right (And.right (And.right (And.right (And.right (And.right (by with_reducible assumption))))))) | with_reducible exact And.left (And.right (And.right (And.right (And.right (And.right (And.right (And.right (by with_reducible assumption)))))))) | with_reducible exact And.left (And.right (And.right (And.right (And.right (And.right (And.right (And.right (And.right (by with_reducible assumption))))))))) | with_reducible exact And.left (And.right (And.right (And.right (And.right (And.right (And.right (And.right (And.right (And.right (by with_reducible assumption)))))))))) | with_reducible exact And.left (And.right (And.right (And.right (And.right (And.right (And.right (And.right (And.right (And.right (And.right (by with_reducible assumption))))))))))) | with_reducible exact And.left (And.right (And.right (And.right (And.right (And.right (And.right (And.right (And.right (And.right (And.right (And.right (by with_reducible assumption)))))))))))) | with_reducible exact And.left (And.right (And.right (And.right (And.right (And.right (And.right (And.right (And.right (And.right (And.right (And.right (And.right (by with_reducible assumption))))))))))))) | with_reducible exact (And.right (by with_reducible assumption)) | with_reducible exact (And.right (And.right (by with_reducible assumption))) | with_reducible exact (And.right (And.right (And.right (by with_reducible assumption)))) | with_reducible exact (And.right (And.right (And.right (And.right (by with_reducible assumption))))) | with_reducible exact (And.right (And.right (And.right (And.right (And.right (by with_reducible assumption)))))) | with_reducible exact (And.right (And.right (And.right (And.right (And.right (And.right (by with_reducible assumption))))))))) | omega)
  k_with "mcall" => ((with_reducible show wpAny _ _ (call (Value.ref (nat_lit 84)) [Value.int _ _]) _ _ _); k_dflt (refine' c1_claim ?k1 ?k2 ?k3 ?k4 ?k5 ?k6 ?k7 ?k8 ?kp ?_; (case k1 => k_asm); (case k2 => k_asm); (case k3 => k_asm); (case k4 => k_asm); (case k5 => k_asm); (case k6 => first | exact rfl | assumption); (case k7 => ktr_room); (case k8 => ktr_units); (case kp => omega)); intro t9 h9 tk9 F9 N9; (have hc19 := c1_room (by assumption) (by omega)); (try dsimp only); (try k_fold))
  k_with "mcall" => ((with_reducible show wpAny _ _ (call (Value.ref (nat_lit 91)) [Value.int _ _]) _ _ _); k_dflt (refine' numref_claim ?k1 ?k2 ?k3 ?k4 ?k5 ?k6 ?k7 ?k8 ?kp ?_; (case k1 => k_asm); (case k2 => k_asm); (case k3 => k_asm); (case k4 => k_asm); (case k5 => k_asm); (case k6 => first | exact rfl | assumption); (case k7 => ktr_room); (case k8 => ktr_units); (case kp => omega)); intro D9 o9 h9 tk9 P9 F9 N9 l9; (try k_lt l9); k_dflt (unfold PairIs at P9; rcases P9 with ⟨t19, c19, hf9, he9⟩ | ⟨t19, f9, t29, c19, hf9, he9⟩); all_goals ((subst he9); (try dsimp only); (try k_fold)))
  k_with "mcall" => ((with_reducible show wpAny _ _ (call (Value.ref (nat_lit 531)) [Value.int _ _]) _ _ _); k_dflt (refine' meant_claim ?k1 ?k2 ?k3 ?k4 ?k5 ?k6 ?k7 ?k8 ?kp ?_; (case k1 => k_asm); (case k2 => k_asm); (case k3 => k_asm); (case k4 => k_asm); (case k5 => k_asm); (case k6 => first | exact rfl | assumption); (case k7 => ktr_room); (case k8 => ktr_units); (case kp => omega)); intro D9 o9 h9 tk9 P9 F9 N9 l9; (try k_lt l9); k_dflt (unfold PairIs at P9; rcases P9 with ⟨t19, c19, hf9, he9⟩ | ⟨t19, f9, t29, c19, hf9, he9⟩); all_goals ((subst he9); (try dsimp only); (try k_fold)))
  k_with "mcall" => ((with_reducible show wpAny _ _ (call (Value.ref (nat_lit 524)) [Value.int _ _, Value.int _ _]) _ _ _); k_dflt (refine' lawCode_claim ?k1 ?k2 ?k3 ?k4 ?k5 ?k6 ?k7 ?k8 ?kp ?kq ?_; (case k1 => k_asm); (case k2 => k_asm); (case k3 => k_asm); (case k4 => k_asm); (case k5 => k_asm); (case k6 => first | exact rfl | assumption); (case k7 => ktr_room); (case k8 => ktr_units); (case kp => with_reducible assumption); (case kq => with_reducible assumption)); intro c9 t9 h9 tk9 hlo9 hhi9 F9 N9; (try dsimp only); (try k_fold))
  trivial
noncomputable def isDig (b : Int) (c : Nat) : Bool := (decide (48 ≤ c) && decide (c ≤ 57)) || (b == 16 && ((decide (97 ≤ c) && decide (c ≤ 102)) || (decide (65 ≤ c) && decide (c ≤ 70))))
noncomputable def dval (c : Nat) : Int := if 48 ≤ c ∧ c ≤ 57 then (c : Int) - 48 else if 97 ≤ c ∧ c ≤ 122 then (c : Int) - 97 + 10 else (c : Int) - 65 + 10
noncomputable def valOf (b : Int) (l : List Nat) : Int := l.foldl (fun a c => a * b + dval c) 0
noncomputable def DigInv (b n0 n : Int) (d : PySem.Str) : Prop :=
  0 ≤ n ∧ n * 8 ^ d.length < 2 ^ 61 ∧ n * b ^ d.length + valOf b d.cps.toList = n0 ∧ (∀ c ∈ d.cps.toList, isDig b c = true) ∧ d.length ≤ 21
theorem dig_start {b n : Int} (h0 : 0 ≤ n) (h1 : n < 1152921504608000000) : DigInv b n n (PySem.Str.ofString "") := by
  have e : (PySem.Str.ofString "") = ⟨#[]⟩ := by decide +kernel
  rw [e]
  refine ⟨h0, ?_, ?_, ?_, ?_⟩
  · show n * 8 ^ 0 < _; omega
  · show n * b ^ 0 + 0 = n; rw [Int.pow_zero]; omega
  · intro c hc; cases hc
  · exact Nat.zero_le _
theorem low_items : ∀ j : Fin 16, Txt.item (PySem.Str.ofString "0123456789abcdef") (j.val : Int) = ⟨#[if j.val < 10 then 48 + j.val else 87 + j.val]⟩ := by decide +kernel
theorem up_items : ∀ j : Fin 16, Txt.item (PySem.Str.ofString "0123456789ABCDEF") (j.val : Int) = ⟨#[if j.val < 10 then 48 + j.val else 55 + j.val]⟩ := by decide +kernel
theorem dig_of {b : Int} (hb : b = 16 ∨ b = 10) (j : Fin 16) (h : (j.val : Int) < b) : isDig b (if j.val < 10 then 48 + j.val else 87 + j.val) = true ∧ dval (if j.val < 10 then 48 + j.val else 87 + j.val) = j.val ∧ isDig b (if j.val < 10 then 48 + j.val else 55 + j.val) = true ∧ dval (if j.val < 10 then 48 + j.val else 55 + j.val) = j.val := by
  rcases hb with rfl | rfl
  · revert h; revert j; decide
  · revert h; revert j; decide
theorem row_dig {b i : Int} {row : PySem.Str} (hb : b = 16 ∨ b = 10) (hr : row = PySem.Str.ofString "0123456789abcdef" ∨ row = PySem.Str.ofString "0123456789ABCDEF") (h0 : 0 ≤ i) (h1 : i < b) : ∃ c : Nat, Txt.item row i = ⟨#[c]⟩ ∧ isDig b c = true ∧ dval c = i := by
  have hj : i.toNat < 16 := by rcases hb with rfl | rfl <;> omega
  have e : (((⟨i.toNat, hj⟩ : Fin 16).val : Nat) : Int) = i := by show ((i.toNat : Nat) : Int) = i; omega
  have D := dig_of hb ⟨i.toNat, hj⟩ (by omega)
  rcases hr with rfl | rfl
  · have q := low_items ⟨i.toNat, hj⟩
    rw [e] at q D
    exact ⟨_, q, D.1, D.2.1⟩
  · have q := up_items ⟨i.toNat, hj⟩
    rw [e] at q D
    exact ⟨_, q, D.2.2.1, D.2.2.2⟩
theorem val_from (b a : Int) : ∀ l : List Nat, l.foldl (fun a c => a * b + dval c) a = a * b ^ l.length + valOf b l
  | [] => by show a = a * b ^ 0 + 0; rw [Int.pow_zero]; omega
  | c :: r => by
    show r.foldl (fun a c => a * b + dval c) (a * b + dval c) = a * b ^ (r.length + 1) + r.foldl (fun a c => a * b + dval c) (0 * b + dval c)
    rw [val_from b _ r, val_from b (0 * b + dval c) r, Int.pow_succ, Int.zero_mul, Int.zero_add, Int.add_mul, Int.mul_assoc, Int.mul_comm b (b ^ r.length)]
    omega
theorem val_cons (b : Int) (c : Nat) (l : List Nat) : valOf b (c :: l) = dval c * b ^ l.length + valOf b l := by
  show l.foldl (fun a c => a * b + dval c) (0 * b + dval c) = _
  rw [val_from, Int.zero_mul, Int.zero_add]
theorem pow8_mono {k : Nat} (h : 21 ≤ k) : (9223372036854775808 : Int) ≤ 8 ^ k := by
  have : (8 : Int) ^ k = 8 ^ 21 * 8 ^ (k - 21) := by rw [← Int.pow_add]; congr 1; omega
  rw [this]
  have h1 : (1 : Int) ≤ 8 ^ (k - 21) := Int.add_one_le_of_lt (Int.pow_pos (by decide))
  have h2 : (8 : Int) ^ 21 = 9223372036854775808 := by decide +kernel
  rw [h2]; omega
theorem dig_step {b n0 n : Int} {d row : PySem.Str} (hb : b = 16 ∨ b = 10) (hr : row = PySem.Str.ofString "0123456789abcdef" ∨ row = PySem.Str.ofString "0123456789ABCDEF") (I : DigInv b n0 n d) (ht : 0 < n ∨ (d == PySem.Str.ofString "") = true) (m : Int) :
    DigInv b n0 (n.fdiv b) (Txt.item row (n.fmod b) ++ d) ∧ (Txt.item row (n.fmod b) ++ d).length ≤ 21 ∧ m = m := by
  obtain ⟨h0, hs, hv, hd, hl⟩ := I
  have hb0 : 0 ≤ b := by omega
  rw [Int.fdiv_eq_ediv_of_nonneg _ hb0, Int.fmod_eq_emod_of_nonneg _ hb0]
  have hm0 : 0 ≤ n % b := Int.emod_nonneg _ (by omega)
  have hm1 : n % b < b := Int.emod_lt_of_pos _ (by omega)
  obtain ⟨c, e, hc, hcv⟩ := row_dig hb hr hm0 hm1
  rw [e]
  have ee : n / b * b + n % b = n := by have := Int.mul_ediv_add_emod n b; rw [Int.mul_comm] at this; exact this
  have hq0 : 0 ≤ n / b := Int.ediv_nonneg h0 hb0
  have hlen : ((⟨#[c]⟩ : PySem.Str) ++ d).length = d.length + 1 := by rw [PySem.Str.length_append]; show 1 + _ = _; omega
  have hcps : ((⟨#[c]⟩ : PySem.Str) ++ d).cps.toList = c :: d.cps.toList := by rw [PySem.Str.cps_append]; simp
  have hL : d.cps.toList.length = d.length := by simp [Str.length]
  have hk : d.length ≤ 20 := by
    rcases ht with ht | ht
    · rcases Nat.lt_or_ge 20 d.length with q | q
      · have := pow8_mono q
        have h2 : (1 : Int) * 8 ^ d.length ≤ n * 8 ^ d.length := Int.mul_le_mul_of_nonneg_right (by omega) (by omega)
        have h3 : (2 : Int) ^ 61 = 2305843009213693952 := by decide +kernel
        rw [h3] at hs
        omega
      · exact q
    · have : d = PySem.Str.ofString "" := by simpa using ht
      subst this
      decide +kernel
  refine ⟨⟨hq0, ?_, ?_, ?_, ?_⟩, ?_, rfl⟩
  · rw [hlen, Int.pow_succ, Int.mul_comm (8 ^ d.length) 8, ← Int.mul_assoc]
    refine Int.lt_of_le_of_lt (Int.mul_le_mul_of_nonneg_right ?_ (Int.le_of_lt (Int.pow_pos (by decide)))) hs
    rcases hb with rfl | rfl <;> omega
  · rw [hlen, hcps, val_cons, hcv, hL, Int.pow_succ, Int.mul_comm (b ^ d.length) b, ← Int.mul_assoc, ← Int.add_assoc, ← Int.add_mul, ee]
    exact hv
  · intro x hx
    rw [hcps] at hx
    rcases List.mem_cons.mp hx with rfl | hx
    · exact hc
    · exact hd x hx
  · omega
  · omega
theorem dig_less {b n0 n : Int} {d row : PySem.Str} (hb : b = 16 ∨ b = 10) (I : DigInv b n0 n d) (ht : 0 < n ∨ (d == PySem.Str.ofString "") = true) :
    (n.fdiv b).toNat + 1 - min 1 (Txt.item row (n.fmod b) ++ d).length < n.toNat + 1 - min 1 d.length := by
  have h0 := I.1
  rw [Int.fdiv_eq_ediv_of_nonneg _ (by omega), PySem.Str.length_append]
  have e1 : (Txt.item row (n.fmod b)).length = 1 := rfl
  rw [e1]
  rcases ht with ht | ht
  · have : n / b < n := by rcases hb with rfl | rfl <;> omega
    omega
  · have : d = PySem.Str.ofString "" := by simpa using ht
    subst this
    have e2 : (PySem.Str.ofString "").length = 0 := by decide +kernel
    rw [e2]
    have : n / b ≤ n := by rcases hb with rfl | rfl <;> omega
    omega
theorem dig_end {b n0 n : Int} {d : PySem.Str} (I : DigInv b n0 n d) (h : ¬ 0 < n) : DigInv b n0 0 d := by
  have : n = 0 := by have := I.1; omega
  subst this; exact I
theorem dig_fill {d : PySem.Str} (h : (d == PySem.Str.ofString "") = false) : d ≠ ⟨#[]⟩ := by
  rintro rfl; exact absurd h (by decide +kernel)
theorem digits16_claim {w : World} {mean : ExcName → Option Value} {mg mb : PySem.Str → Option Value} {dp un : Nat} {gd : Option (List Code)} {cn : PySem.Str} {cs : Scope} {a : Addr} {ccd : Value} {cl : List (PySem.Str × Addr)} {outer : List Env} {A₀ : Around} {base h₀ : Heap} {L : Addr} {m : PySem.Str → Option Value} {s : Shared} {Q E : Value → Shared → Prop} {news : List (Addr × Obj)} {n k : Int} {t1 t2 t3 : Tok} (B : Below A₀ base outer h₀) (F : Fr h₀ L s.heap m) (X : (Mine.top.heap_1 w.params).In h₀) (N : News h₀ L s.heap news) (T : Top q (looseW q []) mean mg mb h₀) (hk : cs.kind = .function) (hd : dp + 2 < recursionLimit) (hu : un + 16 < cLine) (h0 : 0 ≤ n) (h1 : n < 1152921504608000000)
    (hret : ∀ (d : PySem.Str) (t : Tok) (h' : Heap) (tk' : Nat), DigInv 16 n 0 d → d ≠ ⟨#[]⟩ → d.length ≤ 21 → Fr h₀ L h' m → News h₀ L h' news → Q (.str d t) { s with heap := h', toks := tk' }) :
    wpAny (model rw'.row.toRowW.prog w) (ktrTop dp un gd cn cs L a ccd cl outer) (call (.ref 538) [.int n t1, .int 16 t2, .int k t3]) Q E s := by
  revert X
  k_fill
  intro X
  refine wpAny_call ?_
  k_dflt cell_enter
  k_with "exec While BoolOp cons nil" => k_while (fun script number digits mask => DigInv 16 n number digits ∧ digits.length ≤ 21 ∧ mask = mask) (fun script number digits mask => number.toNat + 1 - min 1 digits.length) "number" "digits" "mask"
  k_with "state" => first | exact ⟨dig_start (by assumption) (by assumption), by decide +kernel, rfl⟩ | exact dig_step (by decide) (by first | exact .inl rfl | exact .inr rfl) (by assumption) (by first | exact .inl (by assumption) | exact .inr (by assumption)) _
  k_with "measure" => exact dig_less (by decide) (by assumption) (by first | exact .inl (by assumption) | exact .inr (by assumption))
  k_steps
  all_goals (
    rename Fr h₀ L _ _ => kF9
    rename News h₀ L _ _ => kN9
    exact hret _ _ _ _ (dig_end (by assumption) (by assumption)) (dig_fill (by first | assumption | (simpa using (by assumption)))) (by assumption) kF9 (cb_drop kN9 (by kcj_all)))

theorem digits10_claim {w : World} {mean : ExcName → Option Value} {mg mb : PySem.Str → Option Value} {dp un : Nat} {gd : Option (List Code)} {cn : PySem.Str} {cs : Scope} {a : Addr} {ccd : Value} {cl : List (PySem.Str × Addr)} {outer : List Env} {A₀ : Around} {base h₀ : Heap} {L : Addr} {m : PySem.Str → Option Value} {s : Shared} {Q E : Value → Shared → Prop} {news : List (Addr × Obj)} {n k : Int} {t1 t2 t3 : Tok} (B : Below A₀ base outer h₀) (F : Fr h₀ L s.heap m) (X : (Mine.top.heap_1 w.params).In h₀) (N : News h₀ L s.heap news) (T : Top q (looseW q []) mean mg mb h₀) (hk : cs.kind = .function) (hd : dp + 2 < recursionLimit) (hu : un + 16 < cLine) (h0 : 0 ≤ n) (h1 : n < 1152921504608000000)
    (hret : ∀ (d : PySem.Str) (t : Tok) (h' : Heap) (tk' : Nat), DigInv 10 n 0 d → d ≠ ⟨#[]⟩ → d.length ≤ 21 → Fr h₀ L h' m → News h₀ L h' news → Q (.str d t) { s with heap := h', toks := tk' }) :
    wpAny (model rw'.row.toRowW.prog w) (ktrTop dp un gd cn cs L a ccd cl outer) (call (.ref 538) [.int n t1, .int 10 t2, .int k t3]) Q E s := by
  revert X
  k_fill
  intro X
  refine wpAny_call ?_
  k_dflt cell_enter
  k_with "exec While BoolOp cons nil" => k_while (fun script number digits mask => DigInv 10 n number digits ∧ digits.length ≤ 21 ∧ mask = mask) (fun script number digits mask => number.toNat + 1 - min 1 digits.length) "number" "digits" "mask"
  k_with "state" => first | exact ⟨dig_start (by assumption) (by assumption), by decide +kernel, rfl⟩ | exact dig_step (by decide) (by first | exact .inl rfl | exact .inr rfl) (by assumption) (by first | exact .inl (by assumption) | exact .inr (by assumption)) _
  k_with "measure" => exact dig_less (by decide) (by assumption) (by first | exact .inl (by assumption) | exact .inr (by assumption))
  k_steps
  all_goals (
    rename Fr h₀ L _ _ => kF9
    rename News h₀ L _ _ => kN9
    exact hret _ _ _ _ (dig_end (by assumption) (by assumption)) (dig_fill (by first | assumption | (simpa using (by assumption)))) (by assumption) kF9 (cb_drop kN9 (by kcj_all)))
theorem wdC4x1 : True := by
  k_with "mcall" => ((with_reducible show wpAny _ _ (call (Value.ref (nat_lit 538)) [Value.int _ _, Value.int _ _, Value.int _ _]) _ _ _); k_dflt (first | (refine' digits16_claim ?k1 ?k2 ?k3 ?k4 ?k5 ?k6 ?k7 ?k8 ?kp ?kq ?_; (case k1 => k_asm); (case k2 => k_asm); (case k3 => k_asm); (case k4 => k_asm); (case k5 => k_asm); (case k6 => first | exact rfl | assumption); (case k7 => ktr_room); (case k8 => ktr_units); (case kp => with_reducible assumption); (case kq => with_reducible assumption)) | (refine' digits10_claim ?k1 ?k2 ?k3 ?k4 ?k5 ?k6 ?k7 ?k8 ?kp ?kq ?_; (case k1 => k_asm); (case k2 => k_asm); (case k3 => k_asm); (case k4 => k_asm); (case k5 => k_asm); (case k6 => first | exact rfl | assumption); (case k7 => ktr_room); (case k8 => ktr_units); (case kp => with_reducible assumption); (case kq => with_reducible assumption))); intro d9 t9 h9 tk9 I9 E9 hl9 F9 N9; (try dsimp only); (try k_fold))
  trivial

theorem rsC5a : True := by
  k_with_none
  k_with "kne" => (refine neN ?_; (try dsimp only); first | with_reducible assumption | with_reducible exact Ne.symm (by with_reducible assumption) | (refine Nat.ne_of_lt ?_; (first | with_reducible assumption | with_reducible exact And.left (by with_reducible assumption) | with_reducible exact And.left (And.right (by with_reducible assumption)) | with_reducible exact And.left (And.right (And.right (by with_reducible assumption))) | with_reducible exact And.left (And.right (And.right (And.right (by with_reducible assumption)))) | with_reducible exact And.left (And.right (And.right (And.right (And.right (by with_reducible assumption))))) | with_reducible exact And.left (And.right (And.right (And.right (And.right (And.right (by with_reducible assumption)))))) | with_reducible exact And.left (And.right (And.right (And.right (And.right (And.right (And.right (by with_reducible assumption))))))) | with_reducible exact And.left (And.right (And.right (And.right (And.right (And.right (And.right (And.right (by with_reducible assumption)))))))) | with_reducible exact And.left (And.right (And.right (And.right (And.right (And.right (And.right (And.right (And.right (by with_reducible assumption))))))))) | with_reducible exact And.left (And.right (And.right (And.right (And.right (And.right (And.right (And.right (And.right (And.right (by with_reducible assumption)))))))))) | with_reducible exact And.left (And.right (And.right (And.right (And.right (And.right (And.right (And.right (And.right (And.right (And.right (by with_reducible assumption))))))))))) | with_reducible exact And.left (And.right (And.right (And.right (And.right (And.right (And.right (And.right (And.right (And.right (And.right (And.right (by with_reducible assumption)))))))))))) | with_reducible exact And.left (And.right (And.right (And.right (And.right (And.right (And.right (And.right (And.right (And.right (And.right (And.right (And.right (by with_reducible assumption))))))))))))) | with_reducible exact (And.right (by with_reducible assumption)) | with_reducible exact (And.right (And.right (by with_reducible assumption))) | with_reducible exact (And.right (And.right (And.right (by with_reducible assumption)))) | with_reducible exact (And.right (And.right (And.right (And.right (by with_reducible assumption))))) | with_reducible exact (And.right (And.right (And.right (And.right (And.right (by with_reducible assumption)))))) | with_reducible exact (And.right (And.right (And.right (And.right (And.right (And.right (by with_reducible assumption))))))))) | (refine Nat.ne_of_gt ?_; (first | with_reducible assumption | with_reducible exact And.left (by with_reducible assumption) | with_reducible exact And.left (And.right (by with_reducible assumption)) | with_reducible exact And.left (And.right (And.right (by with_reducible assumption))) | with_reducible exact And.left (And.right (And.right (And.right (by with_reducible assumption)))) | with_reducible exact And.left (And.right (And.right (And.right (And.right (by with_reducible assumption))))) | with_reducible exact And.left (And.right (And.right (And.right (And.right (And.right (by with_reducible assumption)))))) | with_reducible exact And.left (And.right (And.right (And.right (And.right (And.right (And.right (by with_reducible assumption))))))) | with_reducible exact And.left (And.right (And.right (And.right (And.right (And.right (And.right (And.right (by with_reducible assumption)))))))) | with_reducible exact And.left (And.right (And.right (And.right (And.right (And.right (And.right (And.right (And.right (by with_reducible assumption))))))))) | with_reducible exact And.left (And.right (And.right (And.right (And.right (And.right (And.right (And.right (And.right (And.right (by with_reducible assumption)))))))))) | with_reducible exact And.left (And.right (And.right (And.right (And.right (And.right (And.right (And.right (And.right (And.right (And.right (by with_reducible assumption))))))))))) | with_reducible exact And.left (And.right (And.right (And.right (And.right (And.right (And.right (And.right (And.right (And.right (And.right (And.right (by with_reducible assumption)))))))))))) | with_reducible exact And.left (And.right (And.right (And.right (And.right (And.right (And.right (And.right (And.right (And.right (And.right (And.right (And.right (by with_reducible assumption))))))))))))) | with_reducible exact (And.right (by with_reducible assumption)) | with_reducible exact (And.right (And.right (by with_reducible assumption))) | with_reducible exact (And.right (And.right (And.right (by with_reducible assumption)))) | with_reducible exact (And.right (And.right (And.right (And.right (by with_reducible assumption))))) | with_reducible exact (And.right (And.right (And.right (And.right (And.right (by with_reducible assumption)))))) | with_reducible exact (And.right (And.right (And.right (And.right (And.right (And.right (by with_reducible assumption))))))))) | omega)
  k_with "mcall" => ((with_reducible show wpAny _ _ (call (Value.ref (nat_lit 84)) [Value.int _ _]) _ _ _); k_dflt (refine' c1_claim ?k1 ?k2 ?k3 ?k4 ?k5 ?k6 ?k7 ?k8 ?kp ?_; (case k1 => k_asm); (case k2 => k_asm); (case k3 => k_asm); (case k4 => k_asm); (case k5 => k_asm); (case k6 => first | exact rfl | assumption); (case k7 => ktr_room); (case k8 => ktr_units); (case kp => omega)); intro t9 h9 tk9 F9 N9; (have hc19 := c1_room (by assumption) (by omega)); (try dsimp only); (try k_fold))
  k_with "mcall" => ((with_reducible show wpAny _ _ (call (Value.ref (nat_lit 91)) [Value.int _ _]) _ _ _); k_dflt (refine' numref_claim ?k1 ?k2 ?k3 ?k4 ?k5 ?k6 ?k7 ?k8 ?kp ?_; (case k1 => k_asm); (case k2 => k_asm); (case k3 => k_asm); (case k4 => k_asm); (case k5 => k_asm); (case k6 => first | exact rfl | assumption); (case k7 => ktr_room); (case k8 => ktr_units); (case kp => omega)); intro D9 o9 h9 tk9 P9 F9 N9 l9; (try k_lt l9); k_dflt (unfold PairIs at P9; rcases P9 with ⟨t19, c19, hf9, he9⟩ | ⟨t19, f9, t29, c19, hf9, he9⟩); all_goals ((subst he9); (try dsimp only); (try k_fold)))
  k_with "mcall" => ((with_reducible show wpAny _ _ (call (Value.ref (nat_lit 531)) [Value.int _ _]) _ _ _); k_dflt (refine' meant_claim ?k1 ?k2 ?k3 ?k4 ?k5 ?k6 ?k7 ?k8 ?kp ?_; (case k1 => k_asm); (case k2 => k_asm); (case k3 => k_asm); (case k4 => k_asm); (case k5 => k_asm); (case k6 => first | exact rfl | assumption); (case k7 => ktr_room); (case k8 => ktr_units); (case kp => omega)); intro D9 o9 h9 tk9 P9 F9 N9 l9; (try k_lt l9); k_dflt (unfold PairIs at P9; rcases P9 with ⟨t19, c19, hf9, he9⟩ | ⟨t19, f9, t29, c19, hf9, he9⟩); all_goals ((subst he9); (try dsimp only); (try k_fold)))
  k_with "mcall" => ((with_reducible show wpAny _ _ (call (Value.ref (nat_lit 524)) [Value.int _ _, Value.int _ _]) _ _ _); k_dflt (refine' lawCode_claim ?k1 ?k2 ?k3 ?k4 ?k5 ?k6 ?k7 ?k8 ?kp ?kq ?_; (case k1 => k_asm); (case k2 => k_asm); (case k3 => k_asm); (case k4 => k_asm); (case k5 => k_asm); (case k6 => first | exact rfl | assumption); (case k7 => ktr_room); (case k8 => ktr_units); (case kp => with_reducible assumption); (case kq => with_reducible assumption)); intro c9 t9 h9 tk9 hlo9 hhi9 F9 N9; (try dsimp only); (try k_fold))
  k_with "mcall" => ((with_reducible show wpAny _ _ (call (Value.ref (nat_lit 538)) [Value.int _ _, Value.int _ _, Value.int _ _]) _ _ _); k_dflt (first | (refine' digits16_claim ?k1 ?k2 ?k3 ?k4 ?k5 ?k6 ?k7 ?k8 ?kp ?kq ?_; (case k1 => k_asm); (case k2 => k_asm); (case k3 => k_asm); (case k4 => k_asm); (case k5 => k_asm); (case k6 => first | exact rfl | assumption); (case k7 => ktr_room); (case k8 => ktr_units); (case kp => with_reducible assumption); (case kq => with_reducible assumption)) | (refine' digits10_claim ?k1 ?k2 ?k3 ?k4 ?k5 ?k6 ?k7 ?k8 ?kp ?kq ?_; (case k1 => k_asm); (case k2 => k_asm); (case k3 => k_asm); (case k4 => k_asm); (case k5 => k_asm); (case k6 => first | exact rfl | assumption); (case k7 => ktr_room); (case k8 => ktr_units); (case kp => with_reducible assumption); (case kq => with_reducible assumption))); intro d9 t9 h9 tk9 I9 E9 hl9 F9 N9; (try dsimp only); (try k_fold))
  trivial
/-- one entry of a ledger brought to its head -/
inductive Take1 (d : Addr) (o : Obj) : List (Addr × Obj) → List (Addr × Obj) → Prop
  | head {r} : Take1 d o ((d, o) :: r) r
  | tail {p r r'} : Take1 d o r r' → Take1 d o (p :: r) (p :: r')
theorem take1_mem {d : Addr} {o : Obj} : ∀ {l r : List (Addr × Obj)}, Take1 d o l r → ∀ p, p ∈ (d, o) :: r → p ∈ l
  | _, _, .head, _, hp => hp
  | _, _, .tail h, p, hp => by
    rcases List.mem_cons.mp hp with rfl | hp
    · exact .tail _ (take1_mem h _ (.head _))
    · rcases List.mem_cons.mp hp with rfl | hp
      · exact .head _
      · exact .tail _ (take1_mem h _ (.tail _ hp))
theorem news_front {d : Addr} {o : Obj} {l r : List (Addr × Obj)} {h₀ h : Heap} {L : Addr} (t : Take1 d o l r) (N : News h₀ L h l) : News h₀ L h ((d, o) :: r) := fun p hp => N p (take1_mem t p hp)
theorem wdC5ax2 : True := by
  k_with "kall" => assumption
  trivial
theorem wdC5ax3 : True := by
  k_with "binaryOp FloorDiv int int" => (k_here; (with_reducible rename (∀ _ : Int, PySem.Builtin.divisionGoesByPylong _ _ = false) => hpy9); (with_reducible refine floordiv_int ?kb ?_ (Or.inl ?kp)); (case kb => omega); (case kp => exact hpy9 _))
  trivial
theorem pick_claim {w : World} {mean : ExcName → Option Value} {mg mb : PySem.Str → Option Value} {dp un : Nat} {gd : Option (List Code)} {cn : PySem.Str} {cs : Scope} {a : Addr} {ccd : Value} {cl : List (PySem.Str × Addr)} {outer : List Env} {A₀ : Around} {base h₀ : Heap} {L : Addr} {m : PySem.Str → Option Value} {s : Shared} {Q E : Value → Shared → Prop} {rest : List (Addr × Obj)} {one : Addr} {v many : Int} {t1 t2 : Tok} {c : Nat} {news : List (Addr × Obj)} (B : Below A₀ base outer h₀) (F : Fr h₀ L s.heap m) (X : (Mine.top.heap_1 w.params).In h₀) (N : News h₀ L s.heap news) (T : Top q (looseW q []) mean mg mb h₀) (hk : cs.kind = .function) (hd : dp + 2 < recursionLimit) (hu : un + 16 < cLine) (hT : Take1 one (listOf #[.int v t1] c) news rest) (hne : ∀ p ∈ rest, p.1 ≠ one) (h0 : 0 < many) (hpy : ∀ v : Int, PySem.Builtin.divisionGoesByPylong v many = false)
    (hret : ∀ (r v' : Int) (t t' : Tok) (c' : Nat) (h' : Heap) (tk' : Nat), 0 ≤ r → r < many → Fr h₀ L h' m → News h₀ L h' ((one, listOf #[.int v' t'] c') :: rest) → Q (.int r t) { s with heap := h', toks := tk' }) :
    wpAny (model rw'.row.toRowW.prog w) (ktrTop dp un gd cn cs L a ccd cl outer) (call (.ref 517) [.ref one, .int many t2]) Q E s := by
  have N := news_front hT N
  revert X
  k_fill
  intro X
  refine wpAny_call ?_
  k_dflt cell_enter
  k_steps
  all_goals (
    rename Fr h₀ L _ _ => kF9
    rename News h₀ L _ _ => kN9
    exact hret _ _ _ _ _ _ _ (Int.fmod_nonneg_of_pos _ h0) (Int.fmod_lt_of_pos _ h0) kF9 kN9)
theorem wdC5ax1 : True := by
  k_with "mcall" => ((with_reducible show wpAny _ _ (call (Value.ref (nat_lit 517)) [Value.ref _, Value.int _ _]) _ _ _); k_dflt (refine' pick_claim ?k1 ?k2 ?k3 ?k4 ?k5 ?k6 ?k7 ?k8 ?kt ?ke ?kp ?kq ?_; (case k1 => k_asm); (case k2 => k_asm); (case k3 => k_asm); (case k4 => k_asm); (case k5 => k_asm); (case k6 => first | exact rfl | assumption); (case k7 => ktr_room); (case k8 => ktr_units); (case kt => repeat' (first | exact Take1.head | apply Take1.tail)); (case ke => k_all); (case kp => decide); (case kq => intro v9; exact PyProof.noPylong_of_log2 (by decide +kernel))); intro r9 v9 t9 t99 c9 h9 tk9 hlo9 hhi9 F9 N9; (try dsimp only); (try k_fold))
  trivial

theorem rsC5l : True := by
  k_with_none
  k_with "kne" => (refine neN ?_; (try dsimp only); first | with_reducible assumption | with_reducible exact Ne.symm (by with_reducible assumption) | (refine Nat.ne_of_lt ?_; (first | with_reducible assumption | with_reducible exact And.left (by with_reducible assumption) | with_reducible exact And.left (And.right (by with_reducible assumption)) | with_reducible exact And.left (And.right (And.right (by with_reducible assumption))) | with_reducible exact And.left (And.right (And.right (And.right (by with_reducible assumption)))) | with_reducible exact And.left (And.right (And.right (And.right (And.right (by with_reducible assumption))))) | with_reducible exact And.left (And.right (And.right (And.right (And.right (And.right (by with_reducible assumption)))))) | with_reducible exact And.left (And.right (And.right (And.right (And.right (And.right (And.right (by with_reducible assumption))))))) | with_reducible exact And.left (And.right (And.right (And.right (And.right (And.right (And.right (And.right (by with_reducible assumption)))))))) | with_reducible exact And.left (And.right (And.right (And.right (And.right (And.right (And.right (And.right (And.right (by with_reducible assumption))))))))) | with_reducible exact And.left (And.right (And.right (And.right (And.right (And.right (And.right (And.right (And.right (And.right (by with_reducible assumption)))))))))) | with_reducible exact And.left (And.right (And.right (And.right (And.right (And.right (And.right (And.right (And.right (And.right (And.right (by with_reducible assumption))))))))))) | with_reducible exact And.left (And.right (And.right (And.right (And.right (And.right (And.right (And.right (And.right (And.right (And.right (And.right (by with_reducible assumption)))))))))))) | with_reducible exact And.left (And.right (And.right (And.right (And.right (And.right (And.right (And.right (And.right (And.right (And.right (And.right (And.right (by with_reducible assumption))))))))))))) | with_reducible exact (And.right (by with_reducible assumption)) | with_reducible exact (And.right (And.right (by with_reducible assumption))) | with_reducible exact (And.right (And.right (And.right (by with_reducible assumption)))) | with_reducible exact (And.right (And.right (And.right (And.right (by with_reducible assumption))))) | with_reducible exact (And.right (And.right (And.right (And.right (And.right (by with_reducible assumption)))))) | with_reducible exact (And.right (And.right (And.right (And.right (And.right (And.right (by with_reducible assumption))))))))) | (refine Nat.ne_of_gt ?_; (first | with_reducible assumption | with_reducible exact And.left (by with_reducible assumption) | with_reducible exact And.left (And.right (by with_reducible assumption)) | with_reducible exact And.left (And.right (And.right (by with_reducible assumption))) | with_reducible exact And.left (And.right (And.right (And.right (by with_reducible assumption)))) | with_reducible exact And.left (And.right (And.right (And.right (And.right (by with_reducible assumption))))) | with_reducible exact And.left (And.right (And.right (And.right (And.right (And.right (by with_reducible assumption)))))) | with_reducible exact And.left (And.right (And.right (And.right (And.right (And.right (And.right (by with_reducible assumption))))))) | with_reducible exact And.left (And.right (And.right (And.right (And.right (And.right (And.right (And.right (by with_reducible assumption)))))))) | with_reducible exact And.left (And.right (And.right (And.right (And.right (And.right (And.right (And.right (And.right (by with_reducible assumption))))))))) | with_reducible exact And.left (And.right (And.right (And.right (And.right (And.right (And.right (And.right (And.right (And.right (by with_reducible assumption)))))))))) | with_reducible exact And.left (And.right (And.right (And.right (And.right (And.right (And.right (And.right (And.right (And.right (And.right (by with_reducible assumption))))))))))) | with_reducible exact And.left (And.right (And.right (And.right (And.right (And.right (And.right (And.right (And.right (And.right (And.right (And.right (by with_reducible assumption)))))))))))) | with_reducible exact And.left (And.right (And.right (And.right (And.right (And.right (And.right (And.right (And.right (And.right (And.right (And.right (And.right (by with_reducible assumption))))))))))))) | with_reducible exact (And.right (by with_reducible assumption)) | with_reducible exact (And.right (And.right (by with_reducible assumption))) | with_reducible exact (And.right (And.right (And.right (by with_reducible assumption)))) | with_reducible exact (And.right (And.right (And.right (And.right (by with_reducible assumption))))) | with_reducible exact (And.right (And.right (And.right (And.right (And.right (by with_reducible assumption)))))) | with_reducible exact (And.right (And.right (And.right (And.right (And.right (And.right (by with_reducible assumption))))))))) | omega)
  k_with "mcall" => ((with_reducible show wpAny _ _ (call (Value.ref (nat_lit 84)) [Value.int _ _]) _ _ _); k_dflt (refine' c1_claim ?k1 ?k2 ?k3 ?k4 ?k5 ?k6 ?k7 ?k8 ?kp ?_; (case k1 => k_asm); (case k2 => k_asm); (case k3 => k_asm); (case k4 => k_asm); (case k5 => k_asm); (case k6 => first | exact rfl | assumption); (case k7 => ktr_room); (case k8 => ktr_units); (case kp => omega)); intro t9 h9 tk9 F9 N9; (have hc19 := c1_room (by assumption) (by omega)); (try dsimp only); (try k_fold))
  k_with "mcall" => ((with_reducible show wpAny _ _ (call (Value.ref (nat_lit 91)) [Value.int _ _]) _ _ _); k_dflt (refine' numref_claim ?k1 ?k2 ?k3 ?k4 ?k5 ?k6 ?k7 ?k8 ?kp ?_; (case k1 => k_asm); (case k2 => k_asm); (case k3 => k_asm); (case k4 => k_asm); (case k5 => k_asm); (case k6 => first | exact rfl | assumption); (case k7 => ktr_room); (case k8 => ktr_units); (case kp => omega)); intro D9 o9 h9 tk9 P9 F9 N9 l9; (try k_lt l9); k_dflt (unfold PairIs at P9; rcases P9 with ⟨t19, c19, hf9, he9⟩ | ⟨t19, f9, t29, c19, hf9, he9⟩); all_goals ((subst he9); (try dsimp only); (try k_fold)))
  k_with "mcall" => ((with_reducible show wpAny _ _ (call (Value.ref (nat_lit 531)) [Value.int _ _]) _ _ _); k_dflt (refine' meant_claim ?k1 ?k2 ?k3 ?k4 ?k5 ?k6 ?k7 ?k8 ?kp ?_; (case k1 => k_asm); (case k2 => k_asm); (case k3 => k_asm); (case k4 => k_asm); (case k5 => k_asm); (case k6 => first | exact rfl | assumption); (case k7 => ktr_room); (case k8 => ktr_units); (case kp => omega)); intro D9 o9 h9 tk9 P9 F9 N9 l9; (try k_lt l9); k_dflt (unfold PairIs at P9; rcases P9 with ⟨t19, c19, hf9, he9⟩ | ⟨t19, f9, t29, c19, hf9, he9⟩); all_goals ((subst he9); (try dsimp only); (try k_fold)))
  k_with "mcall" => ((with_reducible show wpAny _ _ (call (Value.ref (nat_lit 524)) [Value.int _ _, Value.int _ _]) _ _ _); k_dflt (refine' lawCode_claim ?k1 ?k2 ?k3 ?k4 ?k5 ?k6 ?k7 ?k8 ?kp ?kq ?_; (case k1 => k_asm); (case k2 => k_asm); (case k3 => k_asm); (case k4 => k_asm); (case k5 => k_asm); (case k6 => first | exact rfl | assumption); (case k7 => ktr_room); (case k8 => ktr_units); (case kp => with_reducible assumption); (case kq => with_reducible assumption)); intro c9 t9 h9 tk9 hlo9 hhi9 F9 N9; (try dsimp only); (try k_fold))
  k_with "mcall" => ((with_reducible show wpAny _ _ (call (Value.ref (nat_lit 538)) [Value.int _ _, Value.int _ _, Value.int _ _]) _ _ _); k_dflt (first | (refine' digits16_claim ?k1 ?k2 ?k3 ?k4 ?k5 ?k6 ?k7 ?k8 ?kp ?kq ?_; (case k1 => k_asm); (case k2 => k_asm); (case k3 => k_asm); (case k4 => k_asm); (case k5 => k_asm); (case k6 => first | exact rfl | assumption); (case k7 => ktr_room); (case k8 => ktr_units); (case kp => with_reducible assumption); (case kq => with_reducible assumption)) | (refine' digits10_claim ?k1 ?k2 ?k3 ?k4 ?k5 ?k6 ?k7 ?k8 ?kp ?kq ?_; (case k1 => k_asm); (case k2 => k_asm); (case k3 => k_asm); (case k4 => k_asm); (case k5 => k_asm); (case k6 => first | exact rfl | assumption); (case k7 => ktr_room); (case k8 => ktr_units); (case kp => with_reducible assumption); (case kq => with_reducible assumption))); intro d9 t9 h9 tk9 I9 E9 hl9 F9 N9; (try dsimp only); (try k_fold))
  k_with "mcall" => ((with_reducible show wpAny _ _ (call (Value.ref (nat_lit 517)) [Value.ref _, Value.int _ _]) _ _ _); k_dflt (refine' pick_claim ?k1 ?k2 ?k3 ?k4 ?k5 ?k6 ?k7 ?k8 ?kt ?ke ?kp ?kq ?_; (case k1 => k_asm); (case k2 => k_asm); (case k3 => k_asm); (case k4 => k_asm); (case k5 => k_asm); (case k6 => first | exact rfl | assumption); (case k7 => ktr_room); (case k8 => ktr_units); (case kt => repeat' (first | exact Take1.head | apply Take1.tail)); (case ke => k_all); (case kp => decide); (case kq => intro v9; exact PyProof.noPylong_of_log2 (by decide +kernel))); intro r9 v9 t9 t99 c9 h9 tk9 hlo9 hhi9 F9 N9; (try dsimp only); (try k_fold))
  trivial
noncomputable def tailOk (b : Int) : List Nat → Bool
  | [] => true
  | [e] => !isDig b e && Nat.ble 32 e && Nat.ble e 126 && !(Nat.beq e 120) && !(Nat.beq e 88)
  | _ => false
noncomputable def plainOk (l : List Nat) : Bool := l.all fun e => Nat.ble 32 e && Nat.ble e 126
noncomputable abbrev backs5 : List PySem.Str := [PySem.Str.ofString "data", PySem.Str.ofString "attribute value (double-quoted)", PySem.Str.ofString "attribute value (unquoted)", PySem.Str.ofString "RCDATA", PySem.Str.ofString "attribute value (single-quoted)"]
structure CaseOk (b : Int) (hx ds tl bh : List Nat) (code : Option Int) (head tail behind back : PySem.Str) : Prop where
  base : (b = 10 ∧ hx = []) ∨ (b = 16 ∧ (hx = [120] ∨ hx = [88]))
  hhead : head.cps.toList = 35 :: (hx ++ ds)
  hcode : (code = none ∧ ds = []) ∨ ∃ c, code = some c ∧ 0 ≤ c ∧ ds ≠ [] ∧ valOf b ds = c
  hds : ∀ d ∈ ds, isDig b d = true
  hlen : ds.length ≤ 24
  htail : tail.cps.toList = tl
  htok : tailOk b tl = true
  hbeh : behind.cps.toList = bh
  hbok : plainOk bh = true
  hblen : bh.length ≤ 2
  hnone : tl = [] → bh = []
  hback : back ∈ backs5
noncomputable abbrev ends16 : List PySem.Str := [PySem.Str.ofString ";", PySem.Str.ofString "", PySem.Str.ofString "/", PySem.Str.ofString ":", PySem.Str.ofString "@", PySem.Str.ofString "G", PySem.Str.ofString "`", PySem.Str.ofString "g"]
noncomputable abbrev ends10 : List PySem.Str := [PySem.Str.ofString ";", PySem.Str.ofString "", PySem.Str.ofString "/", PySem.Str.ofString ":", PySem.Str.ofString "a", PySem.Str.ofString "=", PySem.Str.ofString "&", PySem.Str.ofString " "]
noncomputable abbrev behinds : List PySem.Str := [PySem.Str.ofString "", PySem.Str.ofString "7;", PySem.Str.ofString "&x"]
theorem ends16_ok : ∀ i : Fin 8, tailOk 16 (ends16.getD i.val PySem.Str.empty).cps.toList = true := by decide +kernel
theorem ends10_ok : ∀ i : Fin 8, tailOk 10 (ends10.getD i.val PySem.Str.empty).cps.toList = true := by decide +kernel
theorem behinds_ok : ∀ i : Fin 3, (plainOk (behinds.getD i.val PySem.Str.empty).cps.toList && Nat.ble (behinds.getD i.val PySem.Str.empty).cps.toList.length 2) = true := by decide +kernel
theorem empty_ok : (PySem.Str.ofString "").cps.toList = [] := by decide +kernel
theorem str_nil {x : PySem.Str} (h : x.cps.toList = []) : x = PySem.Str.ofString "" := by
  apply PySem.Str.ext'
  apply Array.toList_inj.mp
  rw [h, empty_ok]
theorem val_zeros (b : Int) : ∀ (n : Nat) (l : List Nat), valOf b (List.replicate n 48 ++ l) = valOf b l
  | 0, _ => rfl
  | n + 1, l => by
    rw [List.replicate_succ, List.cons_append, val_cons, val_zeros b n l]
    have : dval 48 = 0 := by decide
    rw [this, Int.zero_mul, Int.zero_add]
theorem mod_ix {r : Int} {n : Nat} (hn : 0 < n) : (r.fmod n).toNat < n := by
  have h0 : 0 ≤ r.fmod n := Int.fmod_nonneg_of_pos _ (by omega)
  have h1 : r.fmod n < n := Int.fmod_lt_of_pos _ (by omega)
  omega
theorem xX_item (r : Int) : Txt.item (PySem.Str.ofString "xX") (r.fmod 2) = ⟨#[120]⟩ ∨ Txt.item (PySem.Str.ofString "xX") (r.fmod 2) = ⟨#[88]⟩ := by
  rw [Int.fmod_eq_emod_of_nonneg _ (by decide)]
  have : r % 2 = 0 ∨ r % 2 = 1 := by omega
  rcases this with e | e <;> rw [e]
  · left; decide +kernel
  · right; decide +kernel
theorem getD_mem {l : List PySem.Str} {j : Nat} (h : j < l.length) : l.getD j PySem.Str.empty ∈ l := by
  have e : l.getD j PySem.Str.empty = l[j] := by simp [List.getD, h]
  rw [e]; exact List.getElem_mem h
/-- the parts of a case: the sign behind '#', the digits, the end, what stands behind -/
theorem caseOk_of {b : Int} {hx ds : List Nat} {code : Option Int} {head : PySem.Str} {ends : List PySem.Str} {i j p : Nat} {behind : PySem.Str}
    (base : (b = 10 ∧ hx = [] ∧ ends = ends10) ∨ (b = 16 ∧ (hx = [120] ∨ hx = [88]) ∧ ends = ends16)) (hi : i < 8) (hj : j < 5) (hp : p < 3)
    (hhead : head.cps.toList = 35 :: (hx ++ ds)) (hcode : (code = none ∧ ds = []) ∨ ∃ c, code = some c ∧ 0 ≤ c ∧ ds ≠ [] ∧ valOf b ds = c) (hds : ∀ d ∈ ds, isDig b d = true) (hlen : ds.length ≤ 24)
    (hb : ((ends.getD i PySem.Str.empty != PySem.Str.ofString "") = true ∧ behind = behinds.getD p PySem.Str.empty) ∨ behind = PySem.Str.ofString "") :
    ∃ b hx ds tl bh, CaseOk b hx ds tl bh code head (ends.getD i PySem.Str.empty) behind (backs5.getD j PySem.Str.empty) := by
  have ht : tailOk b (ends.getD i PySem.Str.empty).cps.toList = true := by
    rcases base with ⟨rfl, _, rfl⟩ | ⟨rfl, _, rfl⟩
    · exact ends10_ok ⟨i, hi⟩
    · exact ends16_ok ⟨i, hi⟩
  have hbk : backs5.getD j PySem.Str.empty ∈ backs5 := by
    exact getD_mem (l := backs5) hj
  have hbeh : plainOk behind.cps.toList = true ∧ behind.cps.toList.length ≤ 2 := by
    rcases hb with ⟨_, rfl⟩ | rfl
    · have := Bool.and_eq_true_iff.mp (behinds_ok ⟨p, hp⟩)
      exact ⟨this.1, Nat.le_of_ble_eq_true this.2⟩
    · rw [empty_ok]; exact ⟨rfl, Nat.zero_le _⟩
  refine ⟨b, hx, ds, _, _, ⟨?_, hhead, hcode, hds, hlen, rfl, ht, rfl, hbeh.1, hbeh.2, ?_, hbk⟩⟩
  · rcases base with ⟨a, c, _⟩ | ⟨a, c, _⟩
    · exact .inl ⟨a, c⟩
    · exact .inr ⟨a, c⟩
  · intro hn
    rcases hb with ⟨h1, _⟩ | rfl
    · rw [str_nil hn] at h1
      simp at h1
    · exact empty_ok
/-- what _law_case hands back -/
noncomputable def CaseObj (o : Obj) : Prop :=
  ∃ b hx ds tl bh code head tail behind back, CaseOk b hx ds tl bh code head tail behind back ∧ ∃ cv t1 t2 t3 t4 n, ((code = none ∧ cv = Value.none) ∨ ∃ c t, code = some c ∧ cv = Value.int c t) ∧
    o = ({ cls := .type "tuple", data := .seq #[cv, .str head t1, .str tail t2, .str behind t3, .str back t4] n } : Obj)
theorem obj_ret {P : Obj → Prop} {h₀ h : Heap} {L D : Addr} {m : PySem.Str → Option Value} {news news' : List (Addr × Obj)} {s : Shared} {Q : Value → Shared → Prop} {o : Obj} {tk : Nat}
    (hret : ∀ (D : Addr) (o : Obj) (h' : Heap) (tk' : Nat), P o → Fr h₀ L h' m → News h₀ L h' ((D, o) :: news) → (∀ p ∈ news, p.1 < D) → Q (.ref D) { s with heap := h', toks := tk' })
    (hP : P o) (F : Fr h₀ L h m) (N : News h₀ L h news') (hD : (D, o) ∈ news') (hs : ∀ p ∈ news, p ∈ news') (hl : ∀ p ∈ news, p.1 < D) : Q (.ref D) { s with heap := h, toks := tk } := by
  refine hret D o h tk hP F (fun p hp => ?_) hl
  rcases List.mem_cons.mp hp with rfl | hp
  · exact N _ hD
  · exact N p (hs p hp)
theorem hash_ok : (PySem.Str.ofString "#").cps.toList = [35] := by decide +kernel
theorem case_none {b : Int} {hx : List Nat} {head : PySem.Str} {ends : List PySem.Str} {i j p n : Nat} {behind : PySem.Str} {t1 t2 t3 t4 : Tok}
    (base : (b = 10 ∧ hx = [] ∧ ends = ends10) ∨ (b = 16 ∧ (hx = [120] ∨ hx = [88]) ∧ ends = ends16)) (hi : i < 8) (hj : j < 5) (hp : p < 3)
    (hhead : head.cps.toList = 35 :: hx)
    (hb : ((ends.getD i PySem.Str.empty != PySem.Str.ofString "") = true ∧ behind = behinds.getD p PySem.Str.empty) ∨ behind = PySem.Str.ofString "") :
    CaseObj { cls := .type "tuple", data := .seq #[.none, .str head t1, .str (ends.getD i PySem.Str.empty) t2, .str behind t3, .str (backs5.getD j PySem.Str.empty) t4] n } := by
  obtain ⟨b', hx', ds, tl, bh, C⟩ := caseOk_of (ds := []) (code := none) base hi hj hp (by rw [List.append_nil]; exact hhead) (.inl ⟨rfl, rfl⟩) (fun _ h => nomatch h) (Nat.zero_le _) hb
  exact ⟨_, _, _, _, _, _, _, _, _, _, C, _, _, _, _, _, _, .inl ⟨rfl, rfl⟩, rfl⟩
theorem case_some {b c : Int} {hx : List Nat} {head z d : PySem.Str} {ends : List PySem.Str} {i j p n k : Nat} {behind : PySem.Str} {t t1 t2 t3 t4 : Tok}
    (base : (b = 10 ∧ hx = [] ∧ ends = ends10) ∨ (b = 16 ∧ (hx = [120] ∨ hx = [88]) ∧ ends = ends16)) (hi : i < 8) (hj : j < 5) (hp : p < 3)
    (hhead : head.cps.toList = 35 :: hx) (hz : z.cps.toList = List.replicate k 48) (hzl : z.length ≤ 3) (I : DigInv b c 0 d) (hd : d ≠ ⟨#[]⟩) (hdl : d.length ≤ 21) (hc : 0 ≤ c)
    (hb : ((ends.getD i PySem.Str.empty != PySem.Str.ofString "") = true ∧ behind = behinds.getD p PySem.Str.empty) ∨ behind = PySem.Str.ofString "") :
    CaseObj { cls := .type "tuple", data := .seq #[.int c t, .str (head ++ z ++ d) t1, .str (ends.getD i PySem.Str.empty) t2, .str behind t3, .str (backs5.getD j PySem.Str.empty) t4] n } := by
  have hdc : d.cps.toList ≠ [] := fun q => hd (by apply PySem.Str.ext'; apply Array.toList_inj.mp; exact q)
  have hL : d.cps.toList.length = d.length := by simp [PySem.Str.length]
  have hZ : z.cps.toList.length = z.length := by simp [PySem.Str.length]
  have hk : k ≤ 3 := by rw [hz, List.length_replicate] at hZ; omega
  obtain ⟨_, _, hv, hdd, _⟩ := I
  obtain ⟨b', hx', ds, tl, bh, C⟩ := caseOk_of (head := head ++ z ++ d) (ds := List.replicate k 48 ++ d.cps.toList) (code := some c) base hi hj hp (by simp [PySem.Str.cps_append, hhead, hz])
    (.inr ⟨c, rfl, hc, by simp [hdc], by rw [val_zeros]; rw [Int.zero_mul, Int.zero_add] at hv; exact hv⟩)
    (fun x hx => by
      rcases List.mem_append.mp hx with q | q
      · rw [List.eq_of_mem_replicate q]
        rcases base with ⟨rfl, _⟩ | ⟨rfl, _⟩ <;> decide
      · exact hdd x q)
    (by rw [List.length_append, List.length_replicate, hL]; omega) hb
  exact ⟨_, _, _, _, _, _, _, _, _, _, C, _, _, _, _, _, _, .inr ⟨c, t, rfl, rfl⟩, rfl⟩
theorem hash_x {r : Int} (P : List Nat → Prop) (h1 : (PySem.Str.ofString "#" ++ Txt.item (PySem.Str.ofString "xX") (r.fmod 2)).cps.toList = [35, 120] → P [120]) (h2 : (PySem.Str.ofString "#" ++ Txt.item (PySem.Str.ofString "xX") (r.fmod 2)).cps.toList = [35, 88] → P [88]) : ∃ hx, P hx := by
  rcases xX_item r with e | e
  · exact ⟨_, h1 (by rw [e, PySem.Str.cps_append]; simp [hash_ok])⟩
  · exact ⟨_, h2 (by rw [e, PySem.Str.cps_append]; simp [hash_ok])⟩
theorem hash_hex (r : Int) : ∃ hx, (hx = [120] ∨ hx = [88]) ∧ (PySem.Str.ofString "#" ++ Txt.item (PySem.Str.ofString "xX") (r.fmod 2)).cps.toList = 35 :: hx := by
  rcases xX_item r with e | e
  · exact ⟨_, .inl rfl, by rw [e, PySem.Str.cps_append]; simp [hash_ok]⟩
  · exact ⟨_, .inr rfl, by rw [e, PySem.Str.cps_append]; simp [hash_ok]⟩

theorem zero_behinds : 0 < behinds.length := Nat.zero_lt_succ _
theorem noneH {r : Int} {i j p n : Nat} {behind : PySem.Str} {t1 t2 t3 t4 : Tok} (hi : i < 8) (hj : j < 5) (hp : p < behinds.length)
    (hb : ((ends16.getD i PySem.Str.empty != PySem.Str.ofString "") = true ∧ behind = behinds.getD p PySem.Str.empty) ∨ behind = PySem.Str.ofString "") :
    CaseObj { cls := .type "tuple", data := .seq #[.none, .str (PySem.Str.ofString "#" ++ Txt.item (PySem.Str.ofString "xX") (r.fmod 2)) t1, .str (ends16.getD i PySem.Str.empty) t2, .str behind t3, .str (backs5.getD j PySem.Str.empty) t4] n } := by
  obtain ⟨hx, ha, hh⟩ := hash_hex r
  exact case_none (.inr ⟨rfl, ha, rfl⟩) hi hj hp hh hb
theorem noneD {i j p n : Nat} {behind : PySem.Str} {t1 t2 t3 t4 : Tok} (hi : i < 8) (hj : j < 5) (hp : p < behinds.length)
    (hb : ((ends10.getD i PySem.Str.empty != PySem.Str.ofString "") = true ∧ behind = behinds.getD p PySem.Str.empty) ∨ behind = PySem.Str.ofString "") :
    CaseObj { cls := .type "tuple", data := .seq #[.none, .str (PySem.Str.ofString "#") t1, .str (ends10.getD i PySem.Str.empty) t2, .str behind t3, .str (backs5.getD j PySem.Str.empty) t4] n } :=
  case_none (.inl ⟨rfl, rfl, rfl⟩) hi hj hp hash_ok hb
theorem someH {r c : Int} {z d : PySem.Str} {i j p n k : Nat} {behind : PySem.Str} {t t1 t2 t3 t4 : Tok} (hi : i < 8) (hj : j < 5) (hp : p < behinds.length)
    (hz : z.cps.toList = List.replicate k 48) (hzl : z.length ≤ 3) (I : DigInv 16 c 0 d) (hd : d ≠ ⟨#[]⟩) (hdl : d.length ≤ 21) (hc : 0 ≤ c)
    (hb : ((ends16.getD i PySem.Str.empty != PySem.Str.ofString "") = true ∧ behind = behinds.getD p PySem.Str.empty) ∨ behind = PySem.Str.ofString "") :
    CaseObj { cls := .type "tuple", data := .seq #[.int c t, .str (PySem.Str.ofString "#" ++ Txt.item (PySem.Str.ofString "xX") (r.fmod 2) ++ z ++ d) t1, .str (ends16.getD i PySem.Str.empty) t2, .str behind t3, .str (backs5.getD j PySem.Str.empty) t4] n } := by
  obtain ⟨hx, ha, hh⟩ := hash_hex r
  exact case_some (.inr ⟨rfl, ha, rfl⟩) hi hj hp hh hz hzl I hd hdl hc hb
theorem someD {c : Int} {z d : PySem.Str} {i j p n k : Nat} {behind : PySem.Str} {t t1 t2 t3 t4 : Tok} (hi : i < 8) (hj : j < 5) (hp : p < behinds.length)
    (hz : z.cps.toList = List.replicate k 48) (hzl : z.length ≤ 3) (I : DigInv 10 c 0 d) (hd : d ≠ ⟨#[]⟩) (hdl : d.length ≤ 21) (hc : 0 ≤ c)
    (hb : ((ends10.getD i PySem.Str.empty != PySem.Str.ofString "") = true ∧ behind = behinds.getD p PySem.Str.empty) ∨ behind = PySem.Str.ofString "") :
    CaseObj { cls := .type "tuple", data := .seq #[.int c t, .str (PySem.Str.ofString "#" ++ z ++ d) t1, .str (ends10.getD i PySem.Str.empty) t2, .str behind t3, .str (backs5.getD j PySem.Str.empty) t4] n } :=
  case_some (.inl ⟨rfl, rfl, rfl⟩) hi hj hp hash_ok hz hzl I hd hdl hc hb

theorem rsC5 : True := by
  k_with_none
  k_with "kne" => (refine neN ?_; (try dsimp only); first | with_reducible assumption | with_reducible exact Ne.symm (by with_reducible assumption) | (refine Nat.ne_of_lt ?_; (first | with_reducible assumption | with_reducible exact And.left (by with_reducible assumption) | with_reducible exact And.left (And.right (by with_reducible assumption)) | with_reducible exact And.left (And.right (And.right (by with_reducible assumption))) | with_reducible exact And.left (And.right (And.right (And.right (by with_reducible assumption)))) | with_reducible exact And.left (And.right (And.right (And.right (And.right (by with_reducible assumption))))) | with_reducible exact And.left (And.right (And.right (And.right (And.right (And.right (by with_reducible assumption)))))) | with_reducible exact And.left (And.right (And.right (And.right (And.right (And.right (And.right (by with_reducible assumption))))))) | with_reducible exact And.left (And.right (And.right (And.right (And.right (And.right (And.right (And.right (by with_reducible assumption)))))))) | with_reducible exact And.left (And.right (And.right (And.right (And.right (And.right (And.right (And.right (And.right (by with_reducible assumption))))))))) | with_reducible exact And.left (And.right (And.right (And.right (And.right (And.right (And.right (And.right (And.right (And.right (by with_reducible assumption)))))))))) | with_reducible exact And.left (And.right (And.right (And.right (And.right (And.right (And.right (And.right (And.right (And.right (And.right (by with_reducible assumption))))))))))) | with_reducible exact And.left (And.right (And.right (And.right (And.right (And.right (And.right (And.right (And.right (And.right (And.right (And.right (by with_reducible assumption)))))))))))) | with_reducible exact And.left (And.right (And.right (And.right (And.right (And.right (And.right (And.right (And.right (And.right (And.right (And.right (And.right (by with_reducible assumption))))))))))))) | with_reducible exact (And.right (by with_reducible assumption)) | with_reducible exact (And.right (And.right (by with_reducible assumption))) | with_reducible exact (And.right (And.right (And.right (by with_reducible assumption)))) | with_reducible exact (And.right (And.right (And.right (And.right (by with_reducible assumption))))) | with_reducible exact (And.right (And.right (And.right (And.right (And.right (by with_reducible assumption)))))) | with_reducible exact (And.right (And.right (And.right (And.right (And.right (And.right (by with_reducible assumption))))))))) | (refine Nat.ne_of_gt ?_; (first | with_reducible assumption | with_reducible exact And.left (by with_reducible assumption) | with_reducible exact And.left (And.right (by with_reducible assumption)) | with_reducible exact And.left (And.right (And.right (by with_reducible assumption))) | with_reducible exact And.left (And.right (And.right (And.right (by with_reducible assumption)))) | with_reducible exact And.left (And.right (And.right (And.right (And.right (by with_reducible assumption))))) | with_reducible exact And.left (And.right (And.right (And.right (And.right (And.right (by with_reducible assumption)))))) | with_reducible exact And.left (And.right (And.right (And.right (And.right (And.right (And.right (by with_reducible assumption))))))) | with_reducible exact And.left (And.right (And.right (And.right (And.right (And.right (And.right (And.right (by with_reducible assumption)))))))) | with_reducible exact And.left (And.right (And.right (And.right (And.right (And.right (And.right (And.right (And.right (by with_reducible assumption))))))))) | with_reducible exact And.left (And.right (And.right (And.right (And.right (And.right (And.right (And.right (And.right (And.right (by with_reducible assumption)))))))))) | with_reducible exact And.left (And.right (And.right (And.right (And.right (And.right (And.right (And.right (And.right (And.right (And.right (by with_reducible assumption))))))))))) | with_reducible exact And.left (And.right (And.right (And.right (And.right (And.right (And.right (And.right (And.right (And.right (And.right (And.right (by with_reducible assumption)))))))))))) | with_reducible exact And.left (And.right (And.right (And.right (And.right (And.right (And.right (And.right (And.right (And.right (And.right (And.right (And.right (by with_reducible assumption))))))))))))) | with_reducible exact (And.right (by with_reducible assumption)) | with_reducible exact (And.right (And.right (by with_reducible assumption))) | with_reducible exact (And.right (And.right (And.right (by with_reducible assumption)))) | with_reducible exact (And.right (And.right (And.right (And.right (by with_reducible assumption))))) | with_reducible exact (And.right (And.right (And.right (And.right (And.right (by with_reducible assumption)))))) | with_reducible exact (And.right (And.right (And.right (And.right (And.right (And.right (by with_reducible assumption))))))))) | omega)
  k_with "mcall" => ((with_reducible show wpAny _ _ (call (Value.ref (nat_lit 84)) [Value.int _ _]) _ _ _); k_dflt (refine' c1_claim ?k1 ?k2 ?k3 ?k4 ?k5 ?k6 ?k7 ?k8 ?kp ?_; (case k1 => k_asm); (case k2 => k_asm); (case k3 => k_asm); (case k4 => k_asm); (case k5 => k_asm); (case k6 => first | exact rfl | assumption); (case k7 => ktr_room); (case k8 => ktr_units); (case kp => omega)); intro t9 h9 tk9 F9 N9; (have hc19 := c1_room (by assumption) (by omega)); (try dsimp only); (try k_fold))
  k_with "mcall" => ((with_reducible show wpAny _ _ (call (Value.ref (nat_lit 91)) [Value.int _ _]) _ _ _); k_dflt (refine' numref_claim ?k1 ?k2 ?k3 ?k4 ?k5 ?k6 ?k7 ?k8 ?kp ?_; (case k1 => k_asm); (case k2 => k_asm); (case k3 => k_asm); (case k4 => k_asm); (case k5 => k_asm); (case k6 => first | exact rfl | assumption); (case k7 => ktr_room); (case k8 => ktr_units); (case kp => omega)); intro D9 o9 h9 tk9 P9 F9 N9 l9; (try k_lt l9); k_dflt (unfold PairIs at P9; rcases P9 with ⟨t19, c19, hf9, he9⟩ | ⟨t19, f9, t29, c19, hf9, he9⟩); all_goals ((subst he9); (try dsimp only); (try k_fold)))
  k_with "mcall" => ((with_reducible show wpAny _ _ (call (Value.ref (nat_lit 531)) [Value.int _ _]) _ _ _); k_dflt (refine' meant_claim ?k1 ?k2 ?k3 ?k4 ?k5 ?k6 ?k7 ?k8 ?kp ?_; (case k1 => k_asm); (case k2 => k_asm); (case k3 => k_asm); (case k4 => k_asm); (case k5 => k_asm); (case k6 => first | exact rfl | assumption); (case k7 => ktr_room); (case k8 => ktr_units); (case kp => omega)); intro D9 o9 h9 tk9 P9 F9 N9 l9; (try k_lt l9); k_dflt (unfold PairIs at P9; rcases P9 with ⟨t19, c19, hf9, he9⟩ | ⟨t19, f9, t29, c19, hf9, he9⟩); all_goals ((subst he9); (try dsimp only); (try k_fold)))
  k_with "mcall" => ((with_reducible show wpAny _ _ (call (Value.ref (nat_lit 524)) [Value.int _ _, Value.int _ _]) _ _ _); k_dflt (refine' lawCode_claim ?k1 ?k2 ?k3 ?k4 ?k5 ?k6 ?k7 ?k8 ?kp ?kq ?_; (case k1 => k_asm); (case k2 => k_asm); (case k3 => k_asm); (case k4 => k_asm); (case k5 => k_asm); (case k6 => first | exact rfl | assumption); (case k7 => ktr_room); (case k8 => ktr_units); (case kp => with_reducible assumption); (case kq => with_reducible assumption)); intro c9 t9 h9 tk9 hlo9 hhi9 F9 N9; (try dsimp only); (try k_fold))
  k_with "mcall" => ((with_reducible show wpAny _ _ (call (Value.ref (nat_lit 538)) [Value.int _ _, Value.int _ _, Value.int _ _]) _ _ _); k_dflt (first | (refine' digits16_claim ?k1 ?k2 ?k3 ?k4 ?k5 ?k6 ?k7 ?k8 ?kp ?kq ?_; (case k1 => k_asm); (case k2 => k_asm); (case k3 => k_asm); (case k4 => k_asm); (case k5 => k_asm); (case k6 => first | exact rfl | assumption); (case k7 => ktr_room); (case k8 => ktr_units); (case kp => with_reducible assumption); (case kq => with_reducible assumption)) | (refine' digits10_claim ?k1 ?k2 ?k3 ?k4 ?k5 ?k6 ?k7 ?k8 ?kp ?kq ?_; (case k1 => k_asm); (case k2 => k_asm); (case k3 => k_asm); (case k4 => k_asm); (case k5 => k_asm); (case k6 => first | exact rfl | assumption); (case k7 => ktr_room); (case k8 => ktr_units); (case kp => with_reducible assumption); (case kq => with_reducible assumption))); intro d9 t9 h9 tk9 I9 E9 hl9 F9 N9; (try dsimp only); (try k_fold))
  k_with "mcall" => ((with_reducible show wpAny _ _ (call (Value.ref (nat_lit 517)) [Value.ref _, Value.int _ _]) _ _ _); k_dflt (refine' pick_claim ?k1 ?k2 ?k3 ?k4 ?k5 ?k6 ?k7 ?k8 ?kt ?ke ?kp ?kq ?_; (case k1 => k_asm); (case k2 => k_asm); (case k3 => k_asm); (case k4 => k_asm); (case k5 => k_asm); (case k6 => first | exact rfl | assumption); (case k7 => ktr_room); (case k8 => ktr_units); (case kt => repeat' (first | exact Take1.head | apply Take1.tail)); (case ke => k_all); (case kp => decide); (case kq => intro v9; exact PyProof.noPylong_of_log2 (by decide +kernel))); intro r9 v9 t9 t99 c9 h9 tk9 hlo9 hhi9 F9 N9; (try dsimp only); (try k_fold))
  trivial
theorem wdC5x1 : True := by
  k_with "subscriptTail" => (k_here; (with_reducible show wpAny _ _ (subscriptTail _ _ (Value.ref _) (Value.int _ _)) _ _ _); k_dflt (refine' KTb.item_tup ?ktbl ?ktbw ?ktb0 ?ktb1 ?ktbf ?_; (case ktbl => exact News.isTup (by k_asm) (by k_mem)); (case ktbw => repeat constructor); (case ktb0 => ktb_idx); (case ktb1 => ktb_idx); (case ktbf => ktb_idx)); intro t9 hlt9)
  trivial
theorem zeros4 {n : Int} (h0 : 0 ≤ n) (h1 : n < 4) : (Txt.mul (PySem.Str.ofString "0") n).cps.toList = List.replicate n.toNat 48 := by
  have : n = 0 ∨ n = 1 ∨ n = 2 ∨ n = 3 := by omega
  rcases this with rfl | rfl | rfl | rfl <;> decide +kernel
theorem zeros_mul {prog : Program} {w : World} {A : Around} {E : Value → Shared → Prop} {s : Shared} {r : Int} {t u : Tok} {Q : Value → Shared → Prop}
    (h : ∀ (z : PySem.Str) (t' : Tok) (k : Nat), z.cps.toList = List.replicate (r.fmod 4).toNat 48 → z.length ≤ 3 → Q (.str z t') { s with toks := k }) :
    wpAny (model prog w) A (binaryOp .Mult (.str (PySem.Str.ofString "0") t) (.int (r.fmod 4) u)) Q E s := by
  have h0 : 0 ≤ r.fmod 4 := Int.fmod_nonneg_of_pos _ (by decide)
  have h1 : r.fmod 4 < 4 := Int.fmod_lt_of_pos _ (by decide)
  refine KXi.mul (n := 1) (by decide +kernel) (by decide) (by omega) (by omega) fun t' k _ hk => ?_
  refine h _ t' k (zeros4 h0 h1) ?_
  have := hk h0
  omega
theorem wdC5x2 : True := by
  k_with "binaryOp Mult str int" => (k_here; (with_reducible show wpAny _ _ (binaryOp Operator.Mult (Value.str _ _) (Value.int _ _)) _ _ _); (refine zeros_mul ?_); intro z9 t9 k9 hz9 hz99)
  trivial
theorem ite_eqT {a b : Int} {P Q : Prop} (h : a = b) (hp : P) : if (a == b) = true then P else Q := by rw [if_pos (by simp [h])]; exact hp
theorem ite_neF {a b : Int} {P Q : Prop} (h : a ≠ b) (hq : Q) : if (a == b) = true then P else Q := by rw [if_neg (by simp [h])]; exact hq
theorem wdC5x3 : True := by
  skip
  trivial
theorem case_claim {w : World} {mean : ExcName → Option Value} {mg mb : PySem.Str → Option Value} {dp un : Nat} {gd : Option (List Code)} {cn : PySem.Str} {cs : Scope} {a : Addr} {ccd : Value} {cl : List (PySem.Str × Addr)} {outer : List Env} {A₀ : Around} {base h₀ : Heap} {L : Addr} {m : PySem.Str → Option Value} {s : Shared} {Q E : Value → Shared → Prop} {news : List (Addr × Obj)} {g k : Int} {t1 t2 : Tok} (B : Below A₀ base outer h₀) (F : Fr h₀ L s.heap m) (X : (Mine.top.heap_1 w.params).In h₀) (N : News h₀ L s.heap news) (T : Top q (looseW q []) mean mg mb h₀) (hk : cs.kind = .function) (hd : dp + 6 < recursionLimit) (hu : un + 48 < cLine) (h0 : 0 ≤ k) (h1 : k ≤ 8)
    (hret : ∀ (D : Addr) (o : Obj) (h' : Heap) (tk' : Nat), CaseObj o → Fr h₀ L h' m → News h₀ L h' ((D, o) :: news) → (∀ p ∈ news, p.1 < D) → Q (.ref D) { s with heap := h', toks := tk' }) :
    wpAny (model rw'.row.toRowW.prog w) (ktrTop dp un gd cn cs L a ccd cl outer) (call (.ref 545) [.int g t1, .int k t2]) Q E s := by
  revert X
  k_fill
  intro X
  refine wpAny_call ?_
  k_dflt cell_enter
  k_with "ite" => first | (with_reducible refine ite_eqT (by with_reducible assumption) ?_) | (with_reducible refine ite_neF (by with_reducible assumption) ?_)
  k_steps
  all_goals try (exfalso; (with_reducible rename (Int.fmod _ 2 = 0) => hA); (with_reducible rename (Int.fmod _ 2 ≠ 0) => hB); exact hB hA)
  all_goals (
    (with_reducible rename News h₀ L _ _ => kN9)
    (with_reducible rename Fr h₀ L _ _ => kF9)
    with_reducible refine obj_ret hret ?_ kF9 kN9 List.mem_cons_self ?_ ?_
    rotate_left
    · intro p9 hp9
      repeat (first | (with_reducible exact hp9) | (with_reducible refine List.mem_cons_of_mem _ ?_))
    · first | (with_reducible exact lt_of_allLt (by with_reducible assumption)) | (with_reducible exact lt_of_allLt (And.right (by with_reducible assumption))) | (with_reducible exact lt_of_allLt (And.right (And.right (by with_reducible assumption)))) | (with_reducible exact lt_of_allLt (And.right (And.right (And.right (by with_reducible assumption))))) | (with_reducible exact lt_of_allLt (And.right (And.right (And.right (And.right (by with_reducible assumption)))))) | (with_reducible exact lt_of_allLt (And.right (And.right (And.right (And.right (And.right (by with_reducible assumption))))))) | (with_reducible exact lt_of_allLt (And.right (And.right (And.right (And.right (And.right (And.right (by with_reducible assumption)))))))) | (with_reducible exact lt_of_allLt (And.right (And.right (And.right (And.right (And.right (And.right (And.right (by with_reducible assumption)))))))))

    first
         | (with_reducible refine noneH (mod_ix (n := 8) (by decide)) (mod_ix (n := 5) (by decide)) (p := _) (by with_reducible assumption) (.inl ⟨(by with_reducible assumption), rfl⟩))
         | (with_reducible refine noneH (p := 0) (mod_ix (n := 8) (by decide)) (mod_ix (n := 5) (by decide)) zero_behinds (.inr rfl))
         | (with_reducible refine noneD (mod_ix (n := 8) (by decide)) (mod_ix (n := 5) (by decide)) (p := _) (by with_reducible assumption) (.inl ⟨(by with_reducible assumption), rfl⟩))
         | (with_reducible refine noneD (p := 0) (mod_ix (n := 8) (by decide)) (mod_ix (n := 5) (by decide)) zero_behinds (.inr rfl))
         | (with_reducible refine someH (mod_ix (n := 8) (by decide)) (mod_ix (n := 5) (by decide)) (p := _) (by with_reducible assumption) (by with_reducible assumption) (by with_reducible assumption) (by with_reducible assumption) (by with_reducible assumption) (by with_reducible assumption) (by with_reducible assumption) (.inl ⟨(by with_reducible assumption), rfl⟩))
         | (with_reducible refine someH (p := 0) (mod_ix (n := 8) (by decide)) (mod_ix (n := 5) (by decide)) zero_behinds (by with_reducible assumption) (by with_reducible assumption) (by with_reducible assumption) (by with_reducible assumption) (by with_reducible assumption) (by with_reducible assumption) (.inr rfl))
         | (with_reducible refine someD (mod_ix (n := 8) (by decide)) (mod_ix (n := 5) (by decide)) (p := _) (by with_reducible assumption) (by with_reducible assumption) (by with_reducible assumption) (by with_reducible assumption) (by with_reducible assumption) (by with_reducible assumption) (by with_reducible assumption) (.inl ⟨(by with_reducible assumption), rfl⟩))
         | (with_reducible refine someD (p := 0) (mod_ix (n := 8) (by decide)) (mod_ix (n := 5) (by decide)) zero_behinds (by with_reducible assumption) (by with_reducible assumption) (by with_reducible assumption) (by with_reducible assumption) (by with_reducible assumption) (by with_reducible assumption) (.inr rfl))
    )

theorem rsC6 : True := by
  k_with_none
  k_with "kne" => (refine neN ?_; (try dsimp only); first | with_reducible assumption | with_reducible exact Ne.symm (by with_reducible assumption) | (refine Nat.ne_of_lt ?_; (first | with_reducible assumption | with_reducible exact And.left (by with_reducible assumption) | with_reducible exact And.left (And.right (by with_reducible assumption)) | with_reducible exact And.left (And.right (And.right (by with_reducible assumption))) | with_reducible exact And.left (And.right (And.right (And.right (by with_reducible assumption)))) | with_reducible exact And.left (And.right (And.right (And.right (And.right (by with_reducible assumption))))) | with_reducible exact And.left (And.right (And.right (And.right (And.right (And.right (by with_reducible assumption)))))) | with_reducible exact And.left (And.right (And.right (And.right (And.right (And.right (And.right (by with_reducible assumption))))))) | with_reducible exact And.left (And.right (And.right (And.right (And.right (And.right (And.right (And.right (by with_reducible assumption)))))))) | with_reducible exact And.left (And.right (And.right (And.right (And.right (And.right (And.right (And.right (And.right (by with_reducible assumption))))))))) | with_reducible exact And.left (And.right (And.right (And.right (And.right (And.right (And.right (And.right (And.right (And.right (by with_reducible assumption)))))))))) | with_reducible exact And.left (And.right (And.right (And.right (And.right (And.right (And.right (And.right (And.right (And.right (And.right (by with_reducible assumption))))))))))) | with_reducible exact And.left (And.right (And.right (And.right (And.right (And.right (And.right (And.right (And.right (And.right (And.right (And.right (by with_reducible assumption)))))))))))) | with_reducible exact And.left (And.right (And.right (And.right (And.right (And.right (And.right (And.right (And.right (And.right (And.right (And.right (And.right (by with_reducible assumption))))))))))))) | with_reducible exact (And.right (by with_reducible assumption)) | with_reducible exact (And.right (And.right (by with_reducible assumption))) | with_reducible exact (And.right (And.right (And.right (by with_reducible assumption)))) | with_reducible exact (And.right (And.right (And.right (And.right (by with_reducible assumption))))) | with_reducible exact (And.right (And.right (And.right (And.right (And.right (by with_reducible assumption)))))) | with_reducible exact (And.right (And.right (And.right (And.right (And.right (And.right (by with_reducible assumption))))))))) | (refine Nat.ne_of_gt ?_; (first | with_reducible assumption | with_reducible exact And.left (by with_reducible assumption) | with_reducible exact And.left (And.right (by with_reducible assumption)) | with_reducible exact And.left (And.right (And.right (by with_reducible assumption))) | with_reducible exact And.left (And.right (And.right (And.right (by with_reducible assumption)))) | with_reducible exact And.left (And.right (And.right (And.right (And.right (by with_reducible assumption))))) | with_reducible exact And.left (And.right (And.right (And.right (And.right (And.right (by with_reducible assumption)))))) | with_reducible exact And.left (And.right (And.right (And.right (And.right (And.right (And.right (by with_reducible assumption))))))) | with_reducible exact And.left (And.right (And.right (And.right (And.right (And.right (And.right (And.right (by with_reducible assumption)))))))) | with_reducible exact And.left (And.right (And.right (And.right (And.right (And.right (And.right (And.right (And.right (by with_reducible assumption))))))))) | with_reducible exact And.left (And.right (And.right (And.right (And.right (And.right (And.right (And.right (And.right (And.right (by with_reducible assumption)))))))))) | with_reducible exact And.left (And.right (And.right (And.right (And.right (And.right (And.right (And.right (And.right (And.right (And.right (by with_reducible assumption))))))))))) | with_reducible exact And.left (And.right (And.right (And.right (And.right (And.right (And.right (And.right (And.right (And.right (And.right (And.right (by with_reducible assumption)))))))))))) | with_reducible exact And.left (And.right (And.right (And.right (And.right (And.right (And.right (And.right (And.right (And.right (And.right (And.right (And.right (by with_reducible assumption))))))))))))) | with_reducible exact (And.right (by with_reducible assumption)) | with_reducible exact (And.right (And.right (by with_reducible assumption))) | with_reducible exact (And.right (And.right (And.right (by with_reducible assumption)))) | with_reducible exact (And.right (And.right (And.right (And.right (by with_reducible assumption))))) | with_reducible exact (And.right (And.right (And.right (And.right (And.right (by with_reducible assumption)))))) | with_reducible exact (And.right (And.right (And.right (And.right (And.right (And.right (by with_reducible assumption))))))))) | omega)
  k_with "mcall" => ((with_reducible show wpAny _ _ (call (Value.ref (nat_lit 84)) [Value.int _ _]) _ _ _); k_dflt (refine' c1_claim ?k1 ?k2 ?k3 ?k4 ?k5 ?k6 ?k7 ?k8 ?kp ?_; (case k1 => k_asm); (case k2 => k_asm); (case k3 => k_asm); (case k4 => k_asm); (case k5 => k_asm); (case k6 => first | exact rfl | assumption); (case k7 => ktr_room); (case k8 => ktr_units); (case kp => omega)); intro t9 h9 tk9 F9 N9; (have hc19 := c1_room (by assumption) (by omega)); (try dsimp only); (try k_fold))
  k_with "mcall" => ((with_reducible show wpAny _ _ (call (Value.ref (nat_lit 91)) [Value.int _ _]) _ _ _); k_dflt (refine' numref_claim ?k1 ?k2 ?k3 ?k4 ?k5 ?k6 ?k7 ?k8 ?kp ?_; (case k1 => k_asm); (case k2 => k_asm); (case k3 => k_asm); (case k4 => k_asm); (case k5 => k_asm); (case k6 => first | exact rfl | assumption); (case k7 => ktr_room); (case k8 => ktr_units); (case kp => omega)); intro D9 o9 h9 tk9 P9 F9 N9 l9; (try k_lt l9); k_dflt (unfold PairIs at P9; rcases P9 with ⟨t19, c19, hf9, he9⟩ | ⟨t19, f9, t29, c19, hf9, he9⟩); all_goals ((subst he9); (try dsimp only); (try k_fold)))
  k_with "mcall" => ((with_reducible show wpAny _ _ (call (Value.ref (nat_lit 531)) [Value.int _ _]) _ _ _); k_dflt (refine' meant_claim ?k1 ?k2 ?k3 ?k4 ?k5 ?k6 ?k7 ?k8 ?kp ?_; (case k1 => k_asm); (case k2 => k_asm); (case k3 => k_asm); (case k4 => k_asm); (case k5 => k_asm); (case k6 => first | exact rfl | assumption); (case k7 => ktr_room); (case k8 => ktr_units); (case kp => omega)); intro D9 o9 h9 tk9 P9 F9 N9 l9; (try k_lt l9); k_dflt (unfold PairIs at P9; rcases P9 with ⟨t19, c19, hf9, he9⟩ | ⟨t19, f9, t29, c19, hf9, he9⟩); all_goals ((subst he9); (try dsimp only); (try k_fold)))
  k_with "mcall" => ((with_reducible show wpAny _ _ (call (Value.ref (nat_lit 524)) [Value.int _ _, Value.int _ _]) _ _ _); k_dflt (refine' lawCode_claim ?k1 ?k2 ?k3 ?k4 ?k5 ?k6 ?k7 ?k8 ?kp ?kq ?_; (case k1 => k_asm); (case k2 => k_asm); (case k3 => k_asm); (case k4 => k_asm); (case k5 => k_asm); (case k6 => first | exact rfl | assumption); (case k7 => ktr_room); (case k8 => ktr_units); (case kp => with_reducible assumption); (case kq => with_reducible assumption)); intro c9 t9 h9 tk9 hlo9 hhi9 F9 N9; (try dsimp only); (try k_fold))
  k_with "mcall" => ((with_reducible show wpAny _ _ (call (Value.ref (nat_lit 538)) [Value.int _ _, Value.int _ _, Value.int _ _]) _ _ _); k_dflt (first | (refine' digits16_claim ?k1 ?k2 ?k3 ?k4 ?k5 ?k6 ?k7 ?k8 ?kp ?kq ?_; (case k1 => k_asm); (case k2 => k_asm); (case k3 => k_asm); (case k4 => k_asm); (case k5 => k_asm); (case k6 => first | exact rfl | assumption); (case k7 => ktr_room); (case k8 => ktr_units); (case kp => with_reducible assumption); (case kq => with_reducible assumption)) | (refine' digits10_claim ?k1 ?k2 ?k3 ?k4 ?k5 ?k6 ?k7 ?k8 ?kp ?kq ?_; (case k1 => k_asm); (case k2 => k_asm); (case k3 => k_asm); (case k4 => k_asm); (case k5 => k_asm); (case k6 => first | exact rfl | assumption); (case k7 => ktr_room); (case k8 => ktr_units); (case kp => with_reducible assumption); (case kq => with_reducible assumption))); intro d9 t9 h9 tk9 I9 E9 hl9 F9 N9; (try dsimp only); (try k_fold))
  k_with "mcall" => ((with_reducible show wpAny _ _ (call (Value.ref (nat_lit 517)) [Value.ref _, Value.int _ _]) _ _ _); k_dflt (refine' pick_claim ?k1 ?k2 ?k3 ?k4 ?k5 ?k6 ?k7 ?k8 ?kt ?ke ?kp ?kq ?_; (case k1 => k_asm); (case k2 => k_asm); (case k3 => k_asm); (case k4 => k_asm); (case k5 => k_asm); (case k6 => first | exact rfl | assumption); (case k7 => ktr_room); (case k8 => ktr_units); (case kt => repeat' (first | exact Take1.head | apply Take1.tail)); (case ke => k_all); (case kp => decide); (case kq => intro v9; exact PyProof.noPylong_of_log2 (by decide +kernel))); intro r9 v9 t9 t99 c9 h9 tk9 hlo9 hhi9 F9 N9; (try dsimp only); (try k_fold))
  trivial
noncomputable def errD (code : PySem.Str) (at' : Int) : Dat := .tuple [.str code, .int at']
noncomputable def lenI (x : PySem.Str) : Int := x.length
noncomputable def absS : PySem.Str := PySem.Str.ofString "absence-of-digits-in-numeric-character-reference"
noncomputable def misS : PySem.Str := PySem.Str.ofString "missing-semicolon-after-character-reference"
noncomputable def atOf (head tail : PySem.Str) : Option Int → Int
  | none => lenI head
  | some _ => if tail = PySem.Str.ofString ";" then lenI head + 1 else lenI head
noncomputable def faultD (c : Int) (at' : Int) : List Dat := match mFault c with
  | none => []
  | some f => [errD f at']
noncomputable def errsOf (head tail : PySem.Str) : Option Int → List Dat
  | none => [errD absS (lenI head)]
  | some c => (if tail = PySem.Str.ofString ";" then [] else [errD misS (lenI head)]) ++ faultD c (atOf head tail (some c) - 1)
noncomputable def textOf (head : PySem.Str) : Option Int → PySem.Str
  | none => PySem.Str.ofString "&" ++ head
  | some c => mText c
noncomputable def DueObj (head tail : PySem.Str) (code : Option Int) (EL : Addr) (o e : Obj) (X : List (Addr × Obj)) : Prop :=
  ∃ t1 t2 n vs k, o = ({ cls := .type "tuple", data := .seq #[.str (textOf head code) t1, .ref EL, .int (atOf head tail code) t2] n } : Obj) ∧ e = listOf (List.toArray vs) k ∧ DatAll X vs (errsOf head tail code)
theorem due_ret {P : Addr → Obj → Obj → List (Addr × Obj) → Prop} {h₀ h : Heap} {L D EL : Addr} {m : PySem.Str → Option Value} {news news' X : List (Addr × Obj)} {s : Shared} {Q : Value → Shared → Prop} {o e : Obj} {tk : Nat}
    (hret : ∀ (D EL : Addr) (o e : Obj) (X : List (Addr × Obj)) (h' : Heap) (tk' : Nat), P EL o e X → Fr h₀ L h' m → News h₀ L h' ((D, o) :: (EL, e) :: (X ++ news)) → (∀ p ∈ news, p.1 < D ∧ p.1 < EL) → Q (.ref D) { s with heap := h', toks := tk' })
    (hP : P EL o e X) (F : Fr h₀ L h m) (N : News h₀ L h news') (hD : (D, o) ∈ news') (hE : (EL, e) ∈ news') (hX : ∀ p ∈ X, p ∈ news') (hs : ∀ p ∈ news, p ∈ news') (hl : ∀ p ∈ news, p.1 < D) (hl2 : ∀ p ∈ news, p.1 < EL) : Q (.ref D) { s with heap := h, toks := tk } := by
  refine hret D EL o e X h tk hP F (fun p hp => ?_) (fun p hp => ⟨hl p hp, hl2 p hp⟩)
  rcases List.mem_cons.mp hp with rfl | hp
  · exact N _ hD
  rcases List.mem_cons.mp hp with rfl | hp
  · exact N _ hE
  rcases List.mem_append.mp hp with hp | hp
  · exact N p (hX p hp)
  · exact N p (hs p hp)
theorem semi_t {tail : PySem.Str} (h : (tail == PySem.Str.ofString ";") = true) : tail = PySem.Str.ofString ";" := by simpa using h
theorem semi_f {tail : PySem.Str} (h : (tail == PySem.Str.ofString ";") = false) : ¬ tail = PySem.Str.ofString ";" := by simpa using h
theorem dat_err {X : List (Addr × Obj)} {D : Addr} {f : PySem.Str} {at' : Int} {t1 t2 : Tok} {n : Nat} (h : (D, ({ cls := .type "tuple", data := .seq #[.str f t1, .int at' t2] n } : Obj)) ∈ X) : DatIn X (.ref D) (errD f at') :=
  DatIn.tuple (vs := [.str f t1, .int at' t2]) h (.cons (.str _ _) (.cons (.int _ _) .nil))
theorem due_none {head tail : PySem.Str} {EL D1 : Addr} {t1 t2 t3 t4 : Tok} {n k n1 : Nat} :
    DueObj head tail none EL { cls := .type "tuple", data := .seq #[.str (PySem.Str.ofString "&" ++ head) t1, .ref EL, .int (head.length : Int) t2] n } (listOf #[.ref D1] k)
      [(D1, { cls := .type "tuple", data := .seq #[.str (PySem.Str.ofString "absence-of-digits-in-numeric-character-reference") t3, .int (head.length : Int) t4] n1 })] :=
  ⟨t1, t2, n, [.ref D1], k, rfl, rfl, .cons (dat_err (.head _)) .nil⟩
theorem due_some0 {head tail : PySem.Str} {c : Int} {EL : Addr} {t1 t2 : Tok} {n k : Nat} (hf : mFault c = none) (ht : (tail == PySem.Str.ofString ";") = true) :
    DueObj head tail (some c) EL { cls := .type "tuple", data := .seq #[.str (mText c) t1, .ref EL, .int ((head.length : Int) + 1) t2] n } (listOf #[] k) [] := by
  refine ⟨t1, t2, n, [], k, ?_, rfl, ?_⟩
  · simp only [textOf, atOf, if_pos (semi_t ht)]; rfl
  · simp only [errsOf, faultD, hf, if_pos (semi_t ht)]; exact .nil
theorem due_some1 {head tail : PySem.Str} {c : Int} {EL D1 : Addr} {t1 t2 t3 t4 : Tok} {n k n1 : Nat} (hf : mFault c = none) (ht : (tail == PySem.Str.ofString ";") = false) :
    DueObj head tail (some c) EL { cls := .type "tuple", data := .seq #[.str (mText c) t1, .ref EL, .int (head.length : Int) t2] n } (listOf (#[].push (.ref D1)) k)
      [(D1, { cls := .type "tuple", data := .seq #[.str (PySem.Str.ofString "missing-semicolon-after-character-reference") t3, .int (head.length : Int) t4] n1 })] := by
  refine ⟨t1, t2, n, [.ref D1], k, ?_, rfl, ?_⟩
  · simp only [textOf, atOf, if_neg (semi_f ht)]; rfl
  · simp only [errsOf, faultD, hf, if_neg (semi_f ht)]; exact .cons (dat_err (.head _)) .nil
theorem due_some2 {head tail f : PySem.Str} {c : Int} {EL D1 : Addr} {t1 t2 t3 t4 : Tok} {n k n1 : Nat} (hf : mFault c = some f) (ht : (tail == PySem.Str.ofString ";") = true) :
    DueObj head tail (some c) EL { cls := .type "tuple", data := .seq #[.str (mText c) t1, .ref EL, .int ((head.length : Int) + 1) t2] n } (listOf (#[].push (.ref D1)) k)
      [(D1, { cls := .type "tuple", data := .seq #[.str f t3, .int ((head.length : Int) + 1 - 1) t4] n1 })] := by
  refine ⟨t1, t2, n, [.ref D1], k, ?_, rfl, ?_⟩
  · simp only [textOf, atOf, if_pos (semi_t ht)]; rfl
  · simp only [errsOf, faultD, hf, if_pos (semi_t ht), atOf]; exact .cons (dat_err (.head _)) .nil
theorem due_some3 {head tail f : PySem.Str} {c : Int} {EL D1 D2 : Addr} {t1 t2 t3 t4 t5 t6 : Tok} {n k n1 n2 : Nat} (hf : mFault c = some f) (ht : (tail == PySem.Str.ofString ";") = false) :
    DueObj head tail (some c) EL { cls := .type "tuple", data := .seq #[.str (mText c) t1, .ref EL, .int (head.length : Int) t2] n } (listOf ((#[].push (.ref D1)).push (.ref D2)) k)
      [(D1, { cls := .type "tuple", data := .seq #[.str (PySem.Str.ofString "missing-semicolon-after-character-reference") t3, .int (head.length : Int) t4] n1 }),
       (D2, { cls := .type "tuple", data := .seq #[.str f t5, .int ((head.length : Int) - 1) t6] n2 })] := by
  refine ⟨t1, t2, n, [.ref D1, .ref D2], k, ?_, rfl, ?_⟩
  · simp only [textOf, atOf, if_neg (semi_f ht)]; rfl
  · simp only [errsOf, faultD, hf, if_neg (semi_f ht), atOf]; exact .cons (dat_err (.head _)) (.cons (dat_err (.tail _ (.head _))) .nil)
theorem due_claim_none {w : World} {mean : ExcName → Option Value} {mg mb : PySem.Str → Option Value} {dp un : Nat} {gd : Option (List Code)} {cn : PySem.Str} {cs : Scope} {a : Addr} {ccd : Value} {cl : List (PySem.Str × Addr)} {outer : List Env} {A₀ : Around} {base h₀ : Heap} {L : Addr} {m : PySem.Str → Option Value} {s : Shared} {Q E : Value → Shared → Prop} {news : List (Addr × Obj)} {head tail : PySem.Str} {t1 t2 : Tok} (B : Below A₀ base outer h₀) (F : Fr h₀ L s.heap m) (X : (Mine.top.heap_1 w.params).In h₀) (N : News h₀ L s.heap news) (T : Top q (looseW q []) mean mg mb h₀) (hk : cs.kind = .function) (hd : dp + 5 < recursionLimit) (hu : un + 40 < cLine) (hl : head.length ≤ 40)
    (hret : ∀ (D EL : Addr) (o e : Obj) (X : List (Addr × Obj)) (h' : Heap) (tk' : Nat), DueObj head tail none EL o e X → Fr h₀ L h' m → News h₀ L h' ((D, o) :: (EL, e) :: (X ++ news)) → (∀ p ∈ news, p.1 < D ∧ p.1 < EL) → Q (.ref D) { s with heap := h', toks := tk' }) :
    wpAny (model rw'.row.toRowW.prog w) (ktrTop dp un gd cn cs L a ccd cl outer) (call (.ref 552) [.none, .str head t1, .str tail t2]) Q E s := by
  revert X
  k_fill
  intro X
  refine wpAny_call ?_
  k_dflt cell_enter
  k_steps
  all_goals (
    (with_reducible rename News h₀ L _ _ => kN9)
    (with_reducible rename Fr h₀ L _ _ => kF9)
    first
      | (with_reducible refine due_ret (P := DueObj head tail none) hret due_none kF9 kN9 List.mem_cons_self (by k_dflt k_mem) (by k_dflt kqd_sub) ?_ ?_ ?_)
    · intro p9 hp9
      repeat (first | (with_reducible exact hp9) | (with_reducible refine List.mem_cons_of_mem _ ?_))
    · first | (with_reducible exact lt_of_allLt (by with_reducible assumption)) | (with_reducible exact lt_of_allLt (And.right (by with_reducible assumption))) | (with_reducible exact lt_of_allLt (And.right (And.right (by with_reducible assumption)))) | (with_reducible exact lt_of_allLt (And.right (And.right (And.right (by with_reducible assumption))))) | (with_reducible exact lt_of_allLt (And.right (And.right (And.right (And.right (by with_reducible assumption)))))) | (with_reducible exact lt_of_allLt (And.right (And.right (And.right (And.right (And.right (by with_reducible assumption))))))) | (with_reducible exact lt_of_allLt (And.right (And.right (And.right (And.right (And.right (And.right (by with_reducible assumption)))))))) | (with_reducible exact lt_of_allLt (And.right (And.right (And.right (And.right (And.right (And.right (And.right (by with_reducible assumption)))))))))
    · first | (with_reducible exact lt_of_allLt (by with_reducible assumption)) | (with_reducible exact lt_of_allLt (And.right (by with_reducible assumption))) | (with_reducible exact lt_of_allLt (And.right (And.right (by with_reducible assumption)))) | (with_reducible exact lt_of_allLt (And.right (And.right (And.right (by with_reducible assumption))))) | (with_reducible exact lt_of_allLt (And.right (And.right (And.right (And.right (by with_reducible assumption)))))) | (with_reducible exact lt_of_allLt (And.right (And.right (And.right (And.right (And.right (by with_reducible assumption))))))) | (with_reducible exact lt_of_allLt (And.right (And.right (And.right (And.right (And.right (And.right (by with_reducible assumption)))))))) | (with_reducible exact lt_of_allLt (And.right (And.right (And.right (And.right (And.right (And.right (And.right (by with_reducible assumption))))))))))
theorem due_claim_some {w : World} {mean : ExcName → Option Value} {mg mb : PySem.Str → Option Value} {dp un : Nat} {gd : Option (List Code)} {cn : PySem.Str} {cs : Scope} {a : Addr} {ccd : Value} {cl : List (PySem.Str × Addr)} {outer : List Env} {A₀ : Around} {base h₀ : Heap} {L : Addr} {m : PySem.Str → Option Value} {s : Shared} {Q E : Value → Shared → Prop} {news : List (Addr × Obj)} {head tail : PySem.Str} {c : Int} {t t1 t2 : Tok} (B : Below A₀ base outer h₀) (F : Fr h₀ L s.heap m) (X : (Mine.top.heap_1 w.params).In h₀) (N : News h₀ L s.heap news) (T : Top q (looseW q []) mean mg mb h₀) (hk : cs.kind = .function) (hd : dp + 5 < recursionLimit) (hu : un + 40 < cLine) (hl : head.length ≤ 40) (hc : 0 ≤ c)
    (hret : ∀ (D EL : Addr) (o e : Obj) (X : List (Addr × Obj)) (h' : Heap) (tk' : Nat), DueObj head tail (some c) EL o e X → Fr h₀ L h' m → News h₀ L h' ((D, o) :: (EL, e) :: (X ++ news)) → (∀ p ∈ news, p.1 < D ∧ p.1 < EL) → Q (.ref D) { s with heap := h', toks := tk' }) :
    wpAny (model rw'.row.toRowW.prog w) (ktrTop dp un gd cn cs L a ccd cl outer) (call (.ref 552) [.int c t, .str head t1, .str tail t2]) Q E s := by
  revert X
  k_fill
  intro X
  refine wpAny_call ?_
  k_dflt cell_enter
  k_steps
  all_goals (
    (with_reducible rename News h₀ L _ _ => kN9)
    (with_reducible rename Fr h₀ L _ _ => kF9)
    first
      | (with_reducible refine due_ret (P := DueObj head tail (some c)) hret (due_some0 (by with_reducible assumption) (by with_reducible assumption)) kF9 kN9 List.mem_cons_self (by k_dflt k_mem) (by k_dflt kqd_sub) ?_ ?_ ?_)
      | (with_reducible refine due_ret (P := DueObj head tail (some c)) hret (due_some1 (by with_reducible assumption) (by with_reducible assumption)) kF9 kN9 List.mem_cons_self (by k_dflt k_mem) (by k_dflt kqd_sub) ?_ ?_ ?_)
      | (with_reducible refine due_ret (P := DueObj head tail (some c)) hret (due_some2 (by with_reducible assumption) (by with_reducible assumption)) kF9 kN9 List.mem_cons_self (by k_dflt k_mem) (by k_dflt kqd_sub) ?_ ?_ ?_)
      | (with_reducible refine due_ret (P := DueObj head tail (some c)) hret (due_some3 (by with_reducible assumption) (by with_reducible assumption)) kF9 kN9 List.mem_cons_self (by k_dflt k_mem) (by k_dflt kqd_sub) ?_ ?_ ?_)
    · intro p9 hp9
      repeat (first | (with_reducible exact hp9) | (with_reducible refine List.mem_cons_of_mem _ ?_))
    · first | (with_reducible exact lt_of_allLt (by with_reducible assumption)) | (with_reducible exact lt_of_allLt (And.right (by with_reducible assumption))) | (with_reducible exact lt_of_allLt (And.right (And.right (by with_reducible assumption)))) | (with_reducible exact lt_of_allLt (And.right (And.right (And.right (by with_reducible assumption))))) | (with_reducible exact lt_of_allLt (And.right (And.right (And.right (And.right (by with_reducible assumption)))))) | (with_reducible exact lt_of_allLt (And.right (And.right (And.right (And.right (And.right (by with_reducible assumption))))))) | (with_reducible exact lt_of_allLt (And.right (And.right (And.right (And.right (And.right (And.right (by with_reducible assumption)))))))) | (with_reducible exact lt_of_allLt (And.right (And.right (And.right (And.right (And.right (And.right (And.right (by with_reducible assumption)))))))))
    · first | (with_reducible exact lt_of_allLt (by with_reducible assumption)) | (with_reducible exact lt_of_allLt (And.right (by with_reducible assumption))) | (with_reducible exact lt_of_allLt (And.right (And.right (by with_reducible assumption)))) | (with_reducible exact lt_of_allLt (And.right (And.right (And.right (by with_reducible assumption))))) | (with_reducible exact lt_of_allLt (And.right (And.right (And.right (And.right (by with_reducible assumption)))))) | (with_reducible exact lt_of_allLt (And.right (And.right (And.right (And.right (And.right (by with_reducible assumption))))))) | (with_reducible exact lt_of_allLt (And.right (And.right (And.right (And.right (And.right (And.right (by with_reducible assumption)))))))) | (with_reducible exact lt_of_allLt (And.right (And.right (And.right (And.right (And.right (And.right (And.right (by with_reducible assumption))))))))))

theorem rsC7 : True := by
  k_with_none
  k_with "kne" => (refine neN ?_; (try dsimp only); first | with_reducible assumption | with_reducible exact Ne.symm (by with_reducible assumption) | (refine Nat.ne_of_lt ?_; (first | with_reducible assumption | with_reducible exact And.left (by with_reducible assumption) | with_reducible exact And.left (And.right (by with_reducible assumption)) | with_reducible exact And.left (And.right (And.right (by with_reducible assumption))) | with_reducible exact And.left (And.right (And.right (And.right (by with_reducible assumption)))) | with_reducible exact And.left (And.right (And.right (And.right (And.right (by with_reducible assumption))))) | with_reducible exact And.left (And.right (And.right (And.right (And.right (And.right (by with_reducible assumption)))))) | with_reducible exact And.left (And.right (And.right (And.right (And.right (And.right (And.right (by with_reducible assumption))))))) | with_reducible exact And.left (And.right (And.right (And.right (And.right (And.right (And.right (And.right (by with_reducible assumption)))))))) | with_reducible exact And.left (And.right (And.right (And.right (And.right (And.right (And.right (And.right (And.right (by with_reducible assumption))))))))) | with_reducible exact And.left (And.right (And.right (And.right (And.right (And.right (And.right (And.right (And.right (And.right (by with_reducible assumption)))))))))) | with_reducible exact And.left (And.right (And.right (And.right (And.right (And.right (And.right (And.right (And.right (And.right (And.right (by with_reducible assumption))))))))))) | with_reducible exact And.left (And.right (And.right (And.right (And.right (And.right (And.right (And.right (And.right (And.right (And.right (And.right (by with_reducible assumption)))))))))))) | with_reducible exact And.left (And.right (And.right (And.right (And.right (And.right (And.right (And.right (And.right (And.right (And.right (And.right (And.right (by with_reducible assumption))))))))))))) | with_reducible exact (And.right (by with_reducible assumption)) | with_reducible exact (And.right (And.right (by with_reducible assumption))) | with_reducible exact (And.right (And.right (And.right (by with_reducible assumption)))) | with_reducible exact (And.right (And.right (And.right (And.right (by with_reducible assumption))))) | with_reducible exact (And.right (And.right (And.right (And.right (And.right (by with_reducible assumption)))))) | with_reducible exact (And.right (And.right (And.right (And.right (And.right (And.right (by with_reducible assumption))))))))) | (refine Nat.ne_of_gt ?_; (first | with_reducible assumption | with_reducible exact And.left (by with_reducible assumption) | with_reducible exact And.left (And.right (by with_reducible assumption)) | with_reducible exact And.left (And.right (And.right (by with_reducible assumption))) | with_reducible exact And.left (And.right (And.right (And.right (by with_reducible assumption)))) | with_reducible exact And.left (And.right (And.right (And.right (And.right (by with_reducible assumption))))) | with_reducible exact And.left (And.right (And.right (And.right (And.right (And.right (by with_reducible assumption)))))) | with_reducible exact And.left (And.right (And.right (And.right (And.right (And.right (And.right (by with_reducible assumption))))))) | with_reducible exact And.left (And.right (And.right (And.right (And.right (And.right (And.right (And.right (by with_reducible assumption)))))))) | with_reducible exact And.left (And.right (And.right (And.right (And.right (And.right (And.right (And.right (And.right (by with_reducible assumption))))))))) | with_reducible exact And.left (And.right (And.right (And.right (And.right (And.right (And.right (And.right (And.right (And.right (by with_reducible assumption)))))))))) | with_reducible exact And.left (And.right (And.right (And.right (And.right (And.right (And.right (And.right (And.right (And.right (And.right (by with_reducible assumption))))))))))) | with_reducible exact And.left (And.right (And.right (And.right (And.right (And.right (And.right (And.right (And.right (And.right (And.right (And.right (by with_reducible assumption)))))))))))) | with_reducible exact And.left (And.right (And.right (And.right (And.right (And.right (And.right (And.right (And.right (And.right (And.right (And.right (And.right (by with_reducible assumption))))))))))))) | with_reducible exact (And.right (by with_reducible assumption)) | with_reducible exact (And.right (And.right (by with_reducible assumption))) | with_reducible exact (And.right (And.right (And.right (by with_reducible assumption)))) | with_reducible exact (And.right (And.right (And.right (And.right (by with_reducible assumption))))) | with_reducible exact (And.right (And.right (And.right (And.right (And.right (by with_reducible assumption)))))) | with_reducible exact (And.right (And.right (And.right (And.right (And.right (And.right (by with_reducible assumption))))))))) | omega)
  k_with "mcall" => ((with_reducible show wpAny _ _ (call (Value.ref (nat_lit 84)) [Value.int _ _]) _ _ _); k_dflt (refine' c1_claim ?k1 ?k2 ?k3 ?k4 ?k5 ?k6 ?k7 ?k8 ?kp ?_; (case k1 => k_asm); (case k2 => k_asm); (case k3 => k_asm); (case k4 => k_asm); (case k5 => k_asm); (case k6 => first | exact rfl | assumption); (case k7 => ktr_room); (case k8 => ktr_units); (case kp => omega)); intro t9 h9 tk9 F9 N9; (have hc19 := c1_room (by assumption) (by omega)); (try dsimp only); (try k_fold))
  k_with "mcall" => ((with_reducible show wpAny _ _ (call (Value.ref (nat_lit 91)) [Value.int _ _]) _ _ _); k_dflt (refine' numref_claim ?k1 ?k2 ?k3 ?k4 ?k5 ?k6 ?k7 ?k8 ?kp ?_; (case k1 => k_asm); (case k2 => k_asm); (case k3 => k_asm); (case k4 => k_asm); (case k5 => k_asm); (case k6 => first | exact rfl | assumption); (case k7 => ktr_room); (case k8 => ktr_units); (case kp => omega)); intro D9 o9 h9 tk9 P9 F9 N9 l9; (try k_lt l9); k_dflt (unfold PairIs at P9; rcases P9 with ⟨t19, c19, hf9, he9⟩ | ⟨t19, f9, t29, c19, hf9, he9⟩); all_goals ((subst he9); (try dsimp only); (try k_fold)))
  k_with "mcall" => ((with_reducible show wpAny _ _ (call (Value.ref (nat_lit 531)) [Value.int _ _]) _ _ _); k_dflt (refine' meant_claim ?k1 ?k2 ?k3 ?k4 ?k5 ?k6 ?k7 ?k8 ?kp ?_; (case k1 => k_asm); (case k2 => k_asm); (case k3 => k_asm); (case k4 => k_asm); (case k5 => k_asm); (case k6 => first | exact rfl | assumption); (case k7 => ktr_room); (case k8 => ktr_units); (case kp => omega)); intro D9 o9 h9 tk9 P9 F9 N9 l9; (try k_lt l9); k_dflt (unfold PairIs at P9; rcases P9 with ⟨t19, c19, hf9, he9⟩ | ⟨t19, f9, t29, c19, hf9, he9⟩); all_goals ((subst he9); (try dsimp only); (try k_fold)))
  k_with "mcall" => ((with_reducible show wpAny _ _ (call (Value.ref (nat_lit 524)) [Value.int _ _, Value.int _ _]) _ _ _); k_dflt (refine' lawCode_claim ?k1 ?k2 ?k3 ?k4 ?k5 ?k6 ?k7 ?k8 ?kp ?kq ?_; (case k1 => k_asm); (case k2 => k_asm); (case k3 => k_asm); (case k4 => k_asm); (case k5 => k_asm); (case k6 => first | exact rfl | assumption); (case k7 => ktr_room); (case k8 => ktr_units); (case kp => with_reducible assumption); (case kq => with_reducible assumption)); intro c9 t9 h9 tk9 hlo9 hhi9 F9 N9; (try dsimp only); (try k_fold))
  k_with "mcall" => ((with_reducible show wpAny _ _ (call (Value.ref (nat_lit 538)) [Value.int _ _, Value.int _ _, Value.int _ _]) _ _ _); k_dflt (first | (refine' digits16_claim ?k1 ?k2 ?k3 ?k4 ?k5 ?k6 ?k7 ?k8 ?kp ?kq ?_; (case k1 => k_asm); (case k2 => k_asm); (case k3 => k_asm); (case k4 => k_asm); (case k5 => k_asm); (case k6 => first | exact rfl | assumption); (case k7 => ktr_room); (case k8 => ktr_units); (case kp => with_reducible assumption); (case kq => with_reducible assumption)) | (refine' digits10_claim ?k1 ?k2 ?k3 ?k4 ?k5 ?k6 ?k7 ?k8 ?kp ?kq ?_; (case k1 => k_asm); (case k2 => k_asm); (case k3 => k_asm); (case k4 => k_asm); (case k5 => k_asm); (case k6 => first | exact rfl | assumption); (case k7 => ktr_room); (case k8 => ktr_units); (case kp => with_reducible assumption); (case kq => with_reducible assumption))); intro d9 t9 h9 tk9 I9 E9 hl9 F9 N9; (try dsimp only); (try k_fold))
  k_with "mcall" => ((with_reducible show wpAny _ _ (call (Value.ref (nat_lit 517)) [Value.ref _, Value.int _ _]) _ _ _); k_dflt (refine' pick_claim ?k1 ?k2 ?k3 ?k4 ?k5 ?k6 ?k7 ?k8 ?kt ?ke ?kp ?kq ?_; (case k1 => k_asm); (case k2 => k_asm); (case k3 => k_asm); (case k4 => k_asm); (case k5 => k_asm); (case k6 => first | exact rfl | assumption); (case k7 => ktr_room); (case k8 => ktr_units); (case kt => repeat' (first | exact Take1.head | apply Take1.tail)); (case ke => k_all); (case kp => decide); (case kq => intro v9; exact PyProof.noPylong_of_log2 (by decide +kernel))); intro r9 v9 t9 t99 c9 h9 tk9 hlo9 hhi9 F9 N9; (try dsimp only); (try k_fold))
  trivial
theorem CaseOk.len {b : Int} {hx ds tl bh : List Nat} {code : Option Int} {head tail behind back : PySem.Str} (C : CaseOk b hx ds tl bh code head tail behind back) :
    head.length ≤ 26 ∧ tail.length ≤ 1 ∧ behind.length ≤ 2 := by
  have hL : ∀ x : PySem.Str, x.length = x.cps.toList.length := fun x => by simp [PySem.Str.length]
  refine ⟨?_, ?_, ?_⟩
  · rw [hL, C.hhead, List.length_cons, List.length_append]
    have := C.hlen
    have h2 : hx.length ≤ 1 := by rcases C.base with ⟨_, rfl⟩ | ⟨_, rfl | rfl⟩ <;> simp
    omega
  · rw [hL, C.htail]
    have := C.htok
    match tl, this with
    | [], _ => simp
    | [_], _ => simp
    | _ :: _ :: _, h => simp [tailOk] at h
  · rw [hL, C.hbeh]; exact C.hblen
theorem CaseOk.nonneg {b c : Int} {hx ds tl bh : List Nat} {head tail behind back : PySem.Str} (C : CaseOk b hx ds tl bh (some c) head tail behind back) : 0 ≤ c := by
  rcases C.hcode with ⟨h, _⟩ | ⟨c', h, h2, _⟩
  · cases h
  · cases h; exact h2
open Classical in
theorem dat_ne {prog : Program} {w : World} {A : Around} {E : Value → Shared → Prop} {s : Shared} {h₀ : Heap} {L : Addr} {news : List (Addr × Obj)} {x y : Value} {d : Dat} {Q : Value → Shared → Prop}
    (N : News h₀ L s.heap news) (Da : DatIn news x d) (Db : DatIn news y d) (hd : kqdOk 8 d = true) (hu : A.units + 64 < cLine) (h : Q (.bool false) s) :
    wpAny (model prog w) A (compareOp .NotEq x y) Q E s := by
  obtain ⟨as, ra⟩ := kqd_in N 8 Da hd
  obtain ⟨bs, rb⟩ := kqd_in N 8 Db hd
  have la := kqd_lay 8 d hd
  have e : PyData.eqv (kqdP d) (kqdP d) = true := (kqd_eqv 8 d d 8 hd hd).mpr rfl
  refine PyProof.Rows.ne_dataH ra rb ?_ ?_ hu (by rw [e]; exact h)
  · unfold SeqAt.shaped; rw [la.1, Bool.true_and]; exact decide_eq_true (Nat.le_trans la.2 (by decide))
  · unfold SeqAt.shaped; rw [la.1, Bool.true_and]; exact decide_eq_true (Nat.le_trans la.2 (by decide))
noncomputable def pairD (code : Int) : Dat := .tuple [.str (mText code), match mFault code with | none => .none | some f => .str f]
theorem pair_dat {code : Int} {o : Obj} {D : Addr} {X : List (Addr × Obj)} (P : PairIs code o) (h : (D, o) ∈ X) : DatIn X (.ref D) (pairD code) := by
  rcases P with ⟨t1, c, hf, rfl⟩ | ⟨t1, f, t2, c, hf, rfl⟩
  · have : DatAll X [.str (mText code) t1, .none] [.str (mText code), .none] := .cons (.str _ _) (.cons .none .nil)
    simp only [pairD, hf]
    exact DatIn.tuple (vs := [.str (mText code) t1, .none]) h this
  · have : DatAll X [.str (mText code) t1, .str f t2] [.str (mText code), .str f] := .cons (.str _ _) (.cons (.str _ _) .nil)
    simp only [pairD, hf]
    exact DatIn.tuple (vs := [.str (mText code) t1, .str f t2]) h this
noncomputable def DPx (D : Addr) (d : Dat) (o : Obj) : Prop := ∀ X : List (Addr × Obj), (D, o) ∈ X → DatIn X (.ref D) d
theorem pair_dpx {code : Int} {o : Obj} {D : Addr} (P : PairIs code o) : DPx D (pairD code) o := fun _ h => pair_dat P h
theorem dat_ne2 {prog : Program} {w : World} {A : Around} {E : Value → Shared → Prop} {s : Shared} {h₀ : Heap} {L : Addr} {news : List (Addr × Obj)} {x y : Addr} {d : Dat} {oa ob : Obj} {Q : Value → Shared → Prop}
    (N : News h₀ L s.heap news) (Da : DPx x d oa) (ha : (x, oa) ∈ news) (Db : DPx y d ob) (hb : (y, ob) ∈ news) (hd : kqdOk 8 d = true) (hu : A.units + 64 < cLine) (h : Q (.bool false) s) :
    wpAny (model prog w) A (compareOp .NotEq (.ref x) (.ref y)) Q E s := dat_ne N (Da _ ha) (Db _ hb) hd hu h
theorem fault_ok {code : Int} {f : PySem.Str} (h : mFault code = some f) : PyData.strOk f = true := by
  unfold mFault at h
  repeat (split at h; (cases h; decide +kernel))
  cases h
theorem mChar_ok {code : Int} (h0 : 0 ≤ code) : mChar code < 0x110000 := by
  unfold mChar
  split
  · decide
  · have := c1_room h0 (by omega)
    omega
theorem mText_ok {code : Int} (h0 : 0 ≤ code) : PyData.strOk (mText code) = true := by
  have := mChar_ok h0
  simp [PyData.strOk, mText, this]
theorem pair_ok {code : Int} (h0 : 0 ≤ code) : kqdOk 8 (pairD code) = true := by
  have h := mText_ok h0
  unfold pairD
  cases hf : mFault code with
  | none => simp [kqdOk, h]
  | some f => simp [kqdOk, h, fault_ok hf]
theorem errs_ok (head tail : PySem.Str) (code : Option Int) : ∀ d ∈ errsOf head tail code, kqdOk 8 d = true := by
  have ha : PyData.strOk absS = true := by decide +kernel
  have hm : PyData.strOk misS = true := by decide +kernel
  intro d hd
  cases code with
  | none =>
    simp only [errsOf, List.mem_singleton] at hd
    subst hd; simp [kqdOk, errD, ha]
  | some c =>
    simp only [errsOf, List.mem_append] at hd
    rcases hd with hd | hd
    · split at hd
      · simp at hd
      · simp only [List.mem_singleton] at hd; subst hd; simp [kqdOk, errD, hm]
    · unfold faultD at hd
      split at hd
      · simp at hd
      · rename_i f hf
        simp only [List.mem_singleton] at hd; subst hd; simp [kqdOk, errD, fault_ok hf]
theorem wdC7x1 : True := by
  k_with "mcall" => ((with_reducible show wpAny _ _ (call (Value.ref (nat_lit 545)) [Value.int _ _, Value.int _ _]) _ _ _); k_dflt (refine' case_claim ?k1 ?k2 ?k3 ?k4 ?k5 ?k6 ?k7 ?k8 ?kp ?kq ?_; (case k1 => k_asm); (case k2 => k_asm); (case k3 => k_asm); (case k4 => k_asm); (case k5 => k_asm); (case k6 => first | exact rfl | assumption); (case k7 => ktr_room); (case k8 => ktr_units); (case kp => omega); (case kq => omega)); intro D9 o9 h9 tk9 P9 F9 N9 l9; (try k_lt l9); k_dflt (unfold CaseObj at P9; obtain ⟨b9, hx9, ds9, tl9, bh9, code9, head9, tail9, behind9, back9, C9, cv9, t91, t92, t93, t94, n9, hcv9, he9⟩ := P9); (subst he9); (have hlen9 := (CaseOk.len C9).1); (have hlen91 := (CaseOk.len C9).2.1); (have hlen92 := (CaseOk.len C9).2.2); k_dflt (rcases hcv9 with ⟨he8, he7⟩ | ⟨c9, t95, he8, he7⟩); all_goals ((subst he8); (subst he7); (try have hc9 := CaseOk.nonneg C9); (try dsimp only); (try k_fold)))
  k_with "mcall" => ((with_reducible show wpAny _ _ (call (Value.ref (nat_lit 552)) [_, Value.str _ _, Value.str _ _]) _ _ _); k_dflt (first | (refine' due_claim_none ?k1 ?k2 ?k3 ?k4 ?k5 ?k6 ?k7 ?k8 ?kp ?_; (case k1 => k_asm); (case k2 => k_asm); (case k3 => k_asm); (case k4 => k_asm); (case k5 => k_asm); (case k6 => first | exact rfl | assumption); (case k7 => ktr_room); (case k8 => ktr_units); (case kp => with_reducible exact Nat.le_trans (by with_reducible assumption) (by decide))) | (refine' due_claim_some ?k1 ?k2 ?k3 ?k4 ?k5 ?k6 ?k7 ?k8 ?kp ?kq ?_; (case k1 => k_asm); (case k2 => k_asm); (case k3 => k_asm); (case k4 => k_asm); (case k5 => k_asm); (case k6 => first | exact rfl | assumption); (case k7 => ktr_room); (case k8 => ktr_units); (case kp => with_reducible exact Nat.le_trans (by with_reducible assumption) (by decide)); (case kq => with_reducible assumption))); intro D9 EL9 o9 e9 X9 h9 tk9 P9 F9 N9 l9; (have l91 := fun p hp => (l9 p hp).1); (have l92 := fun p hp => (l9 p hp).2); (try k_lt l91); (try k_lt l92); k_dflt (unfold DueObj at P9; obtain ⟨t91, t92, n9, vs9, k9, he9, he8, DA9⟩ := P9); (subst he9); (subst he8); (try dsimp only); (try k_fold))
  trivial

theorem rsM1 : True := by
  k_with_none
  k_with "kne" => (refine neN ?_; (try dsimp only); first | with_reducible assumption | with_reducible exact Ne.symm (by with_reducible assumption) | (refine Nat.ne_of_lt ?_; (first | with_reducible assumption | with_reducible exact And.left (by with_reducible assumption) | with_reducible exact And.left (And.right (by with_reducible assumption)) | with_reducible exact And.left (And.right (And.right (by with_reducible assumption))) | with_reducible exact And.left (And.right (And.right (And.right (by with_reducible assumption)))) | with_reducible exact And.left (And.right (And.right (And.right (And.right (by with_reducible assumption))))) | with_reducible exact And.left (And.right (And.right (And.right (And.right (And.right (by with_reducible assumption)))))) | with_reducible exact And.left (And.right (And.right (And.right (And.right (And.right (And.right (by with_reducible assumption))))))) | with_reducible exact And.left (And.right (And.right (And.right (And.right (And.right (And.right (And.right (by with_reducible assumption)))))))) | with_reducible exact And.left (And.right (And.right (And.right (And.right (And.right (And.right (And.right (And.right (by with_reducible assumption))))))))) | with_reducible exact And.left (And.right (And.right (And.right (And.right (And.right (And.right (And.right (And.right (And.right (by with_reducible assumption)))))))))) | with_reducible exact And.left (And.right (And.right (And.right (And.right (And.right (And.right (And.right (And.right (And.right (And.right (by with_reducible assumption))))))))))) | with_reducible exact And.left (And.right (And.right (And.right (And.right (And.right (And.right (And.right (And.right (And.right (And.right (And.right (by with_reducible assumption)))))))))))) | with_reducible exact And.left (And.right (And.right (And.right (And.right (And.right (And.right (And.right (And.right (And.right (And.right (And.right (And.right (by with_reducible assumption))))))))))))) | with_reducible exact (And.right (by with_reducible assumption)) | with_reducible exact (And.right (And.right (by with_reducible assumption))) | with_reducible exact (And.right (And.right (And.right (by with_reducible assumption)))) | with_reducible exact (And.right (And.right (And.right (And.right (by with_reducible assumption))))) | with_reducible exact (And.right (And.right (And.right (And.right (And.right (by with_reducible assumption)))))) | with_reducible exact (And.right (And.right (And.right (And.right (And.right (And.right (by with_reducible assumption))))))))) | (refine Nat.ne_of_gt ?_; (first | with_reducible assumption | with_reducible exact And.left (by with_reducible assumption) | with_reducible exact And.left (And.right (by with_reducible assumption)) | with_reducible exact And.left (And.right (And.right (by with_reducible assumption))) | with_reducible exact And.left (And.right (And.right (And.right (by with_reducible assumption)))) | with_reducible exact And.left (And.right (And.right (And.right (And.right (by with_reducible assumption))))) | with_reducible exact And.left (And.right (And.right (And.right (And.right (And.right (by with_reducible assumption)))))) | with_reducible exact And.left (And.right (And.right (And.right (And.right (And.right (And.right (by with_reducible assumption))))))) | with_reducible exact And.left (And.right (And.right (And.right (And.right (And.right (And.right (And.right (by with_reducible assumption)))))))) | with_reducible exact And.left (And.right (And.right (And.right (And.right (And.right (And.right (And.right (And.right (by with_reducible assumption))))))))) | with_reducible exact And.left (And.right (And.right (And.right (And.right (And.right (And.right (And.right (And.right (And.right (by with_reducible assumption)))))))))) | with_reducible exact And.left (And.right (And.right (And.right (And.right (And.right (And.right (And.right (And.right (And.right (And.right (by with_reducible assumption))))))))))) | with_reducible exact And.left (And.right (And.right (And.right (And.right (And.right (And.right (And.right (And.right (And.right (And.right (And.right (by with_reducible assumption)))))))))))) | with_reducible exact And.left (And.right (And.right (And.right (And.right (And.right (And.right (And.right (And.right (And.right (And.right (And.right (And.right (by with_reducible assumption))))))))))))) | with_reducible exact (And.right (by with_reducible assumption)) | with_reducible exact (And.right (And.right (by with_reducible assumption))) | with_reducible exact (And.right (And.right (And.right (by with_reducible assumption)))) | with_reducible exact (And.right (And.right (And.right (And.right (by with_reducible assumption))))) | with_reducible exact (And.right (And.right (And.right (And.right (And.right (by with_reducible assumption)))))) | with_reducible exact (And.right (And.right (And.right (And.right (And.right (And.right (by with_reducible assumption))))))))) | omega)
  k_with "mcall" => ((with_reducible show wpAny _ _ (call (Value.ref (nat_lit 84)) [Value.int _ _]) _ _ _); k_dflt (refine' c1_claim ?k1 ?k2 ?k3 ?k4 ?k5 ?k6 ?k7 ?k8 ?kp ?_; (case k1 => k_asm); (case k2 => k_asm); (case k3 => k_asm); (case k4 => k_asm); (case k5 => k_asm); (case k6 => first | exact rfl | assumption); (case k7 => ktr_room); (case k8 => ktr_units); (case kp => omega)); intro t9 h9 tk9 F9 N9; (have hc19 := c1_room (by assumption) (by omega)); (try dsimp only); (try k_fold))
  k_with "mcall" => ((with_reducible show wpAny _ _ (call (Value.ref (nat_lit 91)) [Value.int _ _]) _ _ _); k_dflt (refine' numref_claim ?k1 ?k2 ?k3 ?k4 ?k5 ?k6 ?k7 ?k8 ?kp ?_; (case k1 => k_asm); (case k2 => k_asm); (case k3 => k_asm); (case k4 => k_asm); (case k5 => k_asm); (case k6 => first | exact rfl | assumption); (case k7 => ktr_room); (case k8 => ktr_units); (case kp => omega)); intro D9 o9 h9 tk9 P9 F9 N9 l9; (try k_lt l9); k_dflt (unfold PairIs at P9; rcases P9 with ⟨t19, c19, hf9, he9⟩ | ⟨t19, f9, t29, c19, hf9, he9⟩); all_goals ((subst he9); (try dsimp only); (try k_fold)))
  k_with "mcall" => ((with_reducible show wpAny _ _ (call (Value.ref (nat_lit 531)) [Value.int _ _]) _ _ _); k_dflt (refine' meant_claim ?k1 ?k2 ?k3 ?k4 ?k5 ?k6 ?k7 ?k8 ?kp ?_; (case k1 => k_asm); (case k2 => k_asm); (case k3 => k_asm); (case k4 => k_asm); (case k5 => k_asm); (case k6 => first | exact rfl | assumption); (case k7 => ktr_room); (case k8 => ktr_units); (case kp => omega)); intro D9 o9 h9 tk9 P9 F9 N9 l9; (try k_lt l9); k_dflt (unfold PairIs at P9; rcases P9 with ⟨t19, c19, hf9, he9⟩ | ⟨t19, f9, t29, c19, hf9, he9⟩); all_goals ((subst he9); (try dsimp only); (try k_fold)))
  trivial
noncomputable abbrev ent (w : World) (x : PySem.Str) (k : Tok) (v : Value) : DictEntry := ⟨PyData.keyHash w.params x, .str x k, v⟩
/-- the tokens of the tokenizer's keys -/
structure KT where
  (a b c d e f g h i j k l m n : Tok)
structure KR where
  (a b c d : Tok)
noncomputable abbrev tkD (w : World) (K : KT) (ST S O E : Addr) (at' : Int) (ta : Tok) (st : PySem.Str) (ts : Tok) (bk : PySem.Str) (tb : Tok) (dv : Value) (bf : PySem.Str) (tf : Tok) (cd : Int) (tc : Tok) (lv : Value) : Obj :=
  dictOf [ent w (PySem.Str.ofString "states") K.a (.ref ST), ent w (PySem.Str.ofString "stream") K.b (.ref S), ent w (PySem.Str.ofString "at") K.c (.int at' ta), ent w (PySem.Str.ofString "state") K.d (.str st ts), ent w (PySem.Str.ofString "back") K.e (.str bk tb),
    ent w (PySem.Str.ofString "out") K.f (.ref O), ent w (PySem.Str.ofString "errors") K.g (.ref E), ent w (PySem.Str.ofString "draft") K.h dv, ent w (PySem.Str.ofString "buffer") K.i (.str bf tf), ent w (PySem.Str.ofString "code") K.j (.int cd tc),
    ent w (PySem.Str.ofString "last") K.k lv, ent w (PySem.Str.ofString "is_foreign") K.l (.bool false), ent w (PySem.Str.ofString "is_waiting") K.m (.bool false), ent w (PySem.Str.ofString "is_done") K.n (.bool false)] 14
noncomputable abbrev stD (w : World) (K : KR) (G SE : Addr) (ret : Bool) : Obj :=
  dictOf [ent w (PySem.Str.ofString "signs") K.a (.ref G), ent w (PySem.Str.ofString "is_closed") K.b (.bool true), ent w (PySem.Str.ofString "is_return") K.c (.bool ret), ent w (PySem.Str.ofString "errors") K.d (.ref SE)] 4
noncomputable abbrev stK : List (PySem.Str × Value) := [(PySem.Str.ofString "character reference", .ref 126), (PySem.Str.ofString "named character reference", .ref 140), (PySem.Str.ofString "ambiguous ampersand", .ref 147), (PySem.Str.ofString "numeric character reference", .ref 154),
    (PySem.Str.ofString "hexadecimal character reference start", .ref 168), (PySem.Str.ofString "decimal character reference start", .ref 175), (PySem.Str.ofString "hexadecimal character reference", .ref 189),
    (PySem.Str.ofString "decimal character reference", .ref 196), (PySem.Str.ofString "numeric character reference end", .ref 203)]
/-- the addresses of a tokenizer differ -/
structure Dis (Tk Td S SD G E ST : Addr) (all : List (Addr × Obj)) : Prop where
  a1 : @Ne Nat Tk Td
  a2 : @Ne Nat S Td
  a3 : @Ne Nat SD Td
  a4 : @Ne Nat G Td
  a5 : @Ne Nat E Td
  a6 : @Ne Nat ST Td
  b1 : @Ne Nat Tk E
  b2 : @Ne Nat S E
  b3 : @Ne Nat SD E
  b4 : @Ne Nat G E
  b6 : @Ne Nat ST E
  d : ∀ p ∈ all, p.1 ≠ Td
  e : ∀ p ∈ all, p.1 ≠ E
/-- the signs of a stream -/
inductive SignsAre : List Value → List Nat → Prop
  | nil : SignsAre [] []
  | cons {t : Tok} {c : Nat} {vs : List Value} {l : List Nat} : SignsAre vs l → SignsAre (.str ⟨#[c]⟩ t :: vs) (c :: l)
noncomputable def sgn (l : List Nat) (i : Int) : PySem.Str := match l[i.toNat]? with
  | some c => ⟨#[c]⟩
  | none => ⟨#[]⟩
theorem SignsAre.len {vs : List Value} {l : List Nat} (h : SignsAre vs l) : vs.length = l.length := by
  induction h with
  | nil => rfl
  | cons _ ih => simp [ih]
theorem SignsAre.get {vs : List Value} {l : List Nat} (h : SignsAre vs l) : ∀ i : Nat, i < l.length → ∃ t, vs[i]? = some (.str (sgn l i) t) := by
  induction h with
  | nil => intro i hi; cases hi
  | @cons t c vs l _ ih =>
    intro i hi
    cases i with
    | zero => exact ⟨t, rfl⟩
    | succ i =>
      obtain ⟨t', e⟩ := ih i (by simpa using hi)
      refine ⟨t', ?_⟩
      rw [List.getElem?_cons_succ, e]
      rfl
theorem SignsAre.snoc {vs : List Value} {l : List Nat} {c : Nat} {t : Tok} (h : SignsAre vs l) : SignsAre (vs ++ [.str ⟨#[c]⟩ t]) (l ++ [c]) := by
  induction h with
  | nil => exact .cons .nil
  | cons _ ih => exact .cons ih
theorem signs_len {prog : Program} {w : World} {A : Around} {E : Value → Shared → Prop} {s : Shared} {h₀ : Heap} {L G : Addr} {news : List (Addr × Obj)} {gv : List Value} {l : List Nat} {ng : Nat} {Q : Value → Shared → Prop}
    (N : News h₀ L s.heap news) (hm : (G, listOf gv.toArray ng) ∈ news) (hs : SignsAre gv l) (hz : l.length ≤ 100) (h : ∀ t, Q (.int (l.length : Int) t) { s with toks := s.toks + 1 + 1 }) :
    wpAny (model prog w) A (call (.builtin "len") [.ref G]) Q E s := by
  have e : gv.toArray.size = l.length := by simp [hs.len]
  refine len_list (News.isList N hm) ?_ (by rw [e]; exact h _)
  rw [e]; omega
theorem signs_item {prog : Program} {w : World} {A : Around} {E : Value → Shared → Prop} {s : Shared} {value slice : PySem.Expr} {h₀ : Heap} {L G : Addr} {news : List (Addr × Obj)} {gv : List Value} {l : List Nat} {ng : Nat} {k : Int} {u : Tok} {Q : Value → Shared → Prop}
    (N : News h₀ L s.heap news) (hm : (G, listOf gv.toArray ng) ∈ news) (hs : SignsAre gv l) (hz : l.length ≤ 100) (h0 : 0 ≤ k) (h1 : k < (l.length : Int)) (h : ∀ t, Q (.str (sgn l k) t) s)
    (hs' : subscripted slice false (.ref G) (.int k u) = operate [.ref G, .int k u] (getItem (.ref G) (.int k u)) := by with_unfolding_all rfl) (hg : ∀ r, letTemporaryGo value (.ref G) r = pure () := by intro _; with_unfolding_all rfl) :
    wpAny (model prog w) A (subscriptTail value slice (.ref G) (.int k u)) Q E s := by
  obtain ⟨t, e⟩ := hs.get k.toNat (by omega)
  rw [show ((k.toNat : Nat) : Int) = k from by omega] at e
  exact item_list (News.isList N hm) h0 (by omega) (by rw [List.getElem?_toArray]; exact e) (h t) hs' hg
theorem sgn_out {l : List Nat} {i : Int} (h : ¬ i < (l.length : Int)) : sgn l i = PySem.Str.ofString "" := by
  have : l[i.toNat]? = none := by apply List.getElem?_eq_none; omega
  unfold sgn; rw [this]; decide +kernel
section
theorem wdM1x1 : True := by
  k_with "kall" => assumption
  trivial
theorem wdM1x2 : True := by
  k_with "call builtin:len" => (k_here; (with_reducible show wpAny _ _ (call (Value.builtin "len") [Value.ref _]) _ _ _); k_dflt (refine' signs_len ?N ?M ?S ?Z ?_; (case N => k_asm); (case M => k_mem); (case S => k_asm); (case Z => k_asm); k_whole; intro t9))
  trivial
theorem wdM1x3 : True := by
  k_with "subscriptTail" => (k_here; (with_reducible show wpAny _ _ (subscriptTail _ _ (Value.ref _) (Value.int _ _)) _ _ _); k_dflt (refine' signs_item ?N ?M ?S ?Z ?Y ?W ?_; (case N => k_asm); (case M => k_mem); (case S => k_asm); (case Z => k_asm); (case Y => k_asm); (case W => k_asm); k_whole; intro t9))
  trivial
theorem next_claim {w : World} {mean : ExcName → Option Value} {mg mb : PySem.Str → Option Value} {dp un : Nat} {gd : Option (List Code)} {cn : PySem.Str} {cs : Scope} {a : Addr} {ccd : Value} {cl : List (PySem.Str × Addr)} {outer : List Env} {A₀ : Around} {base h₀ : Heap} {L : Addr} {m : PySem.Str → Option Value} {s : Shared} {Q E : Value → Shared → Prop} {all : List (Addr × Obj)} {Tk Td S SD ST G E' O SE : Addr} {gv ev : List Value} {l : List Nat} {K : KT} {KR : KR} {so : Obj} {ng ne : Nat} {ret : Bool} {at' cd : Int} {ta ts tb tf tc : Tok} {st bk bf : PySem.Str} {dv lv : Value}
   (B : Below A₀ base outer h₀) (F : Fr h₀ L s.heap m) (X : (Mine.top.heap_1 w.params).In h₀)
   (N : News h₀ L s.heap ((Tk, instObj 450 Td) :: (Td, tkD w K ST S O E' at' ta st ts bk tb dv bf tf cd tc lv) :: (S, instObj 287 SD) :: (SD, stD w KR G SE ret) :: (G, listOf gv.toArray ng) :: (E', listOf ev.toArray ne) :: (ST, so) :: all))
   (T : Top q (looseW q []) mean mg mb h₀) (hk : cs.kind = .function) (hd : dp + 2 < recursionLimit) (hu : un + 16 < cLine)
   (D : Dis Tk Td S SD G E' ST all) (hsg : SignsAre gv l) (hlen : l.length ≤ 100) (h0 : 0 ≤ at')
   (hret : ∀ (t ta' : Tok) (h' : Heap) (tk' : Nat), Fr h₀ L h' m → News h₀ L h' ((Tk, instObj 450 Td) :: (Td, tkD w K ST S O E' (at' + 1) ta' st ts bk tb dv bf tf cd tc lv) :: (S, instObj 287 SD) :: (SD, stD w KR G SE ret) :: (G, listOf gv.toArray ng) :: (E', listOf ev.toArray ne) :: (ST, so) :: all) → Q (.str (sgn l at') t) { s with heap := h', toks := tk' })
    : wpAny (model rw'.row.toRowW.prog w) (ktrTop dp un gd cn cs L a ccd cl outer) (call (.ref 327) [.ref Tk]) Q E s := by
  obtain ⟨a1, a2, a3, a4, a5, a6, _, _, _, _, _, hdd, _⟩ := id D
  revert X
  k_fill
  intro X
  refine wpAny_call ?_
  k_dflt cell_enter
  k_steps
  all_goals (rename Fr h₀ L _ _ => kF9; rename News h₀ L _ _ => kN9; first | exact hret _ _ _ _ kF9 kN9 | (rw [sgn_out (l := l) (i := at') (by assumption)] at hret; exact hret _ _ _ _ kF9 kN9))
end

theorem rsM3 : True := by
  k_with_none
  k_with "kne" => (refine neN ?_; (try dsimp only); first | with_reducible assumption | with_reducible exact Ne.symm (by with_reducible assumption) | (refine Nat.ne_of_lt ?_; (first | with_reducible assumption | with_reducible exact And.left (by with_reducible assumption) | with_reducible exact And.left (And.right (by with_reducible assumption)) | with_reducible exact And.left (And.right (And.right (by with_reducible assumption))) | with_reducible exact And.left (And.right (And.right (And.right (by with_reducible assumption)))) | with_reducible exact And.left (And.right (And.right (And.right (And.right (by with_reducible assumption))))) | with_reducible exact And.left (And.right (And.right (And.right (And.right (And.right (by with_reducible assumption)))))) | with_reducible exact And.left (And.right (And.right (And.right (And.right (And.right (And.right (by with_reducible assumption))))))) | with_reducible exact And.left (And.right (And.right (And.right (And.right (And.right (And.right (And.right (by with_reducible assumption)))))))) | with_reducible exact And.left (And.right (And.right (And.right (And.right (And.right (And.right (And.right (And.right (by with_reducible assumption))))))))) | with_reducible exact And.left (And.right (And.right (And.right (And.right (And.right (And.right (And.right (And.right (And.right (by with_reducible assumption)))))))))) | with_reducible exact And.left (And.right (And.right (And.right (And.right (And.right (And.right (And.right (And.right (And.right (And.right (by with_reducible assumption))))))))))) | with_reducible exact And.left (And.right (And.right (And.right (And.right (And.right (And.right (And.right (And.right (And.right (And.right (And.right (by with_reducible assumption)))))))))))) | with_reducible exact And.left (And.right (And.right (And.right (And.right (And.right (And.right (And.right (And.right (And.right (And.right (And.right (And.right (by with_reducible assumption))))))))))))) | with_reducible exact (And.right (by with_reducible assumption)) | with_reducible exact (And.right (And.right (by with_reducible assumption))) | with_reducible exact (And.right (And.right (And.right (by with_reducible assumption)))) | with_reducible exact (And.right (And.right (And.right (And.right (by with_reducible assumption))))) | with_reducible exact (And.right (And.right (And.right (And.right (And.right (by with_reducible assumption)))))) | with_reducible exact (And.right (And.right (And.right (And.right (And.right (And.right (by with_reducible assumption))))))))) | (refine Nat.ne_of_gt ?_; (first | with_reducible assumption | with_reducible exact And.left (by with_reducible assumption) | with_reducible exact And.left (And.right (by with_reducible assumption)) | with_reducible exact And.left (And.right (And.right (by with_reducible assumption))) | with_reducible exact And.left (And.right (And.right (And.right (by with_reducible assumption)))) | with_reducible exact And.left (And.right (And.right (And.right (And.right (by with_reducible assumption))))) | with_reducible exact And.left (And.right (And.right (And.right (And.right (And.right (by with_reducible assumption)))))) | with_reducible exact And.left (And.right (And.right (And.right (And.right (And.right (And.right (by with_reducible assumption))))))) | with_reducible exact And.left (And.right (And.right (And.right (And.right (And.right (And.right (And.right (by with_reducible assumption)))))))) | with_reducible exact And.left (And.right (And.right (And.right (And.right (And.right (And.right (And.right (And.right (by with_reducible assumption))))))))) | with_reducible exact And.left (And.right (And.right (And.right (And.right (And.right (And.right (And.right (And.right (And.right (by with_reducible assumption)))))))))) | with_reducible exact And.left (And.right (And.right (And.right (And.right (And.right (And.right (And.right (And.right (And.right (And.right (by with_reducible assumption))))))))))) | with_reducible exact And.left (And.right (And.right (And.right (And.right (And.right (And.right (And.right (And.right (And.right (And.right (And.right (by with_reducible assumption)))))))))))) | with_reducible exact And.left (And.right (And.right (And.right (And.right (And.right (And.right (And.right (And.right (And.right (And.right (And.right (And.right (by with_reducible assumption))))))))))))) | with_reducible exact (And.right (by with_reducible assumption)) | with_reducible exact (And.right (And.right (by with_reducible assumption))) | with_reducible exact (And.right (And.right (And.right (by with_reducible assumption)))) | with_reducible exact (And.right (And.right (And.right (And.right (by with_reducible assumption))))) | with_reducible exact (And.right (And.right (And.right (And.right (And.right (by with_reducible assumption)))))) | with_reducible exact (And.right (And.right (And.right (And.right (And.right (And.right (by with_reducible assumption))))))))) | omega)
  k_with "mcall" => ((with_reducible show wpAny _ _ (call (Value.ref (nat_lit 84)) [Value.int _ _]) _ _ _); k_dflt (refine' c1_claim ?k1 ?k2 ?k3 ?k4 ?k5 ?k6 ?k7 ?k8 ?kp ?_; (case k1 => k_asm); (case k2 => k_asm); (case k3 => k_asm); (case k4 => k_asm); (case k5 => k_asm); (case k6 => first | exact rfl | assumption); (case k7 => ktr_room); (case k8 => ktr_units); (case kp => omega)); intro t9 h9 tk9 F9 N9; (have hc19 := c1_room (by assumption) (by omega)); (try dsimp only); (try k_fold))
  k_with "mcall" => ((with_reducible show wpAny _ _ (call (Value.ref (nat_lit 91)) [Value.int _ _]) _ _ _); k_dflt (refine' numref_claim ?k1 ?k2 ?k3 ?k4 ?k5 ?k6 ?k7 ?k8 ?kp ?_; (case k1 => k_asm); (case k2 => k_asm); (case k3 => k_asm); (case k4 => k_asm); (case k5 => k_asm); (case k6 => first | exact rfl | assumption); (case k7 => ktr_room); (case k8 => ktr_units); (case kp => omega)); intro D9 o9 h9 tk9 P9 F9 N9 l9; (try k_lt l9); k_dflt (unfold PairIs at P9; rcases P9 with ⟨t19, c19, hf9, he9⟩ | ⟨t19, f9, t29, c19, hf9, he9⟩); all_goals ((subst he9); (try dsimp only); (try k_fold)))
  k_with "mcall" => ((with_reducible show wpAny _ _ (call (Value.ref (nat_lit 531)) [Value.int _ _]) _ _ _); k_dflt (refine' meant_claim ?k1 ?k2 ?k3 ?k4 ?k5 ?k6 ?k7 ?k8 ?kp ?_; (case k1 => k_asm); (case k2 => k_asm); (case k3 => k_asm); (case k4 => k_asm); (case k5 => k_asm); (case k6 => first | exact rfl | assumption); (case k7 => ktr_room); (case k8 => ktr_units); (case kp => omega)); intro D9 o9 h9 tk9 P9 F9 N9 l9; (try k_lt l9); k_dflt (unfold PairIs at P9; rcases P9 with ⟨t19, c19, hf9, he9⟩ | ⟨t19, f9, t29, c19, hf9, he9⟩); all_goals ((subst he9); (try dsimp only); (try k_fold)))
  trivial
section
theorem wdM3x1 : True := by
  k_with "kall" => assumption
  trivial
noncomputable def isVal (bk : PySem.Str) : Bool := [PySem.Str.ofString "attribute value (double-quoted)", PySem.Str.ofString "attribute value (single-quoted)", PySem.Str.ofString "attribute value (unquoted)"].any fun x => x == bk
theorem inval_claim {w : World} {mean : ExcName → Option Value} {mg mb : PySem.Str → Option Value} {dp un : Nat} {gd : Option (List Code)} {cn : PySem.Str} {cs : Scope} {a : Addr} {ccd : Value} {cl : List (PySem.Str × Addr)} {outer : List Env} {A₀ : Around} {base h₀ : Heap} {L : Addr} {m : PySem.Str → Option Value} {s : Shared} {Q E : Value → Shared → Prop} {Tk Td S SD ST G E' O SE : Addr} {gv ev : List Value} {K : KT} {KR : KR} {so : Obj} {ng ne : Nat} {ret : Bool} {at' cd : Int} {ta ts tb tf tc : Tok} {st bk bf : PySem.Str} {dv lv : Value} {all : List (Addr × Obj)} (B : Below A₀ base outer h₀) (F : Fr h₀ L s.heap m) (X : (Mine.top.heap_1 w.params).In h₀) (N : News h₀ L s.heap ((Tk, instObj 450 Td) :: (Td, tkD w K ST S O E' at' ta st ts bk tb dv bf tf cd tc lv) :: (S, instObj 287 SD) :: (SD, stD w KR G SE ret) :: (G, listOf gv.toArray ng) :: (E', listOf ev.toArray ne) :: (ST, so) :: all)) (T : Top q (looseW q []) mean mg mb h₀) (hk : cs.kind = .function) (hd : dp + 2 < recursionLimit) (hu : un + 16 < cLine) (D : Dis Tk Td S SD G E' ST all)
   (hret : ∀ (b : Bool) (h' : Heap) (tk' : Nat), b = isVal bk → Fr h₀ L h' m → News h₀ L h' ((Tk, instObj 450 Td) :: (Td, tkD w K ST S O E' at' ta st ts bk tb dv bf tf cd tc lv) :: (S, instObj 287 SD) :: (SD, stD w KR G SE ret) :: (G, listOf gv.toArray ng) :: (E', listOf ev.toArray ne) :: (ST, so) :: all) → Q (.bool b) { s with heap := h', toks := tk' })
    : wpAny (model rw'.row.toRowW.prog w) (ktrTop dp un gd cn cs L a ccd cl outer) (call (.ref 419) [.ref Tk]) Q E s := by
  obtain ⟨a1, a2, a3, a4, a5, a6, _, _, _, _, _, hdd, _⟩ := id D
  revert X
  k_fill
  intro X
  refine wpAny_call ?_
  k_dflt cell_enter
  k_steps
  all_goals (rename Fr h₀ L _ _ => kF9; rename News h₀ L _ _ => kN9; exact hret _ _ _ rfl kF9 (fun p hp => kN9 p (.tail _ hp)))
theorem again_claim {w : World} {mean : ExcName → Option Value} {mg mb : PySem.Str → Option Value} {dp un : Nat} {gd : Option (List Code)} {cn : PySem.Str} {cs : Scope} {a : Addr} {ccd : Value} {cl : List (PySem.Str × Addr)} {outer : List Env} {A₀ : Around} {base h₀ : Heap} {L : Addr} {m : PySem.Str → Option Value} {s : Shared} {Q E : Value → Shared → Prop} {Tk Td S SD ST G E' O SE : Addr} {gv ev : List Value} {K : KT} {KR : KR} {so : Obj} {ng ne : Nat} {ret : Bool} {at' cd : Int} {ta ts tb tf tc : Tok} {st bk bf : PySem.Str} {dv lv : Value} {x : PySem.Str} {tx : Tok} {all : List (Addr × Obj)} (B : Below A₀ base outer h₀) (F : Fr h₀ L s.heap m) (X : (Mine.top.heap_1 w.params).In h₀) (N : News h₀ L s.heap ((Tk, instObj 450 Td) :: (Td, tkD w K ST S O E' at' ta st ts bk tb dv bf tf cd tc lv) :: (S, instObj 287 SD) :: (SD, stD w KR G SE ret) :: (G, listOf gv.toArray ng) :: (E', listOf ev.toArray ne) :: (ST, so) :: all)) (T : Top q (looseW q []) mean mg mb h₀) (hk : cs.kind = .function) (hd : dp + 2 < recursionLimit) (hu : un + 16 < cLine) (D : Dis Tk Td S SD G E' ST all)
   (hret : ∀ (ta' ts' : Tok) (h' : Heap) (tk' : Nat), Fr h₀ L h' m → News h₀ L h' ((Tk, instObj 450 Td) :: (Td, tkD w K ST S O E' (at' - 1) ta' x ts' bk tb dv bf tf cd tc lv) :: (S, instObj 287 SD) :: (SD, stD w KR G SE ret) :: (G, listOf gv.toArray ng) :: (E', listOf ev.toArray ne) :: (ST, so) :: all) → Q .none { s with heap := h', toks := tk' })
    : wpAny (model rw'.row.toRowW.prog w) (ktrTop dp un gd cn cs L a ccd cl outer) (call (.ref 341) [.ref Tk, .str x tx]) Q E s := by
  obtain ⟨a1, a2, a3, a4, a5, a6, _, _, _, _, _, hdd, _⟩ := id D
  revert X
  k_fill
  intro X
  refine wpAny_call ?_
  k_dflt cell_enter
  k_steps
  all_goals (rename Fr h₀ L _ _ => kF9; rename News h₀ L _ _ => kN9; exact hret _ _ _ _ kF9 kN9)
theorem err_news {h₀ h : Heap} {L : Addr} {x a b c d e f g : Addr × Obj} {all : List (Addr × Obj)} (N : News h₀ L h (x :: a :: b :: c :: d :: e :: f :: g :: all)) : News h₀ L h (a :: b :: c :: d :: e :: f :: g :: x :: all) := by
  intro p hp
  refine N p ?_
  simp only [List.mem_cons] at hp ⊢
  rcases hp with h | h | h | h | h | h | h | h | h <;> simp [h]
theorem lt_all {d : Addr} : ∀ {l : List (Addr × Obj)}, AllLt d l → ∀ p ∈ l, p.1 < d
  | [], _, _, hp => nomatch hp
  | _ :: _, h, _, hp => by
    rcases List.mem_cons.mp hp with rfl | hp
    · exact h.1
    · exact lt_all h.2 _ hp
theorem wdM3x2 : True := by
  k_with "call builtin:list.append" => (k_here; (with_reducible show wpAny _ _ (call (Value.builtin _) [Value.ref _, _]) _ _ _); k_dflt (refine' append_K ?k1 ?k2 ?k3 ?_ ?z; (case k1 => k_asm); (case k2 => k_asm); (case k3 => k_upd); (case z => k_asm); k_whole); intro h' F' N'; (try k_sweep))
  trivial
theorem error_claim {w : World} {mean : ExcName → Option Value} {mg mb : PySem.Str → Option Value} {dp un : Nat} {gd : Option (List Code)} {cn : PySem.Str} {cs : Scope} {a : Addr} {ccd : Value} {cl : List (PySem.Str × Addr)} {outer : List Env} {A₀ : Around} {base h₀ : Heap} {L : Addr} {m : PySem.Str → Option Value} {s : Shared} {Q E : Value → Shared → Prop} {Tk Td S SD ST G E' O SE : Addr} {gv ev : List Value} {K : KT} {KR : KR} {so : Obj} {ng ne : Nat} {ret : Bool} {at' cd : Int} {ta ts tb tf tc : Tok} {st bk bf : PySem.Str} {dv lv : Value} {x : PySem.Str} {tx : Tok} {all : List (Addr × Obj)} (B : Below A₀ base outer h₀) (F : Fr h₀ L s.heap m) (X : (Mine.top.heap_1 w.params).In h₀) (N : News h₀ L s.heap ((Tk, instObj 450 Td) :: (Td, tkD w K ST S O E' at' ta st ts bk tb dv bf tf cd tc lv) :: (S, instObj 287 SD) :: (SD, stD w KR G SE ret) :: (G, listOf gv.toArray ng) :: (E', listOf ev.toArray ne) :: (ST, so) :: all)) (T : Top q (looseW q []) mean mg mb h₀) (hk : cs.kind = .function) (hd : dp + 2 < recursionLimit) (hu : un + 16 < cLine) (D : Dis Tk Td S SD G E' ST all) (hes : ev.toArray.size ≤ sizeLine)
   (hret : ∀ (Dn : Addr) (t1 t2 : Tok) (n k : Nat) (h' : Heap) (tk' : Nat), (∀ p ∈ ((Tk, instObj 450 Td) :: (Td, tkD w K ST S O E' at' ta st ts bk tb dv bf tf cd tc lv) :: (S, instObj 287 SD) :: (SD, stD w KR G SE ret) :: (G, listOf gv.toArray ng) :: (E', listOf ev.toArray ne) :: (ST, so) :: all), p.1 < Dn) → Fr h₀ L h' m → News h₀ L h' ((Tk, instObj 450 Td) :: (Td, tkD w K ST S O E' at' ta st ts bk tb dv bf tf cd tc lv) :: (S, instObj 287 SD) :: (SD, stD w KR G SE ret) :: (G, listOf gv.toArray ng) :: (E', listOf (ev ++ [Value.ref Dn]).toArray k) :: (ST, so) :: (Dn, ({ cls := .type "tuple", data := .seq #[.str x t1, .int (at' - 1) t2] n } : Obj)) :: all) → Q .none { s with heap := h', toks := tk' })
    : wpAny (model rw'.row.toRowW.prog w) (ktrTop dp un gd cn cs L a ccd cl outer) (call (.ref 348) [.ref Tk, .str x tx]) Q E s := by
  obtain ⟨a1, a2, a3, a4, a5, a6, b1, b2, b3, b4, b6, _, hdd⟩ := id D
  revert X
  k_fill
  intro X
  refine wpAny_call ?_
  k_dflt cell_enter
  k_steps
  all_goals (
    rename Fr h₀ L _ _ => kF9; rename News h₀ L _ _ => kN9
    have kN8 := err_news kN9
    rw [List.push_toArray] at kN8
    exact hret _ _ _ _ _ _ _ (lt_all (by simp only [AllLt]; assumption)) kF9 kN8)
end

theorem rsM4 : True := by
  k_with_none
  k_with "kne" => (refine neN ?_; (try dsimp only); first | with_reducible assumption | with_reducible exact Ne.symm (by with_reducible assumption) | (refine Nat.ne_of_lt ?_; (first | with_reducible assumption | with_reducible exact And.left (by with_reducible assumption) | with_reducible exact And.left (And.right (by with_reducible assumption)) | with_reducible exact And.left (And.right (And.right (by with_reducible assumption))) | with_reducible exact And.left (And.right (And.right (And.right (by with_reducible assumption)))) | with_reducible exact And.left (And.right (And.right (And.right (And.right (by with_reducible assumption))))) | with_reducible exact And.left (And.right (And.right (And.right (And.right (And.right (by with_reducible assumption)))))) | with_reducible exact And.left (And.right (And.right (And.right (And.right (And.right (And.right (by with_reducible assumption))))))) | with_reducible exact And.left (And.right (And.right (And.right (And.right (And.right (And.right (And.right (by with_reducible assumption)))))))) | with_reducible exact And.left (And.right (And.right (And.right (And.right (And.right (And.right (And.right (And.right (by with_reducible assumption))))))))) | with_reducible exact And.left (And.right (And.right (And.right (And.right (And.right (And.right (And.right (And.right (And.right (by with_reducible assumption)))))))))) | with_reducible exact And.left (And.right (And.right (And.right (And.right (And.right (And.right (And.right (And.right (And.right (And.right (by with_reducible assumption))))))))))) | with_reducible exact And.left (And.right (And.right (And.right (And.right (And.right (And.right (And.right (And.right (And.right (And.right (And.right (by with_reducible assumption)))))))))))) | with_reducible exact And.left (And.right (And.right (And.right (And.right (And.right (And.right (And.right (And.right (And.right (And.right (And.right (And.right (by with_reducible assumption))))))))))))) | with_reducible exact (And.right (by with_reducible assumption)) | with_reducible exact (And.right (And.right (by with_reducible assumption))) | with_reducible exact (And.right (And.right (And.right (by with_reducible assumption)))) | with_reducible exact (And.right (And.right (And.right (And.right (by with_reducible assumption))))) | with_reducible exact (And.right (And.right (And.right (And.right (And.right (by with_reducible assumption)))))) | with_reducible exact (And.right (And.right (And.right (And.right (And.right (And.right (by with_reducible assumption))))))))) | (refine Nat.ne_of_gt ?_; (first | with_reducible assumption | with_reducible exact And.left (by with_reducible assumption) | with_reducible exact And.left (And.right (by with_reducible assumption)) | with_reducible exact And.left (And.right (And.right (by with_reducible assumption))) | with_reducible exact And.left (And.right (And.right (And.right (by with_reducible assumption)))) | with_reducible exact And.left (And.right (And.right (And.right (And.right (by with_reducible assumption))))) | with_reducible exact And.left (And.right (And.right (And.right (And.right (And.right (by with_reducible assumption)))))) | with_reducible exact And.left (And.right (And.right (And.right (And.right (And.right (And.right (by with_reducible assumption))))))) | with_reducible exact And.left (And.right (And.right (And.right (And.right (And.right (And.right (And.right (by with_reducible assumption)))))))) | with_reducible exact And.left (And.right (And.right (And.right (And.right (And.right (And.right (And.right (And.right (by with_reducible assumption))))))))) | with_reducible exact And.left (And.right (And.right (And.right (And.right (And.right (And.right (And.right (And.right (And.right (by with_reducible assumption)))))))))) | with_reducible exact And.left (And.right (And.right (And.right (And.right (And.right (And.right (And.right (And.right (And.right (And.right (by with_reducible assumption))))))))))) | with_reducible exact And.left (And.right (And.right (And.right (And.right (And.right (And.right (And.right (And.right (And.right (And.right (And.right (by with_reducible assumption)))))))))))) | with_reducible exact And.left (And.right (And.right (And.right (And.right (And.right (And.right (And.right (And.right (And.right (And.right (And.right (And.right (by with_reducible assumption))))))))))))) | with_reducible exact (And.right (by with_reducible assumption)) | with_reducible exact (And.right (And.right (by with_reducible assumption))) | with_reducible exact (And.right (And.right (And.right (by with_reducible assumption)))) | with_reducible exact (And.right (And.right (And.right (And.right (by with_reducible assumption))))) | with_reducible exact (And.right (And.right (And.right (And.right (And.right (by with_reducible assumption)))))) | with_reducible exact (And.right (And.right (And.right (And.right (And.right (And.right (by with_reducible assumption))))))))) | omega)
  k_with "mcall" => ((with_reducible show wpAny _ _ (call (Value.ref (nat_lit 84)) [Value.int _ _]) _ _ _); k_dflt (refine' c1_claim ?k1 ?k2 ?k3 ?k4 ?k5 ?k6 ?k7 ?k8 ?kp ?_; (case k1 => k_asm); (case k2 => k_asm); (case k3 => k_asm); (case k4 => k_asm); (case k5 => k_asm); (case k6 => first | exact rfl | assumption); (case k7 => ktr_room); (case k8 => ktr_units); (case kp => omega)); intro t9 h9 tk9 F9 N9; (have hc19 := c1_room (by assumption) (by omega)); (try dsimp only); (try k_fold))
  k_with "mcall" => ((with_reducible show wpAny _ _ (call (Value.ref (nat_lit 91)) [Value.int _ _]) _ _ _); k_dflt (refine' numref_claim ?k1 ?k2 ?k3 ?k4 ?k5 ?k6 ?k7 ?k8 ?kp ?_; (case k1 => k_asm); (case k2 => k_asm); (case k3 => k_asm); (case k4 => k_asm); (case k5 => k_asm); (case k6 => first | exact rfl | assumption); (case k7 => ktr_room); (case k8 => ktr_units); (case kp => omega)); intro D9 o9 h9 tk9 P9 F9 N9 l9; (try k_lt l9); k_dflt (unfold PairIs at P9; rcases P9 with ⟨t19, c19, hf9, he9⟩ | ⟨t19, f9, t29, c19, hf9, he9⟩); all_goals ((subst he9); (try dsimp only); (try k_fold)))
  k_with "mcall" => ((with_reducible show wpAny _ _ (call (Value.ref (nat_lit 531)) [Value.int _ _]) _ _ _); k_dflt (refine' meant_claim ?k1 ?k2 ?k3 ?k4 ?k5 ?k6 ?k7 ?k8 ?kp ?_; (case k1 => k_asm); (case k2 => k_asm); (case k3 => k_asm); (case k4 => k_asm); (case k5 => k_asm); (case k6 => first | exact rfl | assumption); (case k7 => ktr_room); (case k8 => ktr_units); (case kp => omega)); intro D9 o9 h9 tk9 P9 F9 N9 l9; (try k_lt l9); k_dflt (unfold PairIs at P9; rcases P9 with ⟨t19, c19, hf9, he9⟩ | ⟨t19, f9, t29, c19, hf9, he9⟩); all_goals ((subst he9); (try dsimp only); (try k_fold)))
  trivial
section
variable {prog : Program} {w : World} {A : Around} {E : Value → Shared → Prop} {s : Shared} {env : Env} {h₀ : Heap} {x : PySem.Str} {body : List Stmt} {Q : Flow → Shared → Prop}
theorem text_loop {xt : PySem.Str} {tx : Tok} {m₀ : PySem.Str → Option Value} {news : List (Addr × Obj)} (J : List Nat → (PySem.Str → Option Value) → List (Addr × Obj) → Prop)
    (hh : A.handled = none) (F : Fr h₀ env.locals s.heap m₀) (N : News h₀ env.locals s.heap news) (hj : J [] m₀ news)
    (turn : ∀ (pre : List Nat) (c : Nat) (post : List Nat) t m₁ nx h tk own, xt.cps.toList = pre ++ c :: post → OwnOff own (nx.map (·.1)) → J pre m₁ nx → Fr h₀ env.locals h (fun y => if y = x then some (.str ⟨#[c]⟩ t) else m₁ y) → News h₀ env.locals h (nx ++ own) →
      wpAny (model prog w) A (execs body env) (InvPostG h₀ env.locals (J (pre ++ [c])) own { s with heap := h, toks := tk } Q) E { s with heap := h, toks := tk })
    (done : ∀ m₁ nx h tk, J xt.cps.toList m₁ nx → Fr h₀ env.locals h m₁ → News h₀ env.locals h nx → Q .next { s with heap := h, toks := tk }) :
    wpAny (model prog w) A (pyIter (.str xt tx)) (fun it s₂ => LoopAtV prog w A h₀ env x body Q E it s₂) E s := by
  have main : ∀ (o : Obj) (St : Nat → Heap → Prop), PySem.Walks prog w A s.heap.objs.size [s.heap.objs.size] [s.heap.objs.size] xt.cps.size (SignAt xt) St → (∀ i h, St i h → ∃ o, h.get? s.heap.objs.size = some o) → St 0 (s.heap.push o) → LoopAtV prog w A h₀ env x body Q E (.ref s.heap.objs.size) { s with heap := s.heap.push o } := by
    intro o St W hob hst
    refine kdr_loop (fun i m nx => J (xt.cps.toList.take i) m nx) W (fun _ h => h) (fun _ h => h) ?_ ?_ ?_ ?_ hst (F.push _) (fun p hp => ⟨Heap.get?_push_of_some _ (N p hp).1, (N p hp).2⟩) (by simpa using hj) ?_ ?_
    · intro i h hi b hb
      rw [List.mem_singleton.mp hb]
      exact hob i h hi
    · intro hm
      exact absurd F.ns.lt ((List.mem_singleton.mp hm) ▸ Nat.lt_irrefl _)
    · intro b hb
      rw [List.mem_singleton.mp hb]
      exact next_is_new F
    · intro p hp hI
      exact absurd (Heap.lt_size (N p hp).1) ((List.mem_singleton.mp hI) ▸ Nat.lt_irrefl _)
    · rintro i v m₁ nx h tk own hi ⟨n, u, hn, rfl⟩ hoff hj' F₁ N₁
      have hn' : xt.cps.toList[i]? = some n := by simpa using hn
      have hs : xt.cps.toList.take (i + 1) = xt.cps.toList.take i ++ [n] := by simp [List.take_add_one, hn']
      have e : xt.cps.toList = xt.cps.toList.take i ++ n :: xt.cps.toList.drop (i + 1) := by
        have ht := List.take_append_drop (i + 1) xt.cps.toList
        rw [hs, List.append_assoc] at ht
        exact ht.symm
      show wpAny _ _ _ (InvPostG _ _ (J (xt.cps.toList.take (i + 1))) _ _ _) _ _
      rw [hs]
      exact turn _ _ _ u m₁ nx h tk own e hoff hj' F₁ N₁
    · rintro m₁ nx h tk hj' F₁ N₁
      have hl : xt.cps.size = xt.cps.toList.length := by simp
      have hj2 : J (xt.cps.toList.take xt.cps.size) m₁ nx := hj'
      rw [hl, List.take_length] at hj2
      exact done m₁ nx h tk hj2 F₁ N₁
  cases ha : xt.cps.all (· < 128)
  · exact wpAny_pyIter_wide ha (main _ _ (PySem.Walks.strWide hh _ xt tx) (fun i h hi => let ⟨o, ho, _⟩ := hi; ⟨o, ho⟩) ⟨_, Heap.get?_push_size _ rfl, rfl, rfl⟩)
  · exact wpAny_pyIter_ascii ha (main _ _ (PySem.Walks.strAscii hh _ xt tx) (fun i h hi => let ⟨o, ho, _⟩ := hi; ⟨o, ho⟩) ⟨_, Heap.get?_push_size _ rfl, rfl, rfl⟩)
end
section
variable {prog : Program} {w : World} {A : Around} {E : Value → Shared → Prop} {s : Shared} {env : Env} {h₀ : Heap} {x : PySem.Str} {body : List Stmt} {Q : Flow → Shared → Prop}
theorem text_loop2 {xt : PySem.Str} {tx : Tok} {m₀ : PySem.Str → Option Value} {news : List (Addr × Obj)} (stored : List PySem.Str) (J : List Nat → List (Addr × Obj) → Prop)
    (hh : A.handled = none) (F : Fr h₀ env.locals s.heap m₀) (N : News h₀ env.locals s.heap news) (hj : J [] news)
    (turn : ∀ (pre : List Nat) (c : Nat) (post : List Nat) t (u : PySem.Str → Option Value) nx h tk own, xt.cps.toList = pre ++ c :: post → OwnOff own (nx.map (·.1)) → J pre nx →
      Fr h₀ env.locals h (fun y => if y = x then some (.str ⟨#[c]⟩ t) else if stored.contains y then u y else m₀ y) → News h₀ env.locals h (nx ++ own) →
      wpAny (model prog w) A (execs body env) (InvPostG h₀ env.locals (fun m nx => (∀ z, z ≠ x → stored.contains z = false → m z = m₀ z) ∧ J (pre ++ [c]) nx) own { s with heap := h, toks := tk } Q) E { s with heap := h, toks := tk })
    (done : ∀ (u : PySem.Str → Option Value) nx h tk, J xt.cps.toList nx → Fr h₀ env.locals h (fun y => if y = x then u y else if stored.contains y then u y else m₀ y) → News h₀ env.locals h nx → Q .next { s with heap := h, toks := tk }) :
    wpAny (model prog w) A (pyIter (.str xt tx)) (fun it s₂ => LoopAtV prog w A h₀ env x body Q E it s₂) E s := by
  refine text_loop (fun pre m nx => (∀ z, z ≠ x → stored.contains z = false → m z = m₀ z) ∧ J pre nx) hh F N ⟨fun _ _ _ => rfl, hj⟩ ?_ ?_
  · rintro pre c post t m₁ nx h tk own e hoff ⟨hm, hJ⟩ F₁ N₁
    refine turn pre c post t m₁ nx h tk own e hoff hJ ?_ N₁
    have e2 : (fun y => if y = x then some (Value.str ⟨#[c]⟩ t) else if stored.contains y then m₁ y else m₀ y) = (fun y => if y = x then some (Value.str ⟨#[c]⟩ t) else m₁ y) := by
      funext y
      by_cases h1 : y = x
      · simp [h1]
      · simp only [h1, if_false]
        cases h2 : stored.contains y with
        | true => simp
        | false => simp only [Bool.false_eq_true, if_false]; exact (hm y h1 h2).symm
    rw [e2]; exact F₁
  · rintro m₁ nx h tk ⟨hm, hJ⟩ F₁ N₁
    refine done m₁ nx h tk hJ ?_ N₁
    have e2 : (fun y => if y = x then m₁ y else if stored.contains y then m₁ y else m₀ y) = m₁ := by
      funext y
      by_cases h1 : y = x
      · simp [h1]
      · simp only [h1, if_false]
        cases h2 : stored.contains y with
        | true => simp
        | false => simp only [Bool.false_eq_true, if_false]; exact (hm y h1 h2).symm
    rw [e2]; exact F₁
end

theorem rsF0 : True := by
  k_with_none
  k_with "kne" => (refine neN ?_; (try dsimp only); first | with_reducible assumption | with_reducible exact Ne.symm (by with_reducible assumption) | (refine Nat.ne_of_lt ?_; (first | with_reducible assumption | with_reducible exact And.left (by with_reducible assumption) | with_reducible exact And.left (And.right (by with_reducible assumption)) | with_reducible exact And.left (And.right (And.right (by with_reducible assumption))) | with_reducible exact And.left (And.right (And.right (And.right (by with_reducible assumption)))) | with_reducible exact And.left (And.right (And.right (And.right (And.right (by with_reducible assumption))))) | with_reducible exact And.left (And.right (And.right (And.right (And.right (And.right (by with_reducible assumption)))))) | with_reducible exact And.left (And.right (And.right (And.right (And.right (And.right (And.right (by with_reducible assumption))))))) | with_reducible exact And.left (And.right (And.right (And.right (And.right (And.right (And.right (And.right (by with_reducible assumption)))))))) | with_reducible exact And.left (And.right (And.right (And.right (And.right (And.right (And.right (And.right (And.right (by with_reducible assumption))))))))) | with_reducible exact And.left (And.right (And.right (And.right (And.right (And.right (And.right (And.right (And.right (And.right (by with_reducible assumption)))))))))) | with_reducible exact And.left (And.right (And.right (And.right (And.right (And.right (And.right (And.right (And.right (And.right (And.right (by with_reducible assumption))))))))))) | with_reducible exact And.left (And.right (And.right (And.right (And.right (And.right (And.right (And.right (And.right (And.right (And.right (And.right (by with_reducible assumption)))))))))))) | with_reducible exact And.left (And.right (And.right (And.right (And.right (And.right (And.right (And.right (And.right (And.right (And.right (And.right (And.right (by with_reducible assumption))))))))))))) | with_reducible exact (And.right (by with_reducible assumption)) | with_reducible exact (And.right (And.right (by with_reducible assumption))) | with_reducible exact (And.right (And.right (And.right (by with_reducible assumption)))) | with_reducible exact (And.right (And.right (And.right (And.right (by with_reducible assumption))))) | with_reducible exact (And.right (And.right (And.right (And.right (And.right (by with_reducible assumption)))))) | with_reducible exact (And.right (And.right (And.right (And.right (And.right (And.right (by with_reducible assumption))))))))) | (refine Nat.ne_of_gt ?_; (first | with_reducible assumption | with_reducible exact And.left (by with_reducible assumption) | with_reducible exact And.left (And.right (by with_reducible assumption)) | with_reducible exact And.left (And.right (And.right (by with_reducible assumption))) | with_reducible exact And.left (And.right (And.right (And.right (by with_reducible assumption)))) | with_reducible exact And.left (And.right (And.right (And.right (And.right (by with_reducible assumption))))) | with_reducible exact And.left (And.right (And.right (And.right (And.right (And.right (by with_reducible assumption)))))) | with_reducible exact And.left (And.right (And.right (And.right (And.right (And.right (And.right (by with_reducible assumption))))))) | with_reducible exact And.left (And.right (And.right (And.right (And.right (And.right (And.right (And.right (by with_reducible assumption)))))))) | with_reducible exact And.left (And.right (And.right (And.right (And.right (And.right (And.right (And.right (And.right (by with_reducible assumption))))))))) | with_reducible exact And.left (And.right (And.right (And.right (And.right (And.right (And.right (And.right (And.right (And.right (by with_reducible assumption)))))))))) | with_reducible exact And.left (And.right (And.right (And.right (And.right (And.right (And.right (And.right (And.right (And.right (And.right (by with_reducible assumption))))))))))) | with_reducible exact And.left (And.right (And.right (And.right (And.right (And.right (And.right (And.right (And.right (And.right (And.right (And.right (by with_reducible assumption)))))))))))) | with_reducible exact And.left (And.right (And.right (And.right (And.right (And.right (And.right (And.right (And.right (And.right (And.right (And.right (And.right (by with_reducible assumption))))))))))))) | with_reducible exact (And.right (by with_reducible assumption)) | with_reducible exact (And.right (And.right (by with_reducible assumption))) | with_reducible exact (And.right (And.right (And.right (by with_reducible assumption)))) | with_reducible exact (And.right (And.right (And.right (And.right (by with_reducible assumption))))) | with_reducible exact (And.right (And.right (And.right (And.right (And.right (by with_reducible assumption)))))) | with_reducible exact (And.right (And.right (And.right (And.right (And.right (And.right (by with_reducible assumption))))))))) | omega)
  k_with "mcall" => ((with_reducible show wpAny _ _ (call (Value.ref (nat_lit 84)) [Value.int _ _]) _ _ _); k_dflt (refine' c1_claim ?k1 ?k2 ?k3 ?k4 ?k5 ?k6 ?k7 ?k8 ?kp ?_; (case k1 => k_asm); (case k2 => k_asm); (case k3 => k_asm); (case k4 => k_asm); (case k5 => k_asm); (case k6 => first | exact rfl | assumption); (case k7 => ktr_room); (case k8 => ktr_units); (case kp => omega)); intro t9 h9 tk9 F9 N9; (have hc19 := c1_room (by assumption) (by omega)); (try dsimp only); (try k_fold))
  k_with "mcall" => ((with_reducible show wpAny _ _ (call (Value.ref (nat_lit 91)) [Value.int _ _]) _ _ _); k_dflt (refine' numref_claim ?k1 ?k2 ?k3 ?k4 ?k5 ?k6 ?k7 ?k8 ?kp ?_; (case k1 => k_asm); (case k2 => k_asm); (case k3 => k_asm); (case k4 => k_asm); (case k5 => k_asm); (case k6 => first | exact rfl | assumption); (case k7 => ktr_room); (case k8 => ktr_units); (case kp => omega)); intro D9 o9 h9 tk9 P9 F9 N9 l9; (try k_lt l9); k_dflt (unfold PairIs at P9; rcases P9 with ⟨t19, c19, hf9, he9⟩ | ⟨t19, f9, t29, c19, hf9, he9⟩); all_goals ((subst he9); (try dsimp only); (try k_fold)))
  k_with "mcall" => ((with_reducible show wpAny _ _ (call (Value.ref (nat_lit 531)) [Value.int _ _]) _ _ _); k_dflt (refine' meant_claim ?k1 ?k2 ?k3 ?k4 ?k5 ?k6 ?k7 ?k8 ?kp ?_; (case k1 => k_asm); (case k2 => k_asm); (case k3 => k_asm); (case k4 => k_asm); (case k5 => k_asm); (case k6 => first | exact rfl | assumption); (case k7 => ktr_room); (case k8 => ktr_units); (case kp => omega)); intro D9 o9 h9 tk9 P9 F9 N9 l9; (try k_lt l9); k_dflt (unfold PairIs at P9; rcases P9 with ⟨t19, c19, hf9, he9⟩ | ⟨t19, f9, t29, c19, hf9, he9⟩); all_goals ((subst he9); (try dsimp only); (try k_fold)))
  trivial
noncomputable abbrev stD0 (w : World) (K : KR) (G SE : Addr) (cl ret : Bool) : Obj :=
  dictOf [ent w (PySem.Str.ofString "signs") K.a (.ref G), ent w (PySem.Str.ofString "is_closed") K.b (.bool cl), ent w (PySem.Str.ofString "is_return") K.c (.bool ret), ent w (PySem.Str.ofString "errors") K.d (.ref SE)] 4
theorem newtok_claim {w : World} {mean : ExcName → Option Value} {mg mb : PySem.Str → Option Value} {dp un : Nat} {gd : Option (List Code)} {cn : PySem.Str} {cs : Scope} {a : Addr} {ccd : Value} {cl : List (PySem.Str × Addr)} {outer : List Env} {A₀ : Around} {base h₀ : Heap} {L : Addr} {m : PySem.Str → Option Value} {s : Shared} {Q E : Value → Shared → Prop} {news : List (Addr × Obj)} {D : Addr} {x : PySem.Str} {t1 : Tok} (B : Below A₀ base outer h₀) (F : Fr h₀ L s.heap m) (X : (Mine.top.heap_1 w.params).In h₀) (N : News h₀ L s.heap news) (T : Top q (looseW q []) mean mg mb h₀) (hk : cs.kind = .function) (hd : dp + 9 < recursionLimit) (hu : un + 72 < cLine)
    (hret : ∀ (Tk Td S SD G SE O E' : Addr) (K : KT) (KR : KR) (ta ts tb tf tc tl : Tok) (h' : Heap) (tk' : Nat), (@LT.lt Nat _ Td Tk ∧ @LT.lt Nat _ Tk SD ∧ @LT.lt Nat _ SD S ∧ @LT.lt Nat _ S G ∧ @LT.lt Nat _ G SE ∧ @LT.lt Nat _ SE O ∧ @LT.lt Nat _ O E') → (∀ p ∈ news, p.1 < Td) → Fr h₀ L h' m →
      News h₀ L h' ((E', listOf #[] 0) :: (O, listOf #[] 0) :: (SE, listOf #[] 0) :: (G, listOf #[] 0) :: (S, instObj 287 SD) :: (SD, stD0 w KR G SE false false) :: (Tk, instObj 450 Td) :: (Td, tkD w K D S O E' 0 ta x ts (PySem.Str.ofString "data") tb .none (PySem.Str.ofString "") tf 0 tc (.str (PySem.Str.ofString "") tl)) :: news) → Q (.ref Tk) { s with heap := h', toks := tk' })
    : wpAny (model rw'.row.toRowW.prog w) (ktrTop dp un gd cn cs L a ccd cl outer) (call (.ref 450) [.ref D, .str x t1]) Q E s := by
  revert X
  k_fill
  intro X
  k_dflt (refine' call_cls ?k1 ?k2 ?k3 ?k4 ?k5 ?k6 ?_; (case k1 => k_asm); (case k2 => k_asm); (case k3 => k_asm); (case k4 => k_is); (case k5 => k_is); (case k6 => k_is); k_whole; intro x' d' h' F' N' l1 l2; (try k_lt l1); (try k_lt2 l2); (try k_sweep))
  k_dflt (refine' code_def ?k1 ?k2 ?k3 ?k4 ?k5 ?kA ?kF ?kK ?k6 ?k7 ?k8 ?k9 ?kB ?_ ?c2 ?c3 ?c4 ?c5; (case kA => exact rfl); (case kF => exact rfl); (case kK => assumption); (case k1 => k_asm); (case k2 => k_asm); (case k3 => k_asm); (case k4 => k_asm); (case k5 => k_asm); (case k6 => k_is); (case k7 => k_is); (case k8 => ktr_room); (case k9 => exact binds_K (by k_in) rfl (by k_is) rfl rfl rfl); (case c5 => decide); (case kB => exact locs rfl); (case c2 => exact rfl); (case c3 => exact rfl); (case c4 => exact rfl); k_whole; intro g' L' h' FG' F' N' B' X' T'; (try dsimp only); (try k_lift B'); (try k_fold))
  k_steps
  all_goals (rename Fr h₀ L _ _ => kF9; rename News h₀ L _ _ => kN9; exact hret _ _ _ _ _ _ _ _ ⟨_, _, _, _, _, _, _, _, _, _, _, _, _, _⟩ ⟨_, _, _, _⟩ _ _ _ _ _ _ _ _ ⟨by omega, by omega, by omega, by omega, by omega, by omega, by omega⟩ l1 kF9 kN9)

theorem rsM5 : True := by
  k_with_none
  k_with "kne" => (refine neN ?_; (try dsimp only); first | with_reducible assumption | with_reducible exact Ne.symm (by with_reducible assumption) | (refine Nat.ne_of_lt ?_; (first | with_reducible assumption | with_reducible exact And.left (by with_reducible assumption) | with_reducible exact And.left (And.right (by with_reducible assumption)) | with_reducible exact And.left (And.right (And.right (by with_reducible assumption))) | with_reducible exact And.left (And.right (And.right (And.right (by with_reducible assumption)))) | with_reducible exact And.left (And.right (And.right (And.right (And.right (by with_reducible assumption))))) | with_reducible exact And.left (And.right (And.right (And.right (And.right (And.right (by with_reducible assumption)))))) | with_reducible exact And.left (And.right (And.right (And.right (And.right (And.right (And.right (by with_reducible assumption))))))) | with_reducible exact And.left (And.right (And.right (And.right (And.right (And.right (And.right (And.right (by with_reducible assumption)))))))) | with_reducible exact And.left (And.right (And.right (And.right (And.right (And.right (And.right (And.right (And.right (by with_reducible assumption))))))))) | with_reducible exact And.left (And.right (And.right (And.right (And.right (And.right (And.right (And.right (And.right (And.right (by with_reducible assumption)))))))))) | with_reducible exact And.left (And.right (And.right (And.right (And.right (And.right (And.right (And.right (And.right (And.right (And.right (by with_reducible assumption))))))))))) | with_reducible exact And.left (And.right (And.right (And.right (And.right (And.right (And.right (And.right (And.right (And.right (And.right (And.right (by with_reducible assumption)))))))))))) | with_reducible exact And.left (And.right (And.right (And.right (And.right (And.right (And.right (And.right (And.right (And.right (And.right (And.right (And.right (by with_reducible assumption))))))))))))) | with_reducible exact (And.right (by with_reducible assumption)) | with_reducible exact (And.right (And.right (by with_reducible assumption))) | with_reducible exact (And.right (And.right (And.right (by with_reducible assumption)))) | with_reducible exact (And.right (And.right (And.right (And.right (by with_reducible assumption))))) | with_reducible exact (And.right (And.right (And.right (And.right (And.right (by with_reducible assumption)))))) | with_reducible exact (And.right (And.right (And.right (And.right (And.right (And.right (by with_reducible assumption))))))))) | (refine Nat.ne_of_gt ?_; (first | with_reducible assumption | with_reducible exact And.left (by with_reducible assumption) | with_reducible exact And.left (And.right (by with_reducible assumption)) | with_reducible exact And.left (And.right (And.right (by with_reducible assumption))) | with_reducible exact And.left (And.right (And.right (And.right (by with_reducible assumption)))) | with_reducible exact And.left (And.right (And.right (And.right (And.right (by with_reducible assumption))))) | with_reducible exact And.left (And.right (And.right (And.right (And.right (And.right (by with_reducible assumption)))))) | with_reducible exact And.left (And.right (And.right (And.right (And.right (And.right (And.right (by with_reducible assumption))))))) | with_reducible exact And.left (And.right (And.right (And.right (And.right (And.right (And.right (And.right (by with_reducible assumption)))))))) | with_reducible exact And.left (And.right (And.right (And.right (And.right (And.right (And.right (And.right (And.right (by with_reducible assumption))))))))) | with_reducible exact And.left (And.right (And.right (And.right (And.right (And.right (And.right (And.right (And.right (And.right (by with_reducible assumption)))))))))) | with_reducible exact And.left (And.right (And.right (And.right (And.right (And.right (And.right (And.right (And.right (And.right (And.right (by with_reducible assumption))))))))))) | with_reducible exact And.left (And.right (And.right (And.right (And.right (And.right (And.right (And.right (And.right (And.right (And.right (And.right (by with_reducible assumption)))))))))))) | with_reducible exact And.left (And.right (And.right (And.right (And.right (And.right (And.right (And.right (And.right (And.right (And.right (And.right (And.right (by with_reducible assumption))))))))))))) | with_reducible exact (And.right (by with_reducible assumption)) | with_reducible exact (And.right (And.right (by with_reducible assumption))) | with_reducible exact (And.right (And.right (And.right (by with_reducible assumption)))) | with_reducible exact (And.right (And.right (And.right (And.right (by with_reducible assumption))))) | with_reducible exact (And.right (And.right (And.right (And.right (And.right (by with_reducible assumption)))))) | with_reducible exact (And.right (And.right (And.right (And.right (And.right (And.right (by with_reducible assumption))))))))) | omega)
  k_with "mcall" => ((with_reducible show wpAny _ _ (call (Value.ref (nat_lit 84)) [Value.int _ _]) _ _ _); k_dflt (refine' c1_claim ?k1 ?k2 ?k3 ?k4 ?k5 ?k6 ?k7 ?k8 ?kp ?_; (case k1 => k_asm); (case k2 => k_asm); (case k3 => k_asm); (case k4 => k_asm); (case k5 => k_asm); (case k6 => first | exact rfl | assumption); (case k7 => ktr_room); (case k8 => ktr_units); (case kp => omega)); intro t9 h9 tk9 F9 N9; (have hc19 := c1_room (by assumption) (by omega)); (try dsimp only); (try k_fold))
  k_with "mcall" => ((with_reducible show wpAny _ _ (call (Value.ref (nat_lit 91)) [Value.int _ _]) _ _ _); k_dflt (refine' numref_claim ?k1 ?k2 ?k3 ?k4 ?k5 ?k6 ?k7 ?k8 ?kp ?_; (case k1 => k_asm); (case k2 => k_asm); (case k3 => k_asm); (case k4 => k_asm); (case k5 => k_asm); (case k6 => first | exact rfl | assumption); (case k7 => ktr_room); (case k8 => ktr_units); (case kp => omega)); intro D9 o9 h9 tk9 P9 F9 N9 l9; (try k_lt l9); k_dflt (unfold PairIs at P9; rcases P9 with ⟨t19, c19, hf9, he9⟩ | ⟨t19, f9, t29, c19, hf9, he9⟩); all_goals ((subst he9); (try dsimp only); (try k_fold)))
  k_with "mcall" => ((with_reducible show wpAny _ _ (call (Value.ref (nat_lit 531)) [Value.int _ _]) _ _ _); k_dflt (refine' meant_claim ?k1 ?k2 ?k3 ?k4 ?k5 ?k6 ?k7 ?k8 ?kp ?_; (case k1 => k_asm); (case k2 => k_asm); (case k3 => k_asm); (case k4 => k_asm); (case k5 => k_asm); (case k6 => first | exact rfl | assumption); (case k7 => ktr_room); (case k8 => ktr_units); (case kp => omega)); intro D9 o9 h9 tk9 P9 F9 N9 l9; (try k_lt l9); k_dflt (unfold PairIs at P9; rcases P9 with ⟨t19, c19, hf9, he9⟩ | ⟨t19, f9, t29, c19, hf9, he9⟩); all_goals ((subst he9); (try dsimp only); (try k_fold)))
  trivial
noncomputable def charD (c : Nat) : Dat := .tuple [.str (PySem.Str.ofString "char"), .str ⟨#[c]⟩]
structure DisO (Tk Td S SD G E O ST : Addr) (rest : List (Addr × Obj)) : Prop where
  a1 : @Ne Nat Tk O
  a2 : @Ne Nat Td O
  a3 : @Ne Nat S O
  a4 : @Ne Nat SD O
  a5 : @Ne Nat G O
  a6 : @Ne Nat E O
  a7 : @Ne Nat ST O
  r : ∀ p ∈ rest, p.1 ≠ O
noncomputable def EmitJ (fx : List (Addr × Obj)) (Td E O : Addr) (txt : List Nat) (rest : List (Addr × Obj)) (pre : List Nat) (nx : List (Addr × Obj)) : Prop :=
  ∃ (ovs : List Value) (no : Nat) (rest' : List (Addr × Obj)), nx = fx ++ (O, listOf ovs.toArray no) :: rest' ∧ (∀ p ∈ rest, p ∈ rest') ∧ DatAll rest' ovs ((txt ++ pre).map charD) ∧ (∀ p ∈ rest', p.1 ≠ Td) ∧ (∀ p ∈ rest', p.1 ≠ E) ∧ (∀ p ∈ rest', p.1 ≠ O)
theorem off_tail {own r : List (Addr × Obj)} {b : Addr} {l : List Addr} (h : OwnOff own l) (hb : b ∈ l) (hr : ∀ p ∈ r, p.1 ≠ b) : ∀ p ∈ r ++ own, p.1 ≠ b := by
  intro p hp
  rcases List.mem_append.mp hp with hp | hp
  · exact hr p hp
  · exact h p hp b hb
theorem emit_size {rest' : List (Addr × Obj)} {ovs : List Value} {txt pre post : List Nat} {c : Nat} {xt : PySem.Str} (h : DatAll rest' ovs ((txt ++ pre).map charD)) (h1 : txt.length ≤ 100) (h2 : xt.length ≤ 100) (e : xt.cps.toList = pre ++ c :: post) : ovs.toArray.size ≤ sizeLine := by
  have a := h.length
  have b : xt.length = xt.cps.toList.length := by simp [PySem.Str.length]
  rw [e, List.length_append, List.length_cons] at b
  rw [List.length_map, List.length_append] at a
  rw [List.size_toArray, sizeLine_eq]
  omega
theorem emit_end {h₀ h : Heap} {L : Addr} {mm m₀ : PySem.Str → Option Value} {x : PySem.Str} {stored : List PySem.Str} {fx rest rest' own : List (Addr × Obj)} {Td E O Dn : Addr} {txt pre : List Nat} {c no' n tk : Nat} {ovs' : List Value} {t1 t2 : Tok} {s₁ : Shared} {o o2 : Obj}
    (F : Fr h₀ L h mm) (N : News h₀ L h ((Dn, ({ cls := .type "tuple", data := .seq #[.str (PySem.Str.ofString "char") t1, .str ⟨#[c]⟩ t2] n } : Obj)) :: (fx ++ (O, listOf (ovs'.toArray.push (.ref Dn)) (no' + 1)) :: (rest' ++ own))))
    (hl : AllLt Dn (fx ++ (O, o) :: (rest' ++ own))) (hT : @LT.lt Nat _ Td Dn) (hE : @LT.lt Nat _ E Dn)
    (hm : ∀ z, z ≠ x → stored.contains z = false → mm z = m₀ z) (hsub : ∀ p ∈ rest, p ∈ rest') (hdat : DatAll rest' ovs' ((txt ++ pre).map charD)) (h1 : ∀ p ∈ rest', p.1 ≠ Td) (h2 : ∀ p ∈ rest', p.1 ≠ E) (h3 : ∀ p ∈ rest', p.1 ≠ O)
    (hoff : OwnOff own ((fx ++ (O, o2) :: rest').map (·.1))) :
    InvEndG h₀ L (fun m nx => (∀ z, z ≠ x → stored.contains z = false → m z = m₀ z) ∧ EmitJ fx Td E O txt rest (pre ++ [c]) nx) own s₁ { s₁ with heap := h, toks := tk } := by
  have hall := lt_all hl
  have hO : @LT.lt Nat _ O Dn := hall (O, o) (by simp)
  refine InvEndG.intro (nx := fx ++ (O, listOf (ovs' ++ [Value.ref Dn]).toArray (no' + 1)) :: (Dn, ({ cls := .type "tuple", data := .seq #[.str (PySem.Str.ofString "char") t1, .str ⟨#[c]⟩ t2] n } : Obj)) :: rest') F N ⟨hm, ovs' ++ [.ref Dn], no' + 1, _ :: rest', rfl, fun p hp => .tail _ (hsub p hp), ?_, ?_, ?_, ?_⟩ ?_ ?_ ?_
  · rw [← List.append_assoc, List.map_append]
    refine DatAll.append (DatAll.mono (fun p hp => .tail _ hp) hdat) (.cons ?_ .nil)
    exact DatIn.tuple (vs := [.str (PySem.Str.ofString "char") t1, .str ⟨#[c]⟩ t2]) (.head _) (.cons (.str _ _) (.cons (.str _ _) .nil))
  · intro p hp
    rcases List.mem_cons.mp hp with rfl | hp
    · exact fun e => Nat.lt_irrefl _ (e ▸ hT : @LT.lt Nat _ Td Td)
    · exact h1 p hp
  · intro p hp
    rcases List.mem_cons.mp hp with rfl | hp
    · exact fun e => Nat.lt_irrefl _ (e ▸ hE : @LT.lt Nat _ E E)
    · exact h2 p hp
  · intro p hp
    rcases List.mem_cons.mp hp with rfl | hp
    · exact fun e => Nat.lt_irrefl _ (e ▸ hO : @LT.lt Nat _ O O)
    · exact h3 p hp
  · intro p hp b hb
    obtain ⟨r, hr, rfl⟩ := List.mem_map.mp hb
    rcases List.mem_append.mp hr with hr | hr
    · exact hoff p hp _ (List.mem_map.mpr ⟨r, List.mem_append.mpr (.inl hr), rfl⟩)
    · rcases List.mem_cons.mp hr with rfl | hr
      · exact hoff p hp _ (List.mem_map.mpr ⟨(O, o2), by simp, rfl⟩)
      · rcases List.mem_cons.mp hr with rfl | hr
        · have := hall p (by simp [hp])
          exact fun e => Nat.lt_irrefl _ (e ▸ this : @LT.lt Nat _ p.1 p.1)
        · exact hoff p hp _ (List.mem_map.mpr ⟨r, by simp [hr], rfl⟩)
  · intro p hp
    rw [List.push_toArray]
    simp only [List.mem_cons, List.mem_append] at hp ⊢
    rcases hp with h | h | h | h <;> simp [h]
  · intro p hp
    simp only [List.mem_cons, List.mem_append]
    simp [hp]
section
theorem wdM5x1 : True := by
  k_with "kall" => assumption
  trivial
theorem wdM5x2 : True := by
  k_with "call builtin:list.append" => (k_here; (with_reducible show wpAny _ _ (call (Value.builtin _) [Value.ref _, _]) _ _ _); k_dflt (refine' append_K ?k1 ?k2 ?k3 ?_ ?z; (case k1 => k_asm); (case k2 => k_asm); (case k3 => k_upd); (case z => k_asm); k_whole); intro h' F' N'; (try k_sweep))
  trivial
theorem emit_claim {w : World} {mean : ExcName → Option Value} {mg mb : PySem.Str → Option Value} {dp un : Nat} {gd : Option (List Code)} {cn : PySem.Str} {cs : Scope} {a : Addr} {ccd : Value} {cl : List (PySem.Str × Addr)} {outer : List Env} {A₀ : Around} {base h₀ : Heap} {L : Addr} {m : PySem.Str → Option Value} {s : Shared} {Q E : Value → Shared → Prop} {Tk Td S SD ST G E' O SE : Addr} {gv ev : List Value} {K : KT} {KR : KR} {so : Obj} {ng ne : Nat} {ret : Bool} {at' cd : Int} {ta ts tb tf tc : Tok} {st bk bf : PySem.Str} {dv lv : Value} {xt : PySem.Str} {tx : Tok} {ovs : List Value} {no : Nat} {rest : List (Addr × Obj)} {txt : List Nat}
   (B : Below A₀ base outer h₀) (F : Fr h₀ L s.heap m) (X : (Mine.top.heap_1 w.params).In h₀) (N : News h₀ L s.heap ((Tk, instObj 450 Td) :: (Td, tkD w K ST S O E' at' ta st ts bk tb dv bf tf cd tc lv) :: (S, instObj 287 SD) :: (SD, stD w KR G SE ret) :: (G, listOf gv.toArray ng) :: (E', listOf ev.toArray ne) :: (ST, so) :: (O, listOf ovs.toArray no) :: rest)) (T : Top q (looseW q []) mean mg mb h₀) (hk : cs.kind = .function) (hd : dp + 2 < recursionLimit) (hu : un + 16 < cLine)
   (D : Dis Tk Td S SD G E' ST rest) (DO : DisO Tk Td S SD G E' O ST rest) (hxl : xt.length ≤ 100) (htl : txt.length ≤ 100) (hdat : DatAll rest ovs (txt.map charD))
   (hret : ∀ (ovs' : List Value) (no' : Nat) (rest' : List (Addr × Obj)) (h' : Heap) (tk' : Nat), (∀ p ∈ rest, p ∈ rest') → DatAll rest' ovs' ((txt ++ xt.cps.toList).map charD) → Dis Tk Td S SD G E' ST rest' → DisO Tk Td S SD G E' O ST rest' → Fr h₀ L h' m → News h₀ L h' ((Tk, instObj 450 Td) :: (Td, tkD w K ST S O E' at' ta st ts bk tb dv bf tf cd tc lv) :: (S, instObj 287 SD) :: (SD, stD w KR G SE ret) :: (G, listOf gv.toArray ng) :: (E', listOf ev.toArray ne) :: (ST, so) :: (O, listOf ovs'.toArray no') :: rest') → Q .none { s with heap := h', toks := tk' })
    : wpAny (model rw'.row.toRowW.prog w) (ktrTop dp un gd cn cs L a ccd cl outer) (call (.ref 369) [.ref Tk, .str xt tx]) Q E s := by
  obtain ⟨a1, a2, a3, a4, a5, a6, b1, b2, b3, b4, b6, hdd, hde⟩ := id D
  obtain ⟨o1, o2, o3, o4, o5, o6, o7, hdo⟩ := id DO
  revert X
  k_fill
  intro X
  refine wpAny_call ?_
  k_dflt cell_enter
  k_with "pyIter str" => ((rename Fr _ _ _ _ => lF'); (rename News _ _ _ _ => lN'); (with_unfolding_all refine' text_loop2 [] (EmitJ [(Tk, instObj 450 Td), (Td, tkD w K ST S O E' at' ta st ts bk tb dv bf tf cd tc lv), (S, instObj 287 SD), (SD, stD w KR G SE ret), (G, listOf gv.toArray ng), (E', listOf ev.toArray ne), (ST, so)] Td E' O txt rest) (by rfl) lF' lN' ?kj ?kt ?kd); (case kj => exact ⟨ovs, no, rest, rfl, fun _ h => h, (by rw [List.append_nil]; exact hdat), hdd, hde, hdo⟩); (case' kt => (intro pre c post t u nx h tk own he hoff hJ F₁ N₁; obtain ⟨ovs', no', rest', rfl, hsub, hdat', hdd', hde', hdo'⟩ := hJ; (simp only [List.cons_append, List.nil_append] at N₁); (have q1 := off_tail hoff (b := O) (by simp) hdo'); (have hz : ovs'.toArray.size ≤ sizeLine := emit_size hdat' htl hxl he); (try k_fold))); (case' kd => (intro u nx h tk hJ F₁ N₁; obtain ⟨ovs', no', rest', rfl, hsub, hdat', hdd', hde', hdo'⟩ := hJ; (simp only [List.cons_append, List.nil_append] at N₁); (try k_fold))))
  k_steps
  case' kt => (all_goals (rename Fr _ _ _ _ => kF9; rename News _ _ _ _ => kN9; exact emit_end (x := PySem.Str.ofString "sign") (fx := [(Tk, instObj 450 Td), (Td, tkD w K ST S O E' at' ta st ts bk tb dv bf tf cd tc lv), (S, instObj 287 SD), (SD, stD w KR G SE ret), (G, listOf gv.toArray ng), (E', listOf ev.toArray ne), (ST, so)]) (o := listOf ovs'.toArray no') kF9 kN9 (by simp only [AllLt, List.cons_append, List.nil_append]; assumption) (by omega) (by omega) (by intro z h1 _; simp [h1]) hsub hdat' hdd' hde' hdo' hoff))
  all_goals (rename Fr h₀ L _ _ => kF9; rename News h₀ L _ _ => kN9; exact hret _ _ _ _ _ hsub hdat' ⟨a1, a2, a3, a4, a5, a6, b1, b2, b3, b4, b6, hdd', hde'⟩ ⟨o1, o2, o3, o4, o5, o6, o7, hdo'⟩ kF9 kN9)
end

theorem rsM6 : True := by
  k_with_none
  k_with "kne" => (refine neN ?_; (try dsimp only); first | with_reducible assumption | with_reducible exact Ne.symm (by with_reducible assumption) | (refine Nat.ne_of_lt ?_; (first | with_reducible assumption | with_reducible exact And.left (by with_reducible assumption) | with_reducible exact And.left (And.right (by with_reducible assumption)) | with_reducible exact And.left (And.right (And.right (by with_reducible assumption))) | with_reducible exact And.left (And.right (And.right (And.right (by with_reducible assumption)))) | with_reducible exact And.left (And.right (And.right (And.right (And.right (by with_reducible assumption))))) | with_reducible exact And.left (And.right (And.right (And.right (And.right (And.right (by with_reducible assumption)))))) | with_reducible exact And.left (And.right (And.right (And.right (And.right (And.right (And.right (by with_reducible assumption))))))) | with_reducible exact And.left (And.right (And.right (And.right (And.right (And.right (And.right (And.right (by with_reducible assumption)))))))) | with_reducible exact And.left (And.right (And.right (And.right (And.right (And.right (And.right (And.right (And.right (by with_reducible assumption))))))))) | with_reducible exact And.left (And.right (And.right (And.right (And.right (And.right (And.right (And.right (And.right (And.right (by with_reducible assumption)))))))))) | with_reducible exact And.left (And.right (And.right (And.right (And.right (And.right (And.right (And.right (And.right (And.right (And.right (by with_reducible assumption))))))))))) | with_reducible exact And.left (And.right (And.right (And.right (And.right (And.right (And.right (And.right (And.right (And.right (And.right (And.right (by with_reducible assumption)))))))))))) | with_reducible exact And.left (And.right (And.right (And.right (And.right (And.right (And.right (And.right (And.right (And.right (And.right (And.right (And.right (by with_reducible assumption))))))))))))) | with_reducible exact (And.right (by with_reducible assumption)) | with_reducible exact (And.right (And.right (by with_reducible assumption))) | with_reducible exact (And.right (And.right (And.right (by with_reducible assumption)))) | with_reducible exact (And.right (And.right (And.right (And.right (by with_reducible assumption))))) | with_reducible exact (And.right (And.right (And.right (And.right (And.right (by with_reducible assumption)))))) | with_reducible exact (And.right (And.right (And.right (And.right (And.right (And.right (by with_reducible assumption))))))))) | (refine Nat.ne_of_gt ?_; (first | with_reducible assumption | with_reducible exact And.left (by with_reducible assumption) | with_reducible exact And.left (And.right (by with_reducible assumption)) | with_reducible exact And.left (And.right (And.right (by with_reducible assumption))) | with_reducible exact And.left (And.right (And.right (And.right (by with_reducible assumption)))) | with_reducible exact And.left (And.right (And.right (And.right (And.right (by with_reducible assumption))))) | with_reducible exact And.left (And.right (And.right (And.right (And.right (And.right (by with_reducible assumption)))))) | with_reducible exact And.left (And.right (And.right (And.right (And.right (And.right (And.right (by with_reducible assumption))))))) | with_reducible exact And.left (And.right (And.right (And.right (And.right (And.right (And.right (And.right (by with_reducible assumption)))))))) | with_reducible exact And.left (And.right (And.right (And.right (And.right (And.right (And.right (And.right (And.right (by with_reducible assumption))))))))) | with_reducible exact And.left (And.right (And.right (And.right (And.right (And.right (And.right (And.right (And.right (And.right (by with_reducible assumption)))))))))) | with_reducible exact And.left (And.right (And.right (And.right (And.right (And.right (And.right (And.right (And.right (And.right (And.right (by with_reducible assumption))))))))))) | with_reducible exact And.left (And.right (And.right (And.right (And.right (And.right (And.right (And.right (And.right (And.right (And.right (And.right (by with_reducible assumption)))))))))))) | with_reducible exact And.left (And.right (And.right (And.right (And.right (And.right (And.right (And.right (And.right (And.right (And.right (And.right (And.right (by with_reducible assumption))))))))))))) | with_reducible exact (And.right (by with_reducible assumption)) | with_reducible exact (And.right (And.right (by with_reducible assumption))) | with_reducible exact (And.right (And.right (And.right (by with_reducible assumption)))) | with_reducible exact (And.right (And.right (And.right (And.right (by with_reducible assumption))))) | with_reducible exact (And.right (And.right (And.right (And.right (And.right (by with_reducible assumption)))))) | with_reducible exact (And.right (And.right (And.right (And.right (And.right (And.right (by with_reducible assumption))))))))) | omega)
  k_with "mcall" => ((with_reducible show wpAny _ _ (call (Value.ref (nat_lit 84)) [Value.int _ _]) _ _ _); k_dflt (refine' c1_claim ?k1 ?k2 ?k3 ?k4 ?k5 ?k6 ?k7 ?k8 ?kp ?_; (case k1 => k_asm); (case k2 => k_asm); (case k3 => k_asm); (case k4 => k_asm); (case k5 => k_asm); (case k6 => first | exact rfl | assumption); (case k7 => ktr_room); (case k8 => ktr_units); (case kp => omega)); intro t9 h9 tk9 F9 N9; (have hc19 := c1_room (by assumption) (by omega)); (try dsimp only); (try k_fold))
  k_with "mcall" => ((with_reducible show wpAny _ _ (call (Value.ref (nat_lit 91)) [Value.int _ _]) _ _ _); k_dflt (refine' numref_claim ?k1 ?k2 ?k3 ?k4 ?k5 ?k6 ?k7 ?k8 ?kp ?_; (case k1 => k_asm); (case k2 => k_asm); (case k3 => k_asm); (case k4 => k_asm); (case k5 => k_asm); (case k6 => first | exact rfl | assumption); (case k7 => ktr_room); (case k8 => ktr_units); (case kp => omega)); intro D9 o9 h9 tk9 P9 F9 N9 l9; (try k_lt l9); k_dflt (unfold PairIs at P9; rcases P9 with ⟨t19, c19, hf9, he9⟩ | ⟨t19, f9, t29, c19, hf9, he9⟩); all_goals ((subst he9); (try dsimp only); (try k_fold)))
  k_with "mcall" => ((with_reducible show wpAny _ _ (call (Value.ref (nat_lit 531)) [Value.int _ _]) _ _ _); k_dflt (refine' meant_claim ?k1 ?k2 ?k3 ?k4 ?k5 ?k6 ?k7 ?k8 ?kp ?_; (case k1 => k_asm); (case k2 => k_asm); (case k3 => k_asm); (case k4 => k_asm); (case k5 => k_asm); (case k6 => first | exact rfl | assumption); (case k7 => ktr_room); (case k8 => ktr_units); (case kp => omega)); intro D9 o9 h9 tk9 P9 F9 N9 l9; (try k_lt l9); k_dflt (unfold PairIs at P9; rcases P9 with ⟨t19, c19, hf9, he9⟩ | ⟨t19, f9, t29, c19, hf9, he9⟩); all_goals ((subst he9); (try dsimp only); (try k_fold)))
  trivial
structure KD where
  (a b c d e f g h : Tok)
noncomputable abbrev dfD (w : World) (K : KD) (vk vn vt : Value) (AT : Addr) : Obj :=
  dictOf [ent w (PySem.Str.ofString "kind") K.a vk, ent w (PySem.Str.ofString "name") K.b vn, ent w (PySem.Str.ofString "text") K.c vt, ent w (PySem.Str.ofString "public") K.d .none, ent w (PySem.Str.ofString "system") K.e .none,
    ent w (PySem.Str.ofString "is_quirks") K.f (.bool false), ent w (PySem.Str.ofString "is_closing") K.g (.bool false), ent w (PySem.Str.ofString "attrs") K.h (.ref AT)] 8
structure DisI (Tk Td S SD G E ST D DD AT O I : Addr) (rest : List (Addr × Obj)) : Prop where
  a1 : @Ne Nat Tk I
  a2 : @Ne Nat Td I
  a3 : @Ne Nat S I
  a4 : @Ne Nat SD I
  a5 : @Ne Nat G I
  a6 : @Ne Nat E I
  a7 : @Ne Nat ST I
  a8 : @Ne Nat D I
  a9 : @Ne Nat DD I
  b1 : @Ne Nat AT I
  b2 : @Ne Nat O I
  r : ∀ p ∈ rest, p.1 ≠ I
/-- where the text goes -/
inductive Sink (w : World) (Tk Td S SD G E O ST : Addr) (bk : PySem.Str) (dv : Value) (txt : List Nat) (rest : List (Addr × Obj)) : List (Addr × Obj) → Prop
  | out {ovs : List Value} {no : Nat} : isVal bk = false → DatAll rest ovs (txt.map charD) → DisO Tk Td S SD G E O ST rest → Sink w Tk Td S SD G E O ST bk dv txt rest ((O, listOf ovs.toArray no) :: rest)
  | val {D DD AT I : Addr} {K : KD} {vk vn vt : Value} {na ni no : Nat} {e1 v : PySem.Str} {t1 tv : Tok} : isVal bk = true → dv = .ref D → e1 = PySem.Str.ofString "" → v.cps.toList = 122 :: txt → DisI Tk Td S SD G E ST D DD AT O I rest →
      Sink w Tk Td S SD G E O ST bk dv txt rest ((D, instObj 506 DD) :: (DD, dfD w K vk vn vt AT) :: (AT, listOf #[.ref I] na) :: (I, listOf #[.str e1 t1, .str v tv, .bool true] ni) :: (O, listOf #[] no) :: rest)
theorem Dis.drop {Tk Td S SD G E ST : Addr} {all rest : List (Addr × Obj)} (D : Dis Tk Td S SD G E ST all) (h : ∀ p ∈ rest, p ∈ all) : Dis Tk Td S SD G E ST rest :=
  ⟨D.a1, D.a2, D.a3, D.a4, D.a5, D.a6, D.b1, D.b2, D.b3, D.b4, D.b6, fun p hp => D.d p (h p hp), fun p hp => D.e p (h p hp)⟩
theorem Dis.cons {Tk Td S SD G E ST : Addr} {rest : List (Addr × Obj)} {x : Addr × Obj} (D : Dis Tk Td S SD G E ST rest) (h1 : @Ne Nat Td x.1) (h2 : @Ne Nat E x.1) : Dis Tk Td S SD G E ST (x :: rest) :=
  ⟨D.a1, D.a2, D.a3, D.a4, D.a5, D.a6, D.b1, D.b2, D.b3, D.b4, D.b6, List.forall_mem_cons.mpr ⟨Ne.symm h1, D.d⟩, List.forall_mem_cons.mpr ⟨Ne.symm h2, D.e⟩⟩
section
theorem wdM6x1 : True := by
  k_with "kall" => assumption
  trivial
theorem flush_out {w : World} {mean : ExcName → Option Value} {mg mb : PySem.Str → Option Value} {dp un : Nat} {gd : Option (List Code)} {cn : PySem.Str} {cs : Scope} {a : Addr} {ccd : Value} {cl : List (PySem.Str × Addr)} {outer : List Env} {A₀ : Around} {base h₀ : Heap} {L : Addr} {m : PySem.Str → Option Value} {s : Shared} {Q E : Value → Shared → Prop} {Tk Td S SD ST G E' O SE : Addr} {gv ev : List Value} {K : KT} {KR : KR} {so : Obj} {ng ne : Nat} {ret : Bool} {at' cd : Int} {ta ts tb tf tc : Tok} {st bk bf : PySem.Str} {dv lv : Value} {rest : List (Addr × Obj)} {ovs : List Value} {no : Nat} {txt : List Nat}
   (B : Below A₀ base outer h₀) (F : Fr h₀ L s.heap m) (X : (Mine.top.heap_1 w.params).In h₀) (N : News h₀ L s.heap ((Tk, instObj 450 Td) :: (Td, tkD w K ST S O E' at' ta st ts bk tb dv bf tf cd tc lv) :: (S, instObj 287 SD) :: (SD, stD w KR G SE ret) :: (G, listOf gv.toArray ng) :: (E', listOf ev.toArray ne) :: (ST, so) :: (O, listOf ovs.toArray no) :: rest)) (T : Top q (looseW q []) mean mg mb h₀) (hk : cs.kind = .function) (hd : dp + 5 < recursionLimit) (hu : un + 40 < cLine)
   (D : Dis Tk Td S SD G E' ST rest) (DO : DisO Tk Td S SD G E' O ST rest) (hxl : bf.length ≤ 100) (htl : txt.length ≤ 100) (hdat : DatAll rest ovs (txt.map charD)) (hv : isVal bk = false)
   (hret : ∀ (ovs' : List Value) (no' : Nat) (rest' : List (Addr × Obj)) (tf' : Tok) (h' : Heap) (tk' : Nat), (∀ p ∈ rest, p ∈ rest') → DatAll rest' ovs' ((txt ++ bf.cps.toList).map charD) → Dis Tk Td S SD G E' ST rest' → DisO Tk Td S SD G E' O ST rest' → Fr h₀ L h' m → News h₀ L h' ((Tk, instObj 450 Td) :: (Td, tkD w K ST S O E' at' ta st ts bk tb dv (PySem.Str.ofString "") tf' cd tc lv) :: (S, instObj 287 SD) :: (SD, stD w KR G SE ret) :: (G, listOf gv.toArray ng) :: (E', listOf ev.toArray ne) :: (ST, so) :: (O, listOf ovs'.toArray no') :: rest') → Q .none { s with heap := h', toks := tk' })
    : wpAny (model rw'.row.toRowW.prog w) (ktrTop dp un gd cn cs L a ccd cl outer) (call (.ref 426) [.ref Tk]) Q E s := by
  obtain ⟨a1, a2, a3, a4, a5, a6, b1, b2, b3, b4, b6, hdd, hde⟩ := id D
  obtain ⟨o1, o2, o3, o4, o5, o6, o7, hdo⟩ := id DO
  have D1 := Dis.cons (x := (O, listOf ovs.toArray no)) D o2 o6
  have o22 : @Ne Nat O Td := Ne.symm o2
  revert X
  k_fill
  intro X
  refine wpAny_call ?_
  k_dflt cell_enter
  k_with "mcall" => ((with_reducible show wpAny _ _ (call (Value.ref (nat_lit 419)) _) _ _ _); k_dflt (refine' inval_claim ?k1 ?k2 ?k3 ?k4 ?k5 ?k6 ?k7 ?k8 ?kp ?_; (case k1 => k_asm); (case k2 => k_asm); (case k3 => k_asm); (case k4 => k_asm); (case k5 => k_asm); (case k6 => first | exact rfl | assumption); (case k7 => ktr_room); (case k8 => ktr_units); (case kp => assumption)); intro b9 h9 tk9 hb9 F9 N9; rw [hv] at hb9; subst hb9; (try dsimp only); (try k_fold))
  k_with "mcall" => ((with_reducible show wpAny _ _ (call (Value.ref (nat_lit 369)) _) _ _ _); k_dflt (refine' emit_claim ?k1 ?k2 ?k3 ?k4 ?k5 ?k6 ?k7 ?k8 ?kp ?kq ?kr ?ks ?kt ?_; (case k1 => k_asm); (case k2 => k_asm); (case k3 => k_asm); (case k4 => k_asm); (case k5 => k_asm); (case k6 => first | exact rfl | assumption); (case k7 => ktr_room); (case k8 => ktr_units); (case kp => assumption); (case kq => assumption); (case kr => assumption); (case ks => assumption); (case kt => assumption)); intro ovs9 no9 rest9 h9 tk9 hsub9 hdat9 D9 DO9 F9 N9; (have hdd9 := D9.d); (try dsimp only); (try k_fold))
  k_steps
  all_goals (rename Fr h₀ L _ _ => kF9; rename News h₀ L _ _ => kN9; exact hret _ _ _ _ _ _ hsub9 hdat9 D9 DO9 kF9 kN9)
theorem dis5 {b : Addr} {D DD AT I O : Addr} {o1 o2 o3 o4 o5 : Obj} {rest : List (Addr × Obj)} (h : ∀ p ∈ (D, o1) :: (DD, o2) :: (AT, o3) :: (I, o4) :: (O, o5) :: rest, p.1 ≠ b) :
    @Ne Nat D b ∧ @Ne Nat DD b ∧ @Ne Nat AT b ∧ @Ne Nat I b ∧ @Ne Nat O b ∧ (∀ p ∈ rest, p.1 ≠ b) := by
  simp only [List.forall_mem_cons] at h
  exact h
theorem flush_val {w : World} {mean : ExcName → Option Value} {mg mb : PySem.Str → Option Value} {dp un : Nat} {gd : Option (List Code)} {cn : PySem.Str} {cs : Scope} {a : Addr} {ccd : Value} {cl : List (PySem.Str × Addr)} {outer : List Env} {A₀ : Around} {base h₀ : Heap} {L : Addr} {m : PySem.Str → Option Value} {s : Shared} {Q E : Value → Shared → Prop} {Tk Td S SD ST G E' O SE : Addr} {gv ev : List Value} {K : KT} {KR : KR} {so : Obj} {ng ne : Nat} {ret : Bool} {at' cd : Int} {ta ts tb tf tc : Tok} {st bk bf : PySem.Str} {dv lv : Value} {rest : List (Addr × Obj)} {Da DD AT I : Addr} {KD : KD} {vk vn vt : Value} {na ni no : Nat} {e1 v : PySem.Str} {t1 tv tdv : Tok}
   (B : Below A₀ base outer h₀) (F : Fr h₀ L s.heap m) (X : (Mine.top.heap_1 w.params).In h₀) (N : News h₀ L s.heap ((Tk, instObj 450 Td) :: (Td, tkD w K ST S O E' at' ta st ts bk tb (.ref Da) bf tf cd tc lv) :: (S, instObj 287 SD) :: (SD, stD w KR G SE ret) :: (G, listOf gv.toArray ng) :: (E', listOf ev.toArray ne) :: (ST, so) :: (Da, instObj 506 DD) :: (DD, dfD w KD vk vn vt AT) :: (AT, listOf #[.ref I] na) :: (I, listOf #[.str e1 t1, .str v tv, .bool true] ni) :: (O, listOf #[] no) :: rest))
   (T : Top q (looseW q []) mean mg mb h₀) (hk : cs.kind = .function) (hd : dp + 5 < recursionLimit) (hu : un + 40 < cLine)
   (D : Dis Tk Td S SD G E' ST ((Da, instObj 506 DD) :: (DD, dfD w KD vk vn vt AT) :: (AT, listOf #[.ref I] na) :: (I, listOf #[.str e1 t1, .str v tv, .bool true] ni) :: (O, listOf #[] no) :: rest)) (DI : DisI Tk Td S SD G E' ST Da DD AT O I rest) (hxl : bf.length ≤ 100) (hvl : v.length ≤ 100) (hv : isVal bk = true)
   (hret : ∀ (tf' tv' : Tok) (ni' : Nat) (h' : Heap) (tk' : Nat), Fr h₀ L h' m → News h₀ L h' ((Tk, instObj 450 Td) :: (Td, tkD w K ST S O E' at' ta st ts bk tb (.ref Da) (PySem.Str.ofString "") tf' cd tc lv) :: (S, instObj 287 SD) :: (SD, stD w KR G SE ret) :: (G, listOf gv.toArray ng) :: (E', listOf ev.toArray ne) :: (ST, so) :: (Da, instObj 506 DD) :: (DD, dfD w KD vk vn vt AT) :: (AT, listOf #[.ref I] na) :: (I, listOf #[.str e1 t1, .str (v ++ bf) tv', .bool true] ni') :: (O, listOf #[] no) :: rest) → Q .none { s with heap := h', toks := tk' })
    : wpAny (model rw'.row.toRowW.prog w) (ktrTop dp un gd cn cs L a ccd cl outer) (call (.ref 426) [.ref Tk]) Q E s := by
  obtain ⟨a1, a2, a3, a4, a5, a6, b1, b2, b3, b4, b6, hdd, hde⟩ := id D
  obtain ⟨o1, o2, o3, o4, o5, o6, o7, o8, o9, o10, o11, hdo⟩ := id DI
  obtain ⟨x1, x2, x3, x4, x5, hdr⟩ := dis5 hdd
  revert X
  k_fill
  intro X
  refine wpAny_call ?_
  k_dflt cell_enter
  k_with "mcall" => ((with_reducible show wpAny _ _ (call (Value.ref (nat_lit 419)) _) _ _ _); k_dflt (refine' inval_claim ?k1 ?k2 ?k3 ?k4 ?k5 ?k6 ?k7 ?k8 ?kp ?_; (case k1 => k_asm); (case k2 => k_asm); (case k3 => k_asm); (case k4 => k_asm); (case k5 => k_asm); (case k6 => first | exact rfl | assumption); (case k7 => ktr_room); (case k8 => ktr_units); (case kp => assumption)); intro b9 h9 tk9 hb9 F9 N9; rw [hv] at hb9; subst hb9; (try dsimp only); (try k_fold))
  k_steps
  all_goals (rename Fr h₀ L _ _ => kF9; rename News h₀ L _ _ => kN9; exact hret _ _ ni _ _ kF9 kN9)
end
theorem Dis.keys {Tk Td S SD G E ST : Addr} {all all' : List (Addr × Obj)} (D : Dis Tk Td S SD G E ST all) (h : all'.map (·.1) = all.map (·.1)) : Dis Tk Td S SD G E ST all' := by
  have k : ∀ b, (∀ p ∈ all, p.1 ≠ b) → ∀ p ∈ all', p.1 ≠ b := by
    intro b hb p hp
    have : p.1 ∈ all.map (·.1) := h ▸ List.mem_map.mpr ⟨p, hp, rfl⟩
    obtain ⟨q, hq, e⟩ := List.mem_map.mp this
    exact e ▸ hb q hq
  exact ⟨D.a1, D.a2, D.a3, D.a4, D.a5, D.a6, D.b1, D.b2, D.b3, D.b4, D.b6, k _ D.d, k _ D.e⟩
theorem flush_claim {w : World} {mean : ExcName → Option Value} {mg mb : PySem.Str → Option Value} {dp un : Nat} {gd : Option (List Code)} {cn : PySem.Str} {cs : Scope} {a : Addr} {ccd : Value} {cl : List (PySem.Str × Addr)} {outer : List Env} {A₀ : Around} {base h₀ : Heap} {L : Addr} {m : PySem.Str → Option Value} {s : Shared} {Q E : Value → Shared → Prop} {Tk Td S SD ST G E' O SE : Addr} {gv ev : List Value} {K : KT} {KR : KR} {so : Obj} {ng ne : Nat} {ret : Bool} {at' cd : Int} {ta ts tb tf tc : Tok} {st bk bf : PySem.Str} {dv lv : Value} {rest : List (Addr × Obj)} {txt : List Nat} {all : List (Addr × Obj)} (B : Below A₀ base outer h₀) (F : Fr h₀ L s.heap m) (X : (Mine.top.heap_1 w.params).In h₀) (N : News h₀ L s.heap ((Tk, instObj 450 Td) :: (Td, tkD w K ST S O E' at' ta st ts bk tb dv bf tf cd tc lv) :: (S, instObj 287 SD) :: (SD, stD w KR G SE ret) :: (G, listOf gv.toArray ng) :: (E', listOf ev.toArray ne) :: (ST, so) :: all)) (T : Top q (looseW q []) mean mg mb h₀) (hk : cs.kind = .function) (hd : dp + 5 < recursionLimit) (hu : un + 40 < cLine) (D : Dis Tk Td S SD G E' ST all) (SK : Sink w Tk Td S SD G E' O ST bk dv txt rest all) (hxl : bf.length ≤ 50) (htl : txt.length ≤ 50)
   (hret : ∀ (all' rest' : List (Addr × Obj)) (tf' : Tok) (h' : Heap) (tk' : Nat), (∀ p ∈ rest, p ∈ rest') → Dis Tk Td S SD G E' ST all' → Sink w Tk Td S SD G E' O ST bk dv (txt ++ bf.cps.toList) rest' all' → Fr h₀ L h' m → News h₀ L h' ((Tk, instObj 450 Td) :: (Td, tkD w K ST S O E' at' ta st ts bk tb dv (PySem.Str.ofString "") tf' cd tc lv) :: (S, instObj 287 SD) :: (SD, stD w KR G SE ret) :: (G, listOf gv.toArray ng) :: (E', listOf ev.toArray ne) :: (ST, so) :: all') → Q .none { s with heap := h', toks := tk' })
    : wpAny (model rw'.row.toRowW.prog w) (ktrTop dp un gd cn cs L a ccd cl outer) (call (.ref 426) [.ref Tk]) Q E s := by
  cases SK with
  | out hv hdat DO =>
    exact flush_out B F X N T hk hd hu (D.drop fun p hp => .tail _ hp) DO (Nat.le_trans hxl (by decide)) (Nat.le_trans htl (by decide)) hdat hv fun ovs' no' rest' tf' h' tk' hs hd' D' DO' F' N' => hret _ _ _ _ _ hs (Dis.cons D' DO'.a2 DO'.a6) (.out hv hd' DO') F' N'
  | @val Da DD AT I KD vk vn vt na ni no e1 v t1 tv hv hdv he hvv DI =>
    subst hdv
    have hl : v.length ≤ 100 := by
      have : v.length = v.cps.toList.length := by simp [PySem.Str.length]
      rw [this, hvv, List.length_cons]; omega
    exact flush_val (dv := .none) (tdv := 0) B F X N T hk hd hu D DI (Nat.le_trans hxl (by decide)) hl hv fun tf' tv' ni' h' tk' F' N' => hret ((Da, _) :: (DD, _) :: (AT, _) :: (I, listOf #[.str e1 t1, .str (v ++ bf) tv', .bool true] ni') :: (O, _) :: rest) rest tf' h' tk' (fun _ h => h) (Dis.keys D rfl) (.val (v := v ++ bf) hv rfl he (by rw [PySem.Str.cps_append, Array.toList_append, hvv]; rfl) DI) F' N'

theorem rsM7 : True := by
  k_with_none
  k_with "kne" => (refine neN ?_; (try dsimp only); first | with_reducible assumption | with_reducible exact Ne.symm (by with_reducible assumption) | (refine Nat.ne_of_lt ?_; (first | with_reducible assumption | with_reducible exact And.left (by with_reducible assumption) | with_reducible exact And.left (And.right (by with_reducible assumption)) | with_reducible exact And.left (And.right (And.right (by with_reducible assumption))) | with_reducible exact And.left (And.right (And.right (And.right (by with_reducible assumption)))) | with_reducible exact And.left (And.right (And.right (And.right (And.right (by with_reducible assumption))))) | with_reducible exact And.left (And.right (And.right (And.right (And.right (And.right (by with_reducible assumption)))))) | with_reducible exact And.left (And.right (And.right (And.right (And.right (And.right (And.right (by with_reducible assumption))))))) | with_reducible exact And.left (And.right (And.right (And.right (And.right (And.right (And.right (And.right (by with_reducible assumption)))))))) | with_reducible exact And.left (And.right (And.right (And.right (And.right (And.right (And.right (And.right (And.right (by with_reducible assumption))))))))) | with_reducible exact And.left (And.right (And.right (And.right (And.right (And.right (And.right (And.right (And.right (And.right (by with_reducible assumption)))))))))) | with_reducible exact And.left (And.right (And.right (And.right (And.right (And.right (And.right (And.right (And.right (And.right (And.right (by with_reducible assumption))))))))))) | with_reducible exact And.left (And.right (And.right (And.right (And.right (And.right (And.right (And.right (And.right (And.right (And.right (And.right (by with_reducible assumption)))))))))))) | with_reducible exact And.left (And.right (And.right (And.right (And.right (And.right (And.right (And.right (And.right (And.right (And.right (And.right (And.right (by with_reducible assumption))))))))))))) | with_reducible exact (And.right (by with_reducible assumption)) | with_reducible exact (And.right (And.right (by with_reducible assumption))) | with_reducible exact (And.right (And.right (And.right (by with_reducible assumption)))) | with_reducible exact (And.right (And.right (And.right (And.right (by with_reducible assumption))))) | with_reducible exact (And.right (And.right (And.right (And.right (And.right (by with_reducible assumption)))))) | with_reducible exact (And.right (And.right (And.right (And.right (And.right (And.right (by with_reducible assumption))))))))) | (refine Nat.ne_of_gt ?_; (first | with_reducible assumption | with_reducible exact And.left (by with_reducible assumption) | with_reducible exact And.left (And.right (by with_reducible assumption)) | with_reducible exact And.left (And.right (And.right (by with_reducible assumption))) | with_reducible exact And.left (And.right (And.right (And.right (by with_reducible assumption)))) | with_reducible exact And.left (And.right (And.right (And.right (And.right (by with_reducible assumption))))) | with_reducible exact And.left (And.right (And.right (And.right (And.right (And.right (by with_reducible assumption)))))) | with_reducible exact And.left (And.right (And.right (And.right (And.right (And.right (And.right (by with_reducible assumption))))))) | with_reducible exact And.left (And.right (And.right (And.right (And.right (And.right (And.right (And.right (by with_reducible assumption)))))))) | with_reducible exact And.left (And.right (And.right (And.right (And.right (And.right (And.right (And.right (And.right (by with_reducible assumption))))))))) | with_reducible exact And.left (And.right (And.right (And.right (And.right (And.right (And.right (And.right (And.right (And.right (by with_reducible assumption)))))))))) | with_reducible exact And.left (And.right (And.right (And.right (And.right (And.right (And.right (And.right (And.right (And.right (And.right (by with_reducible assumption))))))))))) | with_reducible exact And.left (And.right (And.right (And.right (And.right (And.right (And.right (And.right (And.right (And.right (And.right (And.right (by with_reducible assumption)))))))))))) | with_reducible exact And.left (And.right (And.right (And.right (And.right (And.right (And.right (And.right (And.right (And.right (And.right (And.right (And.right (by with_reducible assumption))))))))))))) | with_reducible exact (And.right (by with_reducible assumption)) | with_reducible exact (And.right (And.right (by with_reducible assumption))) | with_reducible exact (And.right (And.right (And.right (by with_reducible assumption)))) | with_reducible exact (And.right (And.right (And.right (And.right (by with_reducible assumption))))) | with_reducible exact (And.right (And.right (And.right (And.right (And.right (by with_reducible assumption)))))) | with_reducible exact (And.right (And.right (And.right (And.right (And.right (And.right (by with_reducible assumption))))))))) | omega)
  k_with "mcall" => ((with_reducible show wpAny _ _ (call (Value.ref (nat_lit 84)) [Value.int _ _]) _ _ _); k_dflt (refine' c1_claim ?k1 ?k2 ?k3 ?k4 ?k5 ?k6 ?k7 ?k8 ?kp ?_; (case k1 => k_asm); (case k2 => k_asm); (case k3 => k_asm); (case k4 => k_asm); (case k5 => k_asm); (case k6 => first | exact rfl | assumption); (case k7 => ktr_room); (case k8 => ktr_units); (case kp => omega)); intro t9 h9 tk9 F9 N9; (have hc19 := c1_room (by assumption) (by omega)); (try dsimp only); (try k_fold))
  k_with "mcall" => ((with_reducible show wpAny _ _ (call (Value.ref (nat_lit 91)) [Value.int _ _]) _ _ _); k_dflt (refine' numref_claim ?k1 ?k2 ?k3 ?k4 ?k5 ?k6 ?k7 ?k8 ?kp ?_; (case k1 => k_asm); (case k2 => k_asm); (case k3 => k_asm); (case k4 => k_asm); (case k5 => k_asm); (case k6 => first | exact rfl | assumption); (case k7 => ktr_room); (case k8 => ktr_units); (case kp => omega)); intro D9 o9 h9 tk9 P9 F9 N9 l9; (try k_lt l9); k_dflt (unfold PairIs at P9; rcases P9 with ⟨t19, c19, hf9, he9⟩ | ⟨t19, f9, t29, c19, hf9, he9⟩); all_goals ((subst he9); (try dsimp only); (try k_fold)))
  k_with "mcall" => ((with_reducible show wpAny _ _ (call (Value.ref (nat_lit 531)) [Value.int _ _]) _ _ _); k_dflt (refine' meant_claim ?k1 ?k2 ?k3 ?k4 ?k5 ?k6 ?k7 ?k8 ?kp ?_; (case k1 => k_asm); (case k2 => k_asm); (case k3 => k_asm); (case k4 => k_asm); (case k5 => k_asm); (case k6 => first | exact rfl | assumption); (case k7 => ktr_room); (case k8 => ktr_units); (case kp => omega)); intro D9 o9 h9 tk9 P9 F9 N9 l9; (try k_lt l9); k_dflt (unfold PairIs at P9; rcases P9 with ⟨t19, c19, hf9, he9⟩ | ⟨t19, f9, t29, c19, hf9, he9⟩); all_goals ((subst he9); (try dsimp only); (try k_fold)))
  k_with "mcall" => ((with_reducible show wpAny _ _ (call (Value.ref (nat_lit 524)) [Value.int _ _, Value.int _ _]) _ _ _); k_dflt (refine' lawCode_claim ?k1 ?k2 ?k3 ?k4 ?k5 ?k6 ?k7 ?k8 ?kp ?kq ?_; (case k1 => k_asm); (case k2 => k_asm); (case k3 => k_asm); (case k4 => k_asm); (case k5 => k_asm); (case k6 => first | exact rfl | assumption); (case k7 => ktr_room); (case k8 => ktr_units); (case kp => with_reducible assumption); (case kq => with_reducible assumption)); intro c9 t9 h9 tk9 hlo9 hhi9 F9 N9; (try dsimp only); (try k_fold))
  k_with "mcall" => ((with_reducible show wpAny _ _ (call (Value.ref (nat_lit 538)) [Value.int _ _, Value.int _ _, Value.int _ _]) _ _ _); k_dflt (first | (refine' digits16_claim ?k1 ?k2 ?k3 ?k4 ?k5 ?k6 ?k7 ?k8 ?kp ?kq ?_; (case k1 => k_asm); (case k2 => k_asm); (case k3 => k_asm); (case k4 => k_asm); (case k5 => k_asm); (case k6 => first | exact rfl | assumption); (case k7 => ktr_room); (case k8 => ktr_units); (case kp => with_reducible assumption); (case kq => with_reducible assumption)) | (refine' digits10_claim ?k1 ?k2 ?k3 ?k4 ?k5 ?k6 ?k7 ?k8 ?kp ?kq ?_; (case k1 => k_asm); (case k2 => k_asm); (case k3 => k_asm); (case k4 => k_asm); (case k5 => k_asm); (case k6 => first | exact rfl | assumption); (case k7 => ktr_room); (case k8 => ktr_units); (case kp => with_reducible assumption); (case kq => with_reducible assumption))); intro d9 t9 h9 tk9 I9 E9 hl9 F9 N9; (try dsimp only); (try k_fold))
  trivial
noncomputable def digS (c : PySem.Str) : Bool := match c.cps.toList with | [x] => isDig 10 x | _ => false
noncomputable def hexS (c : PySem.Str) : Bool := match c.cps.toList with | [x] => isDig 16 x | _ => false
theorem one_sign {c : PySem.Str} (h : c.length ≤ 1) : c = ⟨#[]⟩ ∨ ∃ x, c = ⟨#[x]⟩ := by
  obtain ⟨⟨l⟩⟩ := c
  have h' : l.length ≤ 1 := h
  match l, h' with
  | [], _ => exact .inl rfl
  | [x], _ => exact .inr ⟨x, rfl⟩
theorem cmp1 {x y : Nat} : ([x] : List Nat) < [y] ↔ x < y := by simp [List.cons_lt_cons_iff]
theorem cmp0 {y : Nat} : ([] : List Nat) < [y] ↔ True := by simp
theorem cmp2 {y : Nat} : ([y] : List Nat) < [] ↔ False := by simp
theorem s0 : PySem.Str.ofString "0" = ⟨#[48]⟩ := by decide +kernel
theorem s9 : PySem.Str.ofString "9" = ⟨#[57]⟩ := by decide +kernel
theorem sA : PySem.Str.ofString "A" = ⟨#[65]⟩ := by decide +kernel
theorem sF : PySem.Str.ofString "F" = ⟨#[70]⟩ := by decide +kernel
theorem sa : PySem.Str.ofString "a" = ⟨#[97]⟩ := by decide +kernel
theorem sf : PySem.Str.ofString "f" = ⟨#[102]⟩ := by decide +kernel
theorem sz : PySem.Str.ofString "z" = ⟨#[122]⟩ := by decide +kernel
theorem hex_one {x : Nat} : hexS ⟨#[x]⟩ = isDig 16 x := rfl
theorem hex_nil : hexS ⟨#[]⟩ = false := rfl
theorem dig_one {x : Nat} : digS ⟨#[x]⟩ = isDig 10 x := rfl
theorem dig_nil : digS ⟨#[]⟩ = false := rfl
theorem is16 : ((16 : Int) == 16) = true := rfl
theorem is10 : ((10 : Int) == 16) = false := rfl
theorem ishex_claim {w : World} {mean : ExcName → Option Value} {mg mb : PySem.Str → Option Value} {dp un : Nat} {gd : Option (List Code)} {cn : PySem.Str} {cs : Scope} {a : Addr} {ccd : Value} {cl : List (PySem.Str × Addr)} {outer : List Env} {A₀ : Around} {base h₀ : Heap} {L : Addr} {m : PySem.Str → Option Value} {s : Shared} {Q E : Value → Shared → Prop} {news : List (Addr × Obj)} {c : PySem.Str} {t1 : Tok} (B : Below A₀ base outer h₀) (F : Fr h₀ L s.heap m) (X : (Mine.top.heap_1 w.params).In h₀) (N : News h₀ L s.heap news) (T : Top q (looseW q []) mean mg mb h₀) (hk : cs.kind = .function) (hd : dp + 2 < recursionLimit) (hu : un + 16 < cLine) (hc : c.length ≤ 1)
    (hret : ∀ (b : Bool) (h' : Heap) (tk' : Nat), b = hexS c → Fr h₀ L h' m → News h₀ L h' news → Q (.bool b) { s with heap := h', toks := tk' }) :
    wpAny (model rw'.row.toRowW.prog w) (ktrTop dp un gd cn cs L a ccd cl outer) (call (.ref 42) [.str c t1]) Q E s := by
  revert X
  k_fill
  intro X
  refine wpAny_call ?_
  k_dflt cell_enter
  k_steps
  all_goals (
    rename Fr h₀ L _ _ => kF9
    rename News h₀ L _ _ => kN9
    refine hret _ _ _ ?_ kF9 kN9
    clear kF9 kN9 hret F N X B T
    rcases one_sign hc with rfl | ⟨x, rfl⟩
    · simp only [s0, s9, sA, sF, sa, sf, cmp0, cmp1, cmp2, not_true_eq_false, hex_nil] at *
      try simp_all
    · simp only [s0, s9, sA, sF, sa, sf, cmp0, cmp1, cmp2, hex_one] at *
      rw [Bool.eq_iff_iff]; simp only [isDig, is16, is10, Bool.not_eq_true', decide_eq_true_eq, decide_eq_false_iff_not, Bool.or_eq_true, Bool.and_eq_true, true_and, false_and, Bool.false_eq_true, or_false]; omega)
theorem isdig_claim {w : World} {mean : ExcName → Option Value} {mg mb : PySem.Str → Option Value} {dp un : Nat} {gd : Option (List Code)} {cn : PySem.Str} {cs : Scope} {a : Addr} {ccd : Value} {cl : List (PySem.Str × Addr)} {outer : List Env} {A₀ : Around} {base h₀ : Heap} {L : Addr} {m : PySem.Str → Option Value} {s : Shared} {Q E : Value → Shared → Prop} {news : List (Addr × Obj)} {c : PySem.Str} {t1 : Tok} (B : Below A₀ base outer h₀) (F : Fr h₀ L s.heap m) (X : (Mine.top.heap_1 w.params).In h₀) (N : News h₀ L s.heap news) (T : Top q (looseW q []) mean mg mb h₀) (hk : cs.kind = .function) (hd : dp + 2 < recursionLimit) (hu : un + 16 < cLine) (hc : c.length ≤ 1)
    (hret : ∀ (b : Bool) (h' : Heap) (tk' : Nat), b = digS c → Fr h₀ L h' m → News h₀ L h' news → Q (.bool b) { s with heap := h', toks := tk' }) :
    wpAny (model rw'.row.toRowW.prog w) (ktrTop dp un gd cn cs L a ccd cl outer) (call (.ref 35) [.str c t1]) Q E s := by
  revert X
  k_fill
  intro X
  refine wpAny_call ?_
  k_dflt cell_enter
  k_steps
  all_goals (
    rename Fr h₀ L _ _ => kF9
    rename News h₀ L _ _ => kN9
    refine hret _ _ _ ?_ kF9 kN9
    clear kF9 kN9 hret F N X B T
    rcases one_sign hc with rfl | ⟨x, rfl⟩
    · simp only [s0, s9, sA, sF, sa, sf, cmp0, cmp1, cmp2, not_true_eq_false, dig_nil] at *
      try simp_all
    · simp only [s0, s9, sA, sF, sa, sf, cmp0, cmp1, cmp2, dig_one] at *
      rw [Bool.eq_iff_iff]; simp only [isDig, is16, is10, Bool.not_eq_true', decide_eq_true_eq, decide_eq_false_iff_not, Bool.or_eq_true, Bool.and_eq_true, true_and, false_and, Bool.false_eq_true, or_false]; omega)
theorem dval_claim {w : World} {mean : ExcName → Option Value} {mg mb : PySem.Str → Option Value} {dp un : Nat} {gd : Option (List Code)} {cn : PySem.Str} {cs : Scope} {a : Addr} {ccd : Value} {cl : List (PySem.Str × Addr)} {outer : List Env} {A₀ : Around} {base h₀ : Heap} {L : Addr} {m : PySem.Str → Option Value} {s : Shared} {Q E : Value → Shared → Prop} {news : List (Addr × Obj)} {x : Nat} {t1 : Tok} (B : Below A₀ base outer h₀) (F : Fr h₀ L s.heap m) (X : (Mine.top.heap_1 w.params).In h₀) (N : News h₀ L s.heap news) (T : Top q (looseW q []) mean mg mb h₀) (hk : cs.kind = .function) (hd : dp + 4 < recursionLimit) (hu : un + 32 < cLine) (hx : x < 0x110000)
    (hret : ∀ (t : Tok) (h' : Heap) (tk' : Nat), Fr h₀ L h' m → News h₀ L h' news → Q (.int (dval x) t) { s with heap := h', toks := tk' }) :
    wpAny (model rw'.row.toRowW.prog w) (ktrTop dp un gd cn cs L a ccd cl outer) (call (.ref 56) [.str ⟨#[x]⟩ t1]) Q E s := by
  revert X
  k_fill
  intro X
  refine wpAny_call ?_
  k_dflt cell_enter
  k_steps
  all_goals (
    rename Fr h₀ L _ _ => kF9
    rename News h₀ L _ _ => kN9
    refine cb_retI (x := dval x) hret ?_ kF9 kN9
    clear kF9 kN9 hret F N X B T
    simp only [s0, s9, sA, sF, sa, sf, sz, cmp0, cmp1, cmp2] at *
    unfold dval; (repeat (first | rw [if_pos (by omega)] | rw [if_neg (by omega)])); try omega)

theorem rsM8 : True := by
  k_with_none
  k_with "kne" => (refine neN ?_; (try dsimp only); first | with_reducible assumption | with_reducible exact Ne.symm (by with_reducible assumption) | (refine Nat.ne_of_lt ?_; (first | with_reducible assumption | with_reducible exact And.left (by with_reducible assumption) | with_reducible exact And.left (And.right (by with_reducible assumption)) | with_reducible exact And.left (And.right (And.right (by with_reducible assumption))) | with_reducible exact And.left (And.right (And.right (And.right (by with_reducible assumption)))) | with_reducible exact And.left (And.right (And.right (And.right (And.right (by with_reducible assumption))))) | with_reducible exact And.left (And.right (And.right (And.right (And.right (And.right (by with_reducible assumption)))))) | with_reducible exact And.left (And.right (And.right (And.right (And.right (And.right (And.right (by with_reducible assumption))))))) | with_reducible exact And.left (And.right (And.right (And.right (And.right (And.right (And.right (And.right (by with_reducible assumption)))))))) | with_reducible exact And.left (And.right (And.right (And.right (And.right (And.right (And.right (And.right (And.right (by with_reducible assumption))))))))) | with_reducible exact And.left (And.right (And.right (And.right (And.right (And.right (And.right (And.right (And.right (And.right (by with_reducible assumption)))))))))) | with_reducible exact And.left (And.right (And.right (And.right (And.right (And.right (And.right (And.right (And.right (And.right (And.right (by with_reducible assumption))))))))))) | with_reducible exact And.left (And.right (And.right (And.right (And.right (And.right (And.right (And.right (And.right (And.right (And.right (And.right (by with_reducible assumption)))))))))))) | with_reducible exact And.left (And.right (And.right (And.right (And.right (And.right (And.right (And.right (And.right (And.right (And.right (And.right (And.right (by with_reducible assumption))))))))))))) | with_reducible exact (And.right (by with_reducible assumption)) | with_reducible exact (And.right (And.right (by with_reducible assumption))) | with_reducible exact (And.right (And.right (And.right (by with_reducible assumption)))) | with_reducible exact (And.right (And.right (And.right (And.right (by with_reducible assumption))))) | with_reducible exact (And.right (And.right (And.right (And.right (And.right (by with_reducible assumption)))))) | with_reducible exact (And.right (And.right (And.right (And.right (And.right (And.right (by with_reducible assumption))))))))) | (refine Nat.ne_of_gt ?_; (first | with_reducible assumption | with_reducible exact And.left (by with_reducible assumption) | with_reducible exact And.left (And.right (by with_reducible assumption)) | with_reducible exact And.left (And.right (And.right (by with_reducible assumption))) | with_reducible exact And.left (And.right (And.right (And.right (by with_reducible assumption)))) | with_reducible exact And.left (And.right (And.right (And.right (And.right (by with_reducible assumption))))) | with_reducible exact And.left (And.right (And.right (And.right (And.right (And.right (by with_reducible assumption)))))) | with_reducible exact And.left (And.right (And.right (And.right (And.right (And.right (And.right (by with_reducible assumption))))))) | with_reducible exact And.left (And.right (And.right (And.right (And.right (And.right (And.right (And.right (by with_reducible assumption)))))))) | with_reducible exact And.left (And.right (And.right (And.right (And.right (And.right (And.right (And.right (And.right (by with_reducible assumption))))))))) | with_reducible exact And.left (And.right (And.right (And.right (And.right (And.right (And.right (And.right (And.right (And.right (by with_reducible assumption)))))))))) | with_reducible exact And.left (And.right (And.right (And.right (And.right (And.right (And.right (And.right (And.right (And.right (And.right (by with_reducible assumption))))))))))) | with_reducible exact And.left (And.right (And.right (And.right (And.right (And.right (And.right (And.right (And.right (And.right (And.right (And.right (by with_reducible assumption)))))))))))) | with_reducible exact And.left (And.right (And.right (And.right (And.right (And.right (And.right (And.right (And.right (And.right (And.right (And.right (And.right (by with_reducible assumption))))))))))))) | with_reducible exact (And.right (by with_reducible assumption)) | with_reducible exact (And.right (And.right (by with_reducible assumption))) | with_reducible exact (And.right (And.right (And.right (by with_reducible assumption)))) | with_reducible exact (And.right (And.right (And.right (And.right (by with_reducible assumption))))) | with_reducible exact (And.right (And.right (And.right (And.right (And.right (by with_reducible assumption)))))) | with_reducible exact (And.right (And.right (And.right (And.right (And.right (And.right (by with_reducible assumption))))))))) | omega)
  k_with "mcall" => ((with_reducible show wpAny _ _ (call (Value.ref (nat_lit 84)) [Value.int _ _]) _ _ _); k_dflt (refine' c1_claim ?k1 ?k2 ?k3 ?k4 ?k5 ?k6 ?k7 ?k8 ?kp ?_; (case k1 => k_asm); (case k2 => k_asm); (case k3 => k_asm); (case k4 => k_asm); (case k5 => k_asm); (case k6 => first | exact rfl | assumption); (case k7 => ktr_room); (case k8 => ktr_units); (case kp => omega)); intro t9 h9 tk9 F9 N9; (have hc19 := c1_room (by assumption) (by omega)); (try dsimp only); (try k_fold))
  k_with "mcall" => ((with_reducible show wpAny _ _ (call (Value.ref (nat_lit 91)) [Value.int _ _]) _ _ _); k_dflt (refine' numref_claim ?k1 ?k2 ?k3 ?k4 ?k5 ?k6 ?k7 ?k8 ?kp ?_; (case k1 => k_asm); (case k2 => k_asm); (case k3 => k_asm); (case k4 => k_asm); (case k5 => k_asm); (case k6 => first | exact rfl | assumption); (case k7 => ktr_room); (case k8 => ktr_units); (case kp => omega)); intro D9 o9 h9 tk9 P9 F9 N9 l9; (try k_lt l9); k_dflt (unfold PairIs at P9; rcases P9 with ⟨t19, c19, hf9, he9⟩ | ⟨t19, f9, t29, c19, hf9, he9⟩); all_goals ((subst he9); (try dsimp only); (try k_fold)))
  k_with "mcall" => ((with_reducible show wpAny _ _ (call (Value.ref (nat_lit 531)) [Value.int _ _]) _ _ _); k_dflt (refine' meant_claim ?k1 ?k2 ?k3 ?k4 ?k5 ?k6 ?k7 ?k8 ?kp ?_; (case k1 => k_asm); (case k2 => k_asm); (case k3 => k_asm); (case k4 => k_asm); (case k5 => k_asm); (case k6 => first | exact rfl | assumption); (case k7 => ktr_room); (case k8 => ktr_units); (case kp => omega)); intro D9 o9 h9 tk9 P9 F9 N9 l9; (try k_lt l9); k_dflt (unfold PairIs at P9; rcases P9 with ⟨t19, c19, hf9, he9⟩ | ⟨t19, f9, t29, c19, hf9, he9⟩); all_goals ((subst he9); (try dsimp only); (try k_fold)))
  k_with "mcall" => ((with_reducible show wpAny _ _ (call (Value.ref (nat_lit 524)) [Value.int _ _, Value.int _ _]) _ _ _); k_dflt (refine' lawCode_claim ?k1 ?k2 ?k3 ?k4 ?k5 ?k6 ?k7 ?k8 ?kp ?kq ?_; (case k1 => k_asm); (case k2 => k_asm); (case k3 => k_asm); (case k4 => k_asm); (case k5 => k_asm); (case k6 => first | exact rfl | assumption); (case k7 => ktr_room); (case k8 => ktr_units); (case kp => with_reducible assumption); (case kq => with_reducible assumption)); intro c9 t9 h9 tk9 hlo9 hhi9 F9 N9; (try dsimp only); (try k_fold))
  k_with "mcall" => ((with_reducible show wpAny _ _ (call (Value.ref (nat_lit 538)) [Value.int _ _, Value.int _ _, Value.int _ _]) _ _ _); k_dflt (first | (refine' digits16_claim ?k1 ?k2 ?k3 ?k4 ?k5 ?k6 ?k7 ?k8 ?kp ?kq ?_; (case k1 => k_asm); (case k2 => k_asm); (case k3 => k_asm); (case k4 => k_asm); (case k5 => k_asm); (case k6 => first | exact rfl | assumption); (case k7 => ktr_room); (case k8 => ktr_units); (case kp => with_reducible assumption); (case kq => with_reducible assumption)) | (refine' digits10_claim ?k1 ?k2 ?k3 ?k4 ?k5 ?k6 ?k7 ?k8 ?kp ?kq ?_; (case k1 => k_asm); (case k2 => k_asm); (case k3 => k_asm); (case k4 => k_asm); (case k5 => k_asm); (case k6 => first | exact rfl | assumption); (case k7 => ktr_room); (case k8 => ktr_units); (case kp => with_reducible assumption); (case kq => with_reducible assumption))); intro d9 t9 h9 tk9 I9 E9 hl9 F9 N9; (try dsimp only); (try k_fold))
  k_with "mcall" => ((with_reducible show wpAny _ _ (call (Value.ref (nat_lit 517)) [Value.ref _, Value.int _ _]) _ _ _); k_dflt (refine' pick_claim ?k1 ?k2 ?k3 ?k4 ?k5 ?k6 ?k7 ?k8 ?kt ?ke ?kp ?kq ?_; (case k1 => k_asm); (case k2 => k_asm); (case k3 => k_asm); (case k4 => k_asm); (case k5 => k_asm); (case k6 => first | exact rfl | assumption); (case k7 => ktr_room); (case k8 => ktr_units); (case kt => repeat' (first | exact Take1.head | apply Take1.tail)); (case ke => k_all); (case kp => decide); (case kq => intro v9; exact PyProof.noPylong_of_log2 (by decide +kernel))); intro r9 v9 t9 t99 c9 h9 tk9 hlo9 hhi9 F9 N9; (try dsimp only); (try k_fold))
  trivial
section
theorem wdM8x2 : True := by
  k_with "kall" => assumption
  trivial
theorem err_dis {Tk Td S SD G E ST Dn : Addr} {all : List (Addr × Obj)} {o o1 o2 o3 o4 o5 o6 o7 : Obj} (D : Dis Tk Td S SD G E ST all)
    (h : ∀ p ∈ (Tk, o1) :: (Td, o2) :: (S, o3) :: (SD, o4) :: (G, o5) :: (E, o6) :: (ST, o7) :: all, p.1 < Dn) : Dis Tk Td S SD G E ST ((Dn, o) :: all) := by
  have h2 : @LT.lt Nat _ Td Dn := h (Td, o2) (by simp)
  have h6 : @LT.lt Nat _ E Dn := h (E, o6) (by simp)
  exact Dis.cons D (Nat.ne_of_lt h2) (Nat.ne_of_lt h6)
theorem sink_push {w : World} {Tk Td S SD G E O ST Dn : Addr} {bk : PySem.Str} {dv : Value} {txt : List Nat} {rest all : List (Addr × Obj)} {o : Obj} (SK : Sink w Tk Td S SD G E O ST bk dv txt rest all) (h : ∀ p ∈ all, p.1 < Dn) :
    ∃ all', Sink w Tk Td S SD G E O ST bk dv txt ((Dn, o) :: rest) all' ∧ (∀ p ∈ all', p ∈ (Dn, o) :: all) := by
  cases SK with
  | @out ovs no hv hdat DO =>
    have hO : @LT.lt Nat _ O Dn := h (O, _) (.head _)
    refine ⟨_, .out (no := no) hv (DatAll.mono (fun p hp => .tail _ hp) hdat) ⟨DO.a1, DO.a2, DO.a3, DO.a4, DO.a5, DO.a6, DO.a7, List.forall_mem_cons.mpr ⟨Ne.symm (Nat.ne_of_lt hO), DO.r⟩⟩, ?_⟩
    intro p hp
    simp only [List.mem_cons] at hp ⊢
    rcases hp with h | h | h <;> simp [h]
  | @val Da DD AT I KD vk vn vt na ni no e1 v t1 tv hv hdv he hvv DI =>
    have hI : @LT.lt Nat _ I Dn := h (I, listOf #[.str e1 t1, .str v tv, .bool true] ni) (by simp)
    refine ⟨_, .val (DD := DD) (K := KD) (vk := vk) (vn := vn) (vt := vt) (na := na) (ni := ni) (no := no) (t1 := t1) (tv := tv) hv hdv he hvv ⟨DI.a1, DI.a2, DI.a3, DI.a4, DI.a5, DI.a6, DI.a7, DI.a8, DI.a9, DI.b1, DI.b2, List.forall_mem_cons.mpr ⟨Ne.symm (Nat.ne_of_lt hI), DI.r⟩⟩, ?_⟩
    intro p hp
    simp only [List.mem_cons] at hp ⊢
    rcases hp with h | h | h | h | h | h | h <;> simp [h]
theorem err_size {rest : List (Addr × Obj)} {ev : List Value} {errs : List Dat} (h : DatAll rest ev errs) (hl : errs.length ≤ 10) : ev.toArray.size ≤ sizeLine := by
  have := h.length
  rw [List.size_toArray, sizeLine_eq]; omega
theorem error2_claim {w : World} {mean : ExcName → Option Value} {mg mb : PySem.Str → Option Value} {dp un : Nat} {gd : Option (List Code)} {cn : PySem.Str} {cs : Scope} {a : Addr} {ccd : Value} {cl : List (PySem.Str × Addr)} {outer : List Env} {A₀ : Around} {base h₀ : Heap} {L : Addr} {m : PySem.Str → Option Value} {s : Shared} {Q E : Value → Shared → Prop} {Tk Td S SD ST G E' O SE : Addr} {gv ev : List Value} {K : KT} {KR : KR} {so : Obj} {ng ne : Nat} {ret : Bool} {at' cd : Int} {ta ts tb tf tc : Tok} {st bk bf : PySem.Str} {dv lv : Value} {x : PySem.Str} {tx : Tok} {rest : List (Addr × Obj)} {txt : List Nat} {errs : List Dat} {all : List (Addr × Obj)} (B : Below A₀ base outer h₀) (F : Fr h₀ L s.heap m) (X : (Mine.top.heap_1 w.params).In h₀) (N : News h₀ L s.heap ((Tk, instObj 450 Td) :: (Td, tkD w K ST S O E' at' ta st ts bk tb dv bf tf cd tc lv) :: (S, instObj 287 SD) :: (SD, stD w KR G SE ret) :: (G, listOf gv.toArray ng) :: (E', listOf ev.toArray ne) :: (ST, so) :: all)) (T : Top q (looseW q []) mean mg mb h₀) (hk : cs.kind = .function) (hd : dp + 2 < recursionLimit) (hu : un + 16 < cLine) (D : Dis Tk Td S SD G E' ST all) (SK : Sink w Tk Td S SD G E' O ST bk dv txt rest all) (hde : DatAll rest ev errs) (hel : errs.length ≤ 10)
   (hret : ∀ (ev' : List Value) (rest' all' : List (Addr × Obj)) (ne' : Nat) (h' : Heap) (tk' : Nat), Sink w Tk Td S SD G E' O ST bk dv txt rest' all' → Dis Tk Td S SD G E' ST all' → DatAll rest' ev' (errs ++ [errD x (at' - 1)]) → (∀ p ∈ rest, p ∈ rest') → Fr h₀ L h' m → News h₀ L h' ((Tk, instObj 450 Td) :: (Td, tkD w K ST S O E' at' ta st ts bk tb dv bf tf cd tc lv) :: (S, instObj 287 SD) :: (SD, stD w KR G SE ret) :: (G, listOf gv.toArray ng) :: (E', listOf ev'.toArray ne') :: (ST, so) :: all') → Q .none { s with heap := h', toks := tk' })
    : wpAny (model rw'.row.toRowW.prog w) (ktrTop dp un gd cn cs L a ccd cl outer) (call (.ref 348) [.ref Tk, .str x tx]) Q E s := by
  refine error_claim B F X N T hk hd hu D (err_size hde hel) fun Dn t1 t2 n k h' tk' hlt F' N' => ?_
  obtain ⟨all', SK', hs⟩ := sink_push (o := { cls := .type "tuple", data := .seq #[.str x t1, .int (at' - 1) t2] n }) SK (fun p hp => hlt p (by simp [hp]))
  have D1 := err_dis (o := { cls := .type "tuple", data := .seq #[.str x t1, .int (at' - 1) t2] n }) D hlt
  refine hret _ _ all' k h' tk' SK' (D1.drop hs) (DatAll.append (DatAll.mono (fun p hp => .tail _ hp) hde) (DatAll.one (dat_err (.head _)))) (fun p hp => .tail _ hp) F' (fun p hp => N' p ?_)
  simp only [List.mem_cons] at hp ⊢
  rcases hp with h | h | h | h | h | h | h | h
  all_goals first | (have := hs p h; simp only [List.mem_cons] at this; rcases this with q | q <;> simp [q]; done) | simp [h]
theorem wdM8x1 : True := by
  k_with "mcall" => ((with_reducible show wpAny _ _ (call (Value.ref (nat_lit 327)) _) _ _ _); k_dflt (refine' next_claim ?k1 ?k2 ?k3 ?k4 ?k5 ?k6 ?k7 ?k8 ?kD ?kS ?kL ?k0 ?_; (case k1 => k_asm); (case k2 => k_asm); (case k3 => k_asm); (case k4 => k_asm); (case k5 => k_asm); (case k6 => first | exact rfl | assumption); (case k7 => ktr_room); (case k8 => ktr_units); (case kD => assumption); (case kS => assumption); (case kL => assumption); (case k0 => assumption)); intro t9 ta9 h9 tk9 F9 N9; (try rw [hc]); (try dsimp only); (try k_fold))
  k_with "mcall" => ((with_reducible show wpAny _ _ (call (Value.ref (nat_lit 341)) _) _ _ _); k_dflt (refine' again_claim ?k1 ?k2 ?k3 ?k4 ?k5 ?k6 ?k7 ?k8 ?kD ?_; (case k1 => k_asm); (case k2 => k_asm); (case k3 => k_asm); (case k4 => k_asm); (case k5 => k_asm); (case k6 => first | exact rfl | assumption); (case k7 => ktr_room); (case k8 => ktr_units); (case kD => assumption)); intro ta9 ts9 h9 tk9 F9 N9; (try dsimp only); (try k_fold))
  k_with "mcall" => ((with_reducible show wpAny _ _ (call (Value.ref (nat_lit 348)) _) _ _ _); k_dflt (refine' error2_claim ?k1 ?k2 ?k3 ?k4 ?k5 ?k6 ?k7 ?k8 ?kD ?kS ?kE ?kL ?_; (case k1 => k_asm); (case k2 => k_asm); (case k3 => k_asm); (case k4 => k_asm); (case k5 => k_asm); (case k6 => first | exact rfl | assumption); (case k7 => ktr_room); (case k8 => ktr_units); (case kD => assumption); (case kS => assumption); (case kE => assumption); (case kL => assumption)); intro ev9 rest9 all9 ne9 h9 tk9 SK9 D9 hde9 hsub9 F9 N9; (have hdd9 := D9.d); (try dsimp only); (try k_fold))
  k_with "mcall" => ((with_reducible show wpAny _ _ (call (Value.ref (nat_lit 426)) _) _ _ _); k_dflt (refine' flush_claim ?k1 ?k2 ?k3 ?k4 ?k5 ?k6 ?k7 ?k8 ?kD ?kS ?kE ?kL ?_; (case k1 => k_asm); (case k2 => k_asm); (case k3 => k_asm); (case k4 => k_asm); (case k5 => k_asm); (case k6 => first | exact rfl | assumption); (case k7 => ktr_room); (case k8 => ktr_units); (case kD => assumption); (case kS => assumption); (case kE => assumption); (case kL => assumption)); intro all8 rest8 tf8 h8 tk8 hsub8 D8 SK8 F8 N8; (have hdd8 := D8.d); (try dsimp only); (try k_fold))
  k_with "mcall" => ((with_reducible show wpAny _ _ (call (Value.ref (nat_lit 42)) _) _ _ _); k_dflt (refine' ishex_claim ?k1 ?k2 ?k3 ?k4 ?k5 ?k6 ?k7 ?k8 ?kC ?_; (case k1 => k_asm); (case k2 => k_asm); (case k3 => k_asm); (case k4 => k_asm); (case k5 => k_asm); (case k6 => first | exact rfl | assumption); (case k7 => ktr_room); (case k8 => ktr_units); (case kC => first | assumption | decide)); intro b9 h9 tk9 hb9 F9 N9; rw [hfit] at hb9; subst hb9; (try dsimp only); (try k_fold))
  k_with "mcall" => ((with_reducible show wpAny _ _ (call (Value.ref (nat_lit 35)) _) _ _ _); k_dflt (refine' isdig_claim ?k1 ?k2 ?k3 ?k4 ?k5 ?k6 ?k7 ?k8 ?kC ?_; (case k1 => k_asm); (case k2 => k_asm); (case k3 => k_asm); (case k4 => k_asm); (case k5 => k_asm); (case k6 => first | exact rfl | assumption); (case k7 => ktr_room); (case k8 => ktr_units); (case kC => first | assumption | decide)); intro b9 h9 tk9 hb9 F9 N9; rw [hfit] at hb9; subst hb9; (try dsimp only); (try k_fold))
  k_with "mcall" => ((with_reducible show wpAny _ _ (call (Value.ref (nat_lit 56)) _) _ _ _); k_dflt (refine' dval_claim ?k1 ?k2 ?k3 ?k4 ?k5 ?k6 ?k7 ?k8 ?kC ?_; (case k1 => k_asm); (case k2 => k_asm); (case k3 => k_asm); (case k4 => k_asm); (case k5 => k_asm); (case k6 => first | exact rfl | assumption); (case k7 => ktr_room); (case k8 => ktr_units); (case kC => assumption)); intro t9 h9 tk9 F9 N9; (try dsimp only); (try k_fold))
  trivial
theorem wdM8x3 : True := by
  k_with "eval Call" => (k_here; k_dflt (refine Call_ ?_))
  trivial
theorem wdM8x4 : True := by
  k_with "compareOp NotIn str ref" => (k_here; k_dflt (first | refine kdg_notin (knd := PySem.strKind _ _) (by k_asm) (by k_mem) (by k_asm) (by k_asm) (strKind_is _ _ _ _) true (by rfl) ?_ | refine kdg_notin (knd := PySem.strKind _ _) (by k_asm) (by k_mem) (by k_asm) (by k_asm) (strKind_is _ _ _ _) false (by rfl) ?_); (try dsimp only [Bool.not_true, Bool.not_false]))
  trivial
theorem wdM8x5 : True := by
  k_with "subscriptTail" => (k_here; (with_reducible show wpAny _ _ (subscriptTail _ _ (Value.ref _) (Value.str _ _)) _ _ _); k_dflt (refine kda_item (knd := PySem.strKind _ _) (by k_asm) (by k_mem) (by k_asm) (strKind_is _ _ _ _) (by rfl) ?_))
  trivial
end

theorem rsN8 : True := by
  k_with_none
  k_with "kne" => (refine neN ?_; (try dsimp only); first | with_reducible assumption | with_reducible exact Ne.symm (by with_reducible assumption) | (refine Nat.ne_of_lt ?_; (first | with_reducible assumption | with_reducible exact And.left (by with_reducible assumption) | with_reducible exact And.left (And.right (by with_reducible assumption)) | with_reducible exact And.left (And.right (And.right (by with_reducible assumption))) | with_reducible exact And.left (And.right (And.right (And.right (by with_reducible assumption)))) | with_reducible exact And.left (And.right (And.right (And.right (And.right (by with_reducible assumption))))) | with_reducible exact And.left (And.right (And.right (And.right (And.right (And.right (by with_reducible assumption)))))) | with_reducible exact And.left (And.right (And.right (And.right (And.right (And.right (And.right (by with_reducible assumption))))))) | with_reducible exact And.left (And.right (And.right (And.right (And.right (And.right (And.right (And.right (by with_reducible assumption)))))))) | with_reducible exact And.left (And.right (And.right (And.right (And.right (And.right (And.right (And.right (And.right (by with_reducible assumption))))))))) | with_reducible exact And.left (And.right (And.right (And.right (And.right (And.right (And.right (And.right (And.right (And.right (by with_reducible assumption)))))))))) | with_reducible exact And.left (And.right (And.right (And.right (And.right (And.right (And.right (And.right (And.right (And.right (And.right (by with_reducible assumption))))))))))) | with_reducible exact And.left (And.right (And.right (And.right (And.right (And.right (And.right (And.right (And.right (And.right (And.right (And.right (by with_reducible assumption)))))))))))) | with_reducible exact And.left (And.right (And.right (And.right (And.right (And.right (And.right (And.right (And.right (And.right (And.right (And.right (And.right (by with_reducible assumption))))))))))))) | with_reducible exact (And.right (by with_reducible assumption)) | with_reducible exact (And.right (And.right (by with_reducible assumption))) | with_reducible exact (And.right (And.right (And.right (by with_reducible assumption)))) | with_reducible exact (And.right (And.right (And.right (And.right (by with_reducible assumption))))) | with_reducible exact (And.right (And.right (And.right (And.right (And.right (by with_reducible assumption)))))) | with_reducible exact (And.right (And.right (And.right (And.right (And.right (And.right (by with_reducible assumption))))))))) | (refine Nat.ne_of_gt ?_; (first | with_reducible assumption | with_reducible exact And.left (by with_reducible assumption) | with_reducible exact And.left (And.right (by with_reducible assumption)) | with_reducible exact And.left (And.right (And.right (by with_reducible assumption))) | with_reducible exact And.left (And.right (And.right (And.right (by with_reducible assumption)))) | with_reducible exact And.left (And.right (And.right (And.right (And.right (by with_reducible assumption))))) | with_reducible exact And.left (And.right (And.right (And.right (And.right (And.right (by with_reducible assumption)))))) | with_reducible exact And.left (And.right (And.right (And.right (And.right (And.right (And.right (by with_reducible assumption))))))) | with_reducible exact And.left (And.right (And.right (And.right (And.right (And.right (And.right (And.right (by with_reducible assumption)))))))) | with_reducible exact And.left (And.right (And.right (And.right (And.right (And.right (And.right (And.right (And.right (by with_reducible assumption))))))))) | with_reducible exact And.left (And.right (And.right (And.right (And.right (And.right (And.right (And.right (And.right (And.right (by with_reducible assumption)))))))))) | with_reducible exact And.left (And.right (And.right (And.right (And.right (And.right (And.right (And.right (And.right (And.right (And.right (by with_reducible assumption))))))))))) | with_reducible exact And.left (And.right (And.right (And.right (And.right (And.right (And.right (And.right (And.right (And.right (And.right (And.right (by with_reducible assumption)))))))))))) | with_reducible exact And.left (And.right (And.right (And.right (And.right (And.right (And.right (And.right (And.right (And.right (And.right (And.right (And.right (by with_reducible assumption))))))))))))) | with_reducible exact (And.right (by with_reducible assumption)) | with_reducible exact (And.right (And.right (by with_reducible assumption))) | with_reducible exact (And.right (And.right (And.right (by with_reducible assumption)))) | with_reducible exact (And.right (And.right (And.right (And.right (by with_reducible assumption))))) | with_reducible exact (And.right (And.right (And.right (And.right (And.right (by with_reducible assumption)))))) | with_reducible exact (And.right (And.right (And.right (And.right (And.right (And.right (by with_reducible assumption))))))))) | omega)
  k_with "mcall" => ((with_reducible show wpAny _ _ (call (Value.ref (nat_lit 84)) [Value.int _ _]) _ _ _); k_dflt (refine' c1_claim ?k1 ?k2 ?k3 ?k4 ?k5 ?k6 ?k7 ?k8 ?kp ?_; (case k1 => k_asm); (case k2 => k_asm); (case k3 => k_asm); (case k4 => k_asm); (case k5 => k_asm); (case k6 => first | exact rfl | assumption); (case k7 => ktr_room); (case k8 => ktr_units); (case kp => omega)); intro t9 h9 tk9 F9 N9; (have hc19 := c1_room (by assumption) (by omega)); (try dsimp only); (try k_fold))
  k_with "mcall" => ((with_reducible show wpAny _ _ (call (Value.ref (nat_lit 91)) [Value.int _ _]) _ _ _); k_dflt (refine' numref_claim ?k1 ?k2 ?k3 ?k4 ?k5 ?k6 ?k7 ?k8 ?kp ?_; (case k1 => k_asm); (case k2 => k_asm); (case k3 => k_asm); (case k4 => k_asm); (case k5 => k_asm); (case k6 => first | exact rfl | assumption); (case k7 => ktr_room); (case k8 => ktr_units); (case kp => omega)); intro D9 o9 h9 tk9 P9 F9 N9 l9; (try k_lt l9); k_dflt (unfold PairIs at P9; rcases P9 with ⟨t19, c19, hf9, he9⟩ | ⟨t19, f9, t29, c19, hf9, he9⟩); all_goals ((subst he9); (try dsimp only); (try k_fold)))
  k_with "mcall" => ((with_reducible show wpAny _ _ (call (Value.ref (nat_lit 531)) [Value.int _ _]) _ _ _); k_dflt (refine' meant_claim ?k1 ?k2 ?k3 ?k4 ?k5 ?k6 ?k7 ?k8 ?kp ?_; (case k1 => k_asm); (case k2 => k_asm); (case k3 => k_asm); (case k4 => k_asm); (case k5 => k_asm); (case k6 => first | exact rfl | assumption); (case k7 => ktr_room); (case k8 => ktr_units); (case kp => omega)); intro D9 o9 h9 tk9 P9 F9 N9 l9; (try k_lt l9); k_dflt (unfold PairIs at P9; rcases P9 with ⟨t19, c19, hf9, he9⟩ | ⟨t19, f9, t29, c19, hf9, he9⟩); all_goals ((subst he9); (try dsimp only); (try k_fold)))
  k_with "mcall" => ((with_reducible show wpAny _ _ (call (Value.ref (nat_lit 524)) [Value.int _ _, Value.int _ _]) _ _ _); k_dflt (refine' lawCode_claim ?k1 ?k2 ?k3 ?k4 ?k5 ?k6 ?k7 ?k8 ?kp ?kq ?_; (case k1 => k_asm); (case k2 => k_asm); (case k3 => k_asm); (case k4 => k_asm); (case k5 => k_asm); (case k6 => first | exact rfl | assumption); (case k7 => ktr_room); (case k8 => ktr_units); (case kp => with_reducible assumption); (case kq => with_reducible assumption)); intro c9 t9 h9 tk9 hlo9 hhi9 F9 N9; (try dsimp only); (try k_fold))
  k_with "mcall" => ((with_reducible show wpAny _ _ (call (Value.ref (nat_lit 538)) [Value.int _ _, Value.int _ _, Value.int _ _]) _ _ _); k_dflt (first | (refine' digits16_claim ?k1 ?k2 ?k3 ?k4 ?k5 ?k6 ?k7 ?k8 ?kp ?kq ?_; (case k1 => k_asm); (case k2 => k_asm); (case k3 => k_asm); (case k4 => k_asm); (case k5 => k_asm); (case k6 => first | exact rfl | assumption); (case k7 => ktr_room); (case k8 => ktr_units); (case kp => with_reducible assumption); (case kq => with_reducible assumption)) | (refine' digits10_claim ?k1 ?k2 ?k3 ?k4 ?k5 ?k6 ?k7 ?k8 ?kp ?kq ?_; (case k1 => k_asm); (case k2 => k_asm); (case k3 => k_asm); (case k4 => k_asm); (case k5 => k_asm); (case k6 => first | exact rfl | assumption); (case k7 => ktr_room); (case k8 => ktr_units); (case kp => with_reducible assumption); (case kq => with_reducible assumption))); intro d9 t9 h9 tk9 I9 E9 hl9 F9 N9; (try dsimp only); (try k_fold))
  k_with "mcall" => ((with_reducible show wpAny _ _ (call (Value.ref (nat_lit 517)) [Value.ref _, Value.int _ _]) _ _ _); k_dflt (refine' pick_claim ?k1 ?k2 ?k3 ?k4 ?k5 ?k6 ?k7 ?k8 ?kt ?ke ?kp ?kq ?_; (case k1 => k_asm); (case k2 => k_asm); (case k3 => k_asm); (case k4 => k_asm); (case k5 => k_asm); (case k6 => first | exact rfl | assumption); (case k7 => ktr_room); (case k8 => ktr_units); (case kt => repeat' (first | exact Take1.head | apply Take1.tail)); (case ke => k_all); (case kp => decide); (case kq => intro v9; exact PyProof.noPylong_of_log2 (by decide +kernel))); intro r9 v9 t9 t99 c9 h9 tk9 hlo9 hhi9 F9 N9; (try dsimp only); (try k_fold))
  k_with "mcall" => ((with_reducible show wpAny _ _ (call (Value.ref (nat_lit 327)) _) _ _ _); k_dflt (refine' next_claim ?k1 ?k2 ?k3 ?k4 ?k5 ?k6 ?k7 ?k8 ?kD ?kS ?kL ?k0 ?_; (case k1 => k_asm); (case k2 => k_asm); (case k3 => k_asm); (case k4 => k_asm); (case k5 => k_asm); (case k6 => first | exact rfl | assumption); (case k7 => ktr_room); (case k8 => ktr_units); (case kD => assumption); (case kS => assumption); (case kL => assumption); (case k0 => assumption)); intro t9 ta9 h9 tk9 F9 N9; (try rw [hc]); (try dsimp only); (try k_fold))
  k_with "mcall" => ((with_reducible show wpAny _ _ (call (Value.ref (nat_lit 341)) _) _ _ _); k_dflt (refine' again_claim ?k1 ?k2 ?k3 ?k4 ?k5 ?k6 ?k7 ?k8 ?kD ?_; (case k1 => k_asm); (case k2 => k_asm); (case k3 => k_asm); (case k4 => k_asm); (case k5 => k_asm); (case k6 => first | exact rfl | assumption); (case k7 => ktr_room); (case k8 => ktr_units); (case kD => assumption)); intro ta9 ts9 h9 tk9 F9 N9; (try dsimp only); (try k_fold))
  k_with "mcall" => ((with_reducible show wpAny _ _ (call (Value.ref (nat_lit 348)) _) _ _ _); k_dflt (refine' error2_claim ?k1 ?k2 ?k3 ?k4 ?k5 ?k6 ?k7 ?k8 ?kD ?kS ?kE ?kL ?_; (case k1 => k_asm); (case k2 => k_asm); (case k3 => k_asm); (case k4 => k_asm); (case k5 => k_asm); (case k6 => first | exact rfl | assumption); (case k7 => ktr_room); (case k8 => ktr_units); (case kD => assumption); (case kS => assumption); (case kE => assumption); (case kL => assumption)); intro ev9 rest9 all9 ne9 h9 tk9 SK9 D9 hde9 hsub9 F9 N9; (have hdd9 := D9.d); (try dsimp only); (try k_fold))
  k_with "mcall" => ((with_reducible show wpAny _ _ (call (Value.ref (nat_lit 426)) _) _ _ _); k_dflt (refine' flush_claim ?k1 ?k2 ?k3 ?k4 ?k5 ?k6 ?k7 ?k8 ?kD ?kS ?kE ?kL ?_; (case k1 => k_asm); (case k2 => k_asm); (case k3 => k_asm); (case k4 => k_asm); (case k5 => k_asm); (case k6 => first | exact rfl | assumption); (case k7 => ktr_room); (case k8 => ktr_units); (case kD => assumption); (case kS => assumption); (case kE => assumption); (case kL => assumption)); intro all8 rest8 tf8 h8 tk8 hsub8 D8 SK8 F8 N8; (have hdd8 := D8.d); (try dsimp only); (try k_fold))
  k_with "mcall" => ((with_reducible show wpAny _ _ (call (Value.ref (nat_lit 42)) _) _ _ _); k_dflt (refine' ishex_claim ?k1 ?k2 ?k3 ?k4 ?k5 ?k6 ?k7 ?k8 ?kC ?_; (case k1 => k_asm); (case k2 => k_asm); (case k3 => k_asm); (case k4 => k_asm); (case k5 => k_asm); (case k6 => first | exact rfl | assumption); (case k7 => ktr_room); (case k8 => ktr_units); (case kC => first | assumption | decide)); intro b9 h9 tk9 hb9 F9 N9; rw [hfit] at hb9; subst hb9; (try dsimp only); (try k_fold))
  k_with "mcall" => ((with_reducible show wpAny _ _ (call (Value.ref (nat_lit 35)) _) _ _ _); k_dflt (refine' isdig_claim ?k1 ?k2 ?k3 ?k4 ?k5 ?k6 ?k7 ?k8 ?kC ?_; (case k1 => k_asm); (case k2 => k_asm); (case k3 => k_asm); (case k4 => k_asm); (case k5 => k_asm); (case k6 => first | exact rfl | assumption); (case k7 => ktr_room); (case k8 => ktr_units); (case kC => first | assumption | decide)); intro b9 h9 tk9 hb9 F9 N9; rw [hfit] at hb9; subst hb9; (try dsimp only); (try k_fold))
  k_with "mcall" => ((with_reducible show wpAny _ _ (call (Value.ref (nat_lit 56)) _) _ _ _); k_dflt (refine' dval_claim ?k1 ?k2 ?k3 ?k4 ?k5 ?k6 ?k7 ?k8 ?kC ?_; (case k1 => k_asm); (case k2 => k_asm); (case k3 => k_asm); (case k4 => k_asm); (case k5 => k_asm); (case k6 => first | exact rfl | assumption); (case k7 => ktr_room); (case k8 => ktr_units); (case kC => assumption)); intro t9 h9 tk9 F9 N9; (try dsimp only); (try k_fold))
  k_with "eval Call" => (k_here; k_dflt (refine Call_ ?_))
  k_with "compareOp NotIn str ref" => (k_here; k_dflt (first | refine kdg_notin (knd := PySem.strKind _ _) (by k_asm) (by k_mem) (by k_asm) (by k_asm) (strKind_is _ _ _ _) true (by rfl) ?_ | refine kdg_notin (knd := PySem.strKind _ _) (by k_asm) (by k_mem) (by k_asm) (by k_asm) (strKind_is _ _ _ _) false (by rfl) ?_); (try dsimp only [Bool.not_true, Bool.not_false]))
  k_with "subscriptTail" => (k_here; (with_reducible show wpAny _ _ (subscriptTail _ _ (Value.ref _) (Value.str _ _)) _ _ _); k_dflt (refine kda_item (knd := PySem.strKind _ _) (by k_asm) (by k_mem) (by k_asm) (strKind_is _ _ _ _) (by rfl) ?_))
  trivial
section
theorem wdN8x1 : True := by
  k_with "kall" => assumption
  trivial
theorem wdN8x2 : True := by
  k_with "callWith ref" => (k_here; k_extra "mcw")
  trivial
theorem wdN8x3 : True := by
  k_with "compareOp NotIn str ref" => (k_here; k_dflt (refine kdg_notin (knd := PySem.strKind _ _) (by k_asm) (by k_mem) (by k_asm) (by k_asm) (strKind_is _ _ _ _) true (by assumption) ?_); (try dsimp only [Bool.not_true, Bool.not_false]))
  trivial
theorem wdN8x4 : True := by
  k_with "getItem ref str" => (k_here; k_dflt (refine wpAny_getItem_of (knd := PySem.strKind _ _) (strKind_is _ _ _ _) (kda_dict (by k_asm) (by k_mem) (by k_asm)).mapOf (by assumption) ?_))
  trivial
theorem step_gen {w : World} {mean : ExcName → Option Value} {mg mb : PySem.Str → Option Value} {dp un : Nat} {gd : Option (List Code)} {cn : PySem.Str} {cs : Scope} {a : Addr} {ccd : Value} {cl : List (PySem.Str × Addr)} {outer : List Env} {A₀ : Around} {base h₀ : Heap} {L : Addr} {m : PySem.Str → Option Value} {s : Shared} {Q E : Value → Shared → Prop} {Tk Td S SD ST G E' O SE : Addr} {gv ev : List Value} {K : KT} {KR : KR} {so : Obj} {ng ne : Nat} {ret : Bool} {at' cd : Int} {ta ts tb tf tc : Tok} {st bk bf : PySem.Str} {dv lv : Value} {f : Addr} {all : List (Addr × Obj)} (B : Below A₀ base outer h₀) (F : Fr h₀ L s.heap m) (X : (Mine.top.heap_1 w.params).In h₀) (N : News h₀ L s.heap ((Tk, instObj 450 Td) :: (Td, tkD w K ST S O E' at' ta st ts bk tb dv bf tf cd tc lv) :: (S, instObj 287 SD) :: (SD, stD w KR G SE ret) :: (G, listOf gv.toArray ng) :: (E', listOf ev.toArray ne) :: (ST, so) :: all)) (T : Top q (looseW q []) mean mg mb h₀) (hk : cs.kind = .function) (hd : dp + 10 < recursionLimit) (hu : un + 80 < cLine) (D : Dis Tk Td S SD G E' ST all) (hso : Obj.IsDictOf (PySem.strKind rw'.row.prog w) so stK) (hlo : (ST == sysModules) = false) (hst : valueAt stK st = some (.ref f)) (hkeep : keepIn (Mine.top.heap_1 w.params) (.ref f) = true)
   (R : Int → Int → PySem.Str → PySem.Str → List Value → List (Addr × Obj) → Prop)
   (hcall : ∀ {dp un : Nat} {gd : Option (List Code)} {cn : PySem.Str} {cs : Scope} {a : Addr} {ccd : Value} {cl : List (PySem.Str × Addr)} {outer : List Env} {A₀ : Around} {base h₀ : Heap} {L : Addr} {m : PySem.Str → Option Value} {s : Shared} {Q E : Value → Shared → Prop},
     Below A₀ base outer h₀ → Fr h₀ L s.heap m → (Mine.top.heap_1 w.params).In h₀ → News h₀ L s.heap ((Tk, instObj 450 Td) :: (Td, tkD w K ST S O E' at' ta st ts bk tb dv bf tf cd tc lv) :: (S, instObj 287 SD) :: (SD, stD w KR G SE ret) :: (G, listOf gv.toArray ng) :: (E', listOf ev.toArray ne) :: (ST, so) :: all) → Top q (looseW q []) mean mg mb h₀ → cs.kind = .function → dp + 8 < recursionLimit → un + 64 < cLine →
     (∀ (at2 cd2 : Int) (ta2 ts2 tf2 tc2 : Tok) (st2 bf2 : PySem.Str) (ev2 : List Value) (ne2 : Nat) (all2 : List (Addr × Obj)) (h' : Heap) (tk' : Nat), R at2 cd2 st2 bf2 ev2 all2 → Fr h₀ L h' m → News h₀ L h' ((Tk, instObj 450 Td) :: (Td, tkD w K ST S O E' at2 ta2 st2 ts2 bk tb dv bf2 tf2 cd2 tc2 lv) :: (S, instObj 287 SD) :: (SD, stD w KR G SE ret) :: (G, listOf gv.toArray ng) :: (E', listOf ev2.toArray ne2) :: (ST, so) :: all2) → Q .none { s with heap := h', toks := tk' }) →
     wpAny (model rw'.row.toRowW.prog w) (ktrTop dp un gd cn cs L a ccd cl outer) (call (.ref f) [.ref Tk]) Q E s)
   (hret : ∀ (at2 cd2 : Int) (ta2 ts2 tf2 tc2 : Tok) (st2 bf2 : PySem.Str) (ev2 : List Value) (ne2 : Nat) (all2 : List (Addr × Obj)) (h' : Heap) (tk' : Nat), R at2 cd2 st2 bf2 ev2 all2 → Fr h₀ L h' m → News h₀ L h' ((Tk, instObj 450 Td) :: (Td, tkD w K ST S O E' at2 ta2 st2 ts2 bk tb dv bf2 tf2 cd2 tc2 lv) :: (S, instObj 287 SD) :: (SD, stD w KR G SE ret) :: (G, listOf gv.toArray ng) :: (E', listOf ev2.toArray ne2) :: (ST, so) :: all2) → Q .none { s with heap := h', toks := tk' })
    : wpAny (model rw'.row.toRowW.prog w) (ktrTop dp un gd cn cs L a ccd cl outer) (call (.ref 433) [.ref Tk]) Q E s := by
  obtain ⟨a1, a2, a3, a4, a5, a6, b1, b2, b3, b4, b6, hdd, hdE⟩ := id D
  have hst2 : (valueAt stK st).isSome = true := by rw [hst]; rfl
  revert X
  k_fill
  intro X
  refine wpAny_call ?_
  k_dflt cell_enter
  k_with "mcw" => ((with_reducible show wpAny _ _ (callWith _ (Value.ref f) _ _ _) _ _ _); k_dflt (refine' callWith_K ?k1 hkeep ?_; (case k1 => k_asm); k_whole))
  k_with "mcall" => ((with_reducible show wpAny _ _ (call (Value.ref f) _) _ _ _); k_dflt (refine' hcall ?k1 ?k2 ?k3 ?k4 ?k5 ?k6 ?k7 ?k8 ?_; (case k1 => k_asm); (case k2 => k_asm); (case k3 => k_asm); (case k4 => k_asm); (case k5 => k_asm); (case k6 => first | exact rfl | assumption); (case k7 => ktr_room); (case k8 => ktr_units)); intro at2 cd2 ta2 ts2 tf2 tc2 st2 bf2 ev2 ne2 all2 h2 tk2 hR2 F2 N2; (try dsimp only); (try k_fold))
  k_steps
  all_goals (rename Fr h₀ L _ _ => kF9; rename News h₀ L _ _ => kN9; exact hret _ _ _ _ _ _ _ _ _ _ _ _ _ hR2 kF9 kN9)
end

theorem rsN9 : True := by
  k_with_none
  k_with "kne" => (refine neN ?_; (try dsimp only); first | with_reducible assumption | with_reducible exact Ne.symm (by with_reducible assumption) | (refine Nat.ne_of_lt ?_; (first | with_reducible assumption | with_reducible exact And.left (by with_reducible assumption) | with_reducible exact And.left (And.right (by with_reducible assumption)) | with_reducible exact And.left (And.right (And.right (by with_reducible assumption))) | with_reducible exact And.left (And.right (And.right (And.right (by with_reducible assumption)))) | with_reducible exact And.left (And.right (And.right (And.right (And.right (by with_reducible assumption))))) | with_reducible exact And.left (And.right (And.right (And.right (And.right (And.right (by with_reducible assumption)))))) | with_reducible exact And.left (And.right (And.right (And.right (And.right (And.right (And.right (by with_reducible assumption))))))) | with_reducible exact And.left (And.right (And.right (And.right (And.right (And.right (And.right (And.right (by with_reducible assumption)))))))) | with_reducible exact And.left (And.right (And.right (And.right (And.right (And.right (And.right (And.right (And.right (by with_reducible assumption))))))))) | with_reducible exact And.left (And.right (And.right (And.right (And.right (And.right (And.right (And.right (And.right (And.right (by with_reducible assumption)))))))))) | with_reducible exact And.left (And.right (And.right (And.right (And.right (And.right (And.right (And.right (And.right (And.right (And.right (by with_reducible assumption))))))))))) | with_reducible exact And.left (And.right (And.right (And.right (And.right (And.right (And.right (And.right (And.right (And.right (And.right (And.right (by with_reducible assumption)))))))))))) | with_reducible exact And.left (And.right (And.right (And.right (And.right (And.right (And.right (And.right (And.right (And.right (And.right (And.right (And.right (by with_reducible assumption))))))))))))) | with_reducible exact (And.right (by with_reducible assumption)) | with_reducible exact (And.right (And.right (by with_reducible assumption))) | with_reducible exact (And.right (And.right (And.right (by with_reducible assumption)))) | with_reducible exact (And.right (And.right (And.right (And.right (by with_reducible assumption))))) | with_reducible exact (And.right (And.right (And.right (And.right (And.right (by with_reducible assumption)))))) | with_reducible exact (And.right (And.right (And.right (And.right (And.right (And.right (by with_reducible assumption))))))))) | (refine Nat.ne_of_gt ?_; (first | with_reducible assumption | with_reducible exact And.left (by with_reducible assumption) | with_reducible exact And.left (And.right (by with_reducible assumption)) | with_reducible exact And.left (And.right (And.right (by with_reducible assumption))) | with_reducible exact And.left (And.right (And.right (And.right (by with_reducible assumption)))) | with_reducible exact And.left (And.right (And.right (And.right (And.right (by with_reducible assumption))))) | with_reducible exact And.left (And.right (And.right (And.right (And.right (And.right (by with_reducible assumption)))))) | with_reducible exact And.left (And.right (And.right (And.right (And.right (And.right (And.right (by with_reducible assumption))))))) | with_reducible exact And.left (And.right (And.right (And.right (And.right (And.right (And.right (And.right (by with_reducible assumption)))))))) | with_reducible exact And.left (And.right (And.right (And.right (And.right (And.right (And.right (And.right (And.right (by with_reducible assumption))))))))) | with_reducible exact And.left (And.right (And.right (And.right (And.right (And.right (And.right (And.right (And.right (And.right (by with_reducible assumption)))))))))) | with_reducible exact And.left (And.right (And.right (And.right (And.right (And.right (And.right (And.right (And.right (And.right (And.right (by with_reducible assumption))))))))))) | with_reducible exact And.left (And.right (And.right (And.right (And.right (And.right (And.right (And.right (And.right (And.right (And.right (And.right (by with_reducible assumption)))))))))))) | with_reducible exact And.left (And.right (And.right (And.right (And.right (And.right (And.right (And.right (And.right (And.right (And.right (And.right (And.right (by with_reducible assumption))))))))))))) | with_reducible exact (And.right (by with_reducible assumption)) | with_reducible exact (And.right (And.right (by with_reducible assumption))) | with_reducible exact (And.right (And.right (And.right (by with_reducible assumption)))) | with_reducible exact (And.right (And.right (And.right (And.right (by with_reducible assumption))))) | with_reducible exact (And.right (And.right (And.right (And.right (And.right (by with_reducible assumption)))))) | with_reducible exact (And.right (And.right (And.right (And.right (And.right (And.right (by with_reducible assumption))))))))) | omega)
  k_with "mcall" => ((with_reducible show wpAny _ _ (call (Value.ref (nat_lit 84)) [Value.int _ _]) _ _ _); k_dflt (refine' c1_claim ?k1 ?k2 ?k3 ?k4 ?k5 ?k6 ?k7 ?k8 ?kp ?_; (case k1 => k_asm); (case k2 => k_asm); (case k3 => k_asm); (case k4 => k_asm); (case k5 => k_asm); (case k6 => first | exact rfl | assumption); (case k7 => ktr_room); (case k8 => ktr_units); (case kp => omega)); intro t9 h9 tk9 F9 N9; (have hc19 := c1_room (by assumption) (by omega)); (try dsimp only); (try k_fold))
  k_with "mcall" => ((with_reducible show wpAny _ _ (call (Value.ref (nat_lit 91)) [Value.int _ _]) _ _ _); k_dflt (refine' numref_claim ?k1 ?k2 ?k3 ?k4 ?k5 ?k6 ?k7 ?k8 ?kp ?_; (case k1 => k_asm); (case k2 => k_asm); (case k3 => k_asm); (case k4 => k_asm); (case k5 => k_asm); (case k6 => first | exact rfl | assumption); (case k7 => ktr_room); (case k8 => ktr_units); (case kp => omega)); intro D9 o9 h9 tk9 P9 F9 N9 l9; (try k_lt l9); k_dflt (unfold PairIs at P9; rcases P9 with ⟨t19, c19, hf9, he9⟩ | ⟨t19, f9, t29, c19, hf9, he9⟩); all_goals ((subst he9); (try dsimp only); (try k_fold)))
  k_with "mcall" => ((with_reducible show wpAny _ _ (call (Value.ref (nat_lit 531)) [Value.int _ _]) _ _ _); k_dflt (refine' meant_claim ?k1 ?k2 ?k3 ?k4 ?k5 ?k6 ?k7 ?k8 ?kp ?_; (case k1 => k_asm); (case k2 => k_asm); (case k3 => k_asm); (case k4 => k_asm); (case k5 => k_asm); (case k6 => first | exact rfl | assumption); (case k7 => ktr_room); (case k8 => ktr_units); (case kp => omega)); intro D9 o9 h9 tk9 P9 F9 N9 l9; (try k_lt l9); k_dflt (unfold PairIs at P9; rcases P9 with ⟨t19, c19, hf9, he9⟩ | ⟨t19, f9, t29, c19, hf9, he9⟩); all_goals ((subst he9); (try dsimp only); (try k_fold)))
  k_with "mcall" => ((with_reducible show wpAny _ _ (call (Value.ref (nat_lit 524)) [Value.int _ _, Value.int _ _]) _ _ _); k_dflt (refine' lawCode_claim ?k1 ?k2 ?k3 ?k4 ?k5 ?k6 ?k7 ?k8 ?kp ?kq ?_; (case k1 => k_asm); (case k2 => k_asm); (case k3 => k_asm); (case k4 => k_asm); (case k5 => k_asm); (case k6 => first | exact rfl | assumption); (case k7 => ktr_room); (case k8 => ktr_units); (case kp => with_reducible assumption); (case kq => with_reducible assumption)); intro c9 t9 h9 tk9 hlo9 hhi9 F9 N9; (try dsimp only); (try k_fold))
  k_with "mcall" => ((with_reducible show wpAny _ _ (call (Value.ref (nat_lit 538)) [Value.int _ _, Value.int _ _, Value.int _ _]) _ _ _); k_dflt (first | (refine' digits16_claim ?k1 ?k2 ?k3 ?k4 ?k5 ?k6 ?k7 ?k8 ?kp ?kq ?_; (case k1 => k_asm); (case k2 => k_asm); (case k3 => k_asm); (case k4 => k_asm); (case k5 => k_asm); (case k6 => first | exact rfl | assumption); (case k7 => ktr_room); (case k8 => ktr_units); (case kp => with_reducible assumption); (case kq => with_reducible assumption)) | (refine' digits10_claim ?k1 ?k2 ?k3 ?k4 ?k5 ?k6 ?k7 ?k8 ?kp ?kq ?_; (case k1 => k_asm); (case k2 => k_asm); (case k3 => k_asm); (case k4 => k_asm); (case k5 => k_asm); (case k6 => first | exact rfl | assumption); (case k7 => ktr_room); (case k8 => ktr_units); (case kp => with_reducible assumption); (case kq => with_reducible assumption))); intro d9 t9 h9 tk9 I9 E9 hl9 F9 N9; (try dsimp only); (try k_fold))
  k_with "mcall" => ((with_reducible show wpAny _ _ (call (Value.ref (nat_lit 517)) [Value.ref _, Value.int _ _]) _ _ _); k_dflt (refine' pick_claim ?k1 ?k2 ?k3 ?k4 ?k5 ?k6 ?k7 ?k8 ?kt ?ke ?kp ?kq ?_; (case k1 => k_asm); (case k2 => k_asm); (case k3 => k_asm); (case k4 => k_asm); (case k5 => k_asm); (case k6 => first | exact rfl | assumption); (case k7 => ktr_room); (case k8 => ktr_units); (case kt => repeat' (first | exact Take1.head | apply Take1.tail)); (case ke => k_all); (case kp => decide); (case kq => intro v9; exact PyProof.noPylong_of_log2 (by decide +kernel))); intro r9 v9 t9 t99 c9 h9 tk9 hlo9 hhi9 F9 N9; (try dsimp only); (try k_fold))
  k_with "mcall" => ((with_reducible show wpAny _ _ (call (Value.ref (nat_lit 327)) _) _ _ _); k_dflt (refine' next_claim ?k1 ?k2 ?k3 ?k4 ?k5 ?k6 ?k7 ?k8 ?kD ?kS ?kL ?k0 ?_; (case k1 => k_asm); (case k2 => k_asm); (case k3 => k_asm); (case k4 => k_asm); (case k5 => k_asm); (case k6 => first | exact rfl | assumption); (case k7 => ktr_room); (case k8 => ktr_units); (case kD => assumption); (case kS => assumption); (case kL => assumption); (case k0 => assumption)); intro t9 ta9 h9 tk9 F9 N9; (try rw [hc]); (try dsimp only); (try k_fold))
  k_with "mcall" => ((with_reducible show wpAny _ _ (call (Value.ref (nat_lit 341)) _) _ _ _); k_dflt (refine' again_claim ?k1 ?k2 ?k3 ?k4 ?k5 ?k6 ?k7 ?k8 ?kD ?_; (case k1 => k_asm); (case k2 => k_asm); (case k3 => k_asm); (case k4 => k_asm); (case k5 => k_asm); (case k6 => first | exact rfl | assumption); (case k7 => ktr_room); (case k8 => ktr_units); (case kD => assumption)); intro ta9 ts9 h9 tk9 F9 N9; (try dsimp only); (try k_fold))
  k_with "mcall" => ((with_reducible show wpAny _ _ (call (Value.ref (nat_lit 348)) _) _ _ _); k_dflt (refine' error2_claim ?k1 ?k2 ?k3 ?k4 ?k5 ?k6 ?k7 ?k8 ?kD ?kS ?kE ?kL ?_; (case k1 => k_asm); (case k2 => k_asm); (case k3 => k_asm); (case k4 => k_asm); (case k5 => k_asm); (case k6 => first | exact rfl | assumption); (case k7 => ktr_room); (case k8 => ktr_units); (case kD => assumption); (case kS => assumption); (case kE => assumption); (case kL => assumption)); intro ev9 rest9 all9 ne9 h9 tk9 SK9 D9 hde9 hsub9 F9 N9; (have hdd9 := D9.d); (try dsimp only); (try k_fold))
  k_with "mcall" => ((with_reducible show wpAny _ _ (call (Value.ref (nat_lit 426)) _) _ _ _); k_dflt (refine' flush_claim ?k1 ?k2 ?k3 ?k4 ?k5 ?k6 ?k7 ?k8 ?kD ?kS ?kE ?kL ?_; (case k1 => k_asm); (case k2 => k_asm); (case k3 => k_asm); (case k4 => k_asm); (case k5 => k_asm); (case k6 => first | exact rfl | assumption); (case k7 => ktr_room); (case k8 => ktr_units); (case kD => assumption); (case kS => assumption); (case kE => assumption); (case kL => assumption)); intro all8 rest8 tf8 h8 tk8 hsub8 D8 SK8 F8 N8; (have hdd8 := D8.d); (try dsimp only); (try k_fold))
  k_with "mcall" => ((with_reducible show wpAny _ _ (call (Value.ref (nat_lit 42)) _) _ _ _); k_dflt (refine' ishex_claim ?k1 ?k2 ?k3 ?k4 ?k5 ?k6 ?k7 ?k8 ?kC ?_; (case k1 => k_asm); (case k2 => k_asm); (case k3 => k_asm); (case k4 => k_asm); (case k5 => k_asm); (case k6 => first | exact rfl | assumption); (case k7 => ktr_room); (case k8 => ktr_units); (case kC => first | assumption | decide)); intro b9 h9 tk9 hb9 F9 N9; rw [hfit] at hb9; subst hb9; (try dsimp only); (try k_fold))
  k_with "mcall" => ((with_reducible show wpAny _ _ (call (Value.ref (nat_lit 35)) _) _ _ _); k_dflt (refine' isdig_claim ?k1 ?k2 ?k3 ?k4 ?k5 ?k6 ?k7 ?k8 ?kC ?_; (case k1 => k_asm); (case k2 => k_asm); (case k3 => k_asm); (case k4 => k_asm); (case k5 => k_asm); (case k6 => first | exact rfl | assumption); (case k7 => ktr_room); (case k8 => ktr_units); (case kC => first | assumption | decide)); intro b9 h9 tk9 hb9 F9 N9; rw [hfit] at hb9; subst hb9; (try dsimp only); (try k_fold))
  k_with "mcall" => ((with_reducible show wpAny _ _ (call (Value.ref (nat_lit 56)) _) _ _ _); k_dflt (refine' dval_claim ?k1 ?k2 ?k3 ?k4 ?k5 ?k6 ?k7 ?k8 ?kC ?_; (case k1 => k_asm); (case k2 => k_asm); (case k3 => k_asm); (case k4 => k_asm); (case k5 => k_asm); (case k6 => first | exact rfl | assumption); (case k7 => ktr_room); (case k8 => ktr_units); (case kC => assumption)); intro t9 h9 tk9 F9 N9; (try dsimp only); (try k_fold))
  k_with "eval Call" => (k_here; k_dflt (refine Call_ ?_))
  k_with "compareOp NotIn str ref" => (k_here; k_dflt (first | refine kdg_notin (knd := PySem.strKind _ _) (by k_asm) (by k_mem) (by k_asm) (by k_asm) (strKind_is _ _ _ _) true (by rfl) ?_ | refine kdg_notin (knd := PySem.strKind _ _) (by k_asm) (by k_mem) (by k_asm) (by k_asm) (strKind_is _ _ _ _) false (by rfl) ?_); (try dsimp only [Bool.not_true, Bool.not_false]))
  k_with "subscriptTail" => (k_here; (with_reducible show wpAny _ _ (subscriptTail _ _ (Value.ref _) (Value.str _ _)) _ _ _); k_dflt (refine kda_item (knd := PySem.strKind _ _) (by k_asm) (by k_mem) (by k_asm) (strKind_is _ _ _ _) (by rfl) ?_))
  trivial
section
theorem wdN9x1 : True := by
  k_with "kall" => assumption
  trivial
theorem fn1 {w : World} {mean : ExcName → Option Value} {mg mb : PySem.Str → Option Value} {dp un : Nat} {gd : Option (List Code)} {cn : PySem.Str} {cs : Scope} {a : Addr} {ccd : Value} {cl : List (PySem.Str × Addr)} {outer : List Env} {A₀ : Around} {base h₀ : Heap} {L : Addr} {m : PySem.Str → Option Value} {s : Shared} {Q E : Value → Shared → Prop} {Tk Td S SD ST G E' O SE : Addr} {gv ev : List Value} {K : KT} {KR : KR} {so : Obj} {ng ne : Nat} {ret : Bool} {at' cd : Int} {ta ts tb tf tc : Tok} {st bk bf : PySem.Str} {dv lv : Value} {rest : List (Addr × Obj)} {txt l : List Nat} {errs : List Dat} {all : List (Addr × Obj)} (B : Below A₀ base outer h₀) (F : Fr h₀ L s.heap m) (X : (Mine.top.heap_1 w.params).In h₀) (N : News h₀ L s.heap ((Tk, instObj 450 Td) :: (Td, tkD w K ST S O E' at' ta st ts bk tb dv bf tf cd tc lv) :: (S, instObj 287 SD) :: (SD, stD w KR G SE ret) :: (G, listOf gv.toArray ng) :: (E', listOf ev.toArray ne) :: (ST, so) :: all)) (T : Top q (looseW q []) mean mg mb h₀) (hk : cs.kind = .function) (hd : dp + 8 < recursionLimit) (hu : un + 64 < cLine) (D : Dis Tk Td S SD G E' ST all) (SK : Sink w Tk Td S SD G E' O ST bk dv txt rest all) (hde : DatAll rest ev errs) (hel : errs.length ≤ 10) (hso : Obj.IsDictOf (PySem.strKind rw'.row.prog w) so stK) (hlo : (ST == sysModules) = false) (hsg : SignsAre gv l) (hlen : l.length ≤ 100) (h0 : 0 ≤ at')  (hc : sgn l at' = PySem.Str.ofString "#")
   (hret : ∀ (ta' ts' tf' : Tok) (bf' : PySem.Str) (h' : Heap) (tk' : Nat), bf' = PySem.Str.ofString "&" ++ PySem.Str.ofString "#" → Fr h₀ L h' m → News h₀ L h' ((Tk, instObj 450 Td) :: (Td, tkD w K ST S O E' (at' + 1) ta' (PySem.Str.ofString "numeric character reference") ts' bk tb dv bf' tf' cd tc lv) :: (S, instObj 287 SD) :: (SD, stD w KR G SE ret) :: (G, listOf gv.toArray ng) :: (E', listOf ev.toArray ne) :: (ST, so) :: all) → Q .none { s with heap := h', toks := tk' })
    : wpAny (model rw'.row.toRowW.prog w) (ktrTop dp un gd cn cs L a ccd cl outer) (call (.ref 126) [.ref Tk]) Q E s := by
  obtain ⟨a1, a2, a3, a4, a5, a6, b1, b2, b3, b4, b6, hdd, hdE⟩ := id D
  revert X
  k_fill
  intro X
  refine wpAny_call ?_
  k_dflt cell_enter
  k_steps
  all_goals (rename Fr h₀ L _ _ => kF9; rename News h₀ L _ _ => kN9; exact hret _ _ _ _ _ _ rfl kF9 kN9)
end

theorem rsN10 : True := by
  k_with_none
  k_with "kne" => (refine neN ?_; (try dsimp only); first | with_reducible assumption | with_reducible exact Ne.symm (by with_reducible assumption) | (refine Nat.ne_of_lt ?_; (first | with_reducible assumption | with_reducible exact And.left (by with_reducible assumption) | with_reducible exact And.left (And.right (by with_reducible assumption)) | with_reducible exact And.left (And.right (And.right (by with_reducible assumption))) | with_reducible exact And.left (And.right (And.right (And.right (by with_reducible assumption)))) | with_reducible exact And.left (And.right (And.right (And.right (And.right (by with_reducible assumption))))) | with_reducible exact And.left (And.right (And.right (And.right (And.right (And.right (by with_reducible assumption)))))) | with_reducible exact And.left (And.right (And.right (And.right (And.right (And.right (And.right (by with_reducible assumption))))))) | with_reducible exact And.left (And.right (And.right (And.right (And.right (And.right (And.right (And.right (by with_reducible assumption)))))))) | with_reducible exact And.left (And.right (And.right (And.right (And.right (And.right (And.right (And.right (And.right (by with_reducible assumption))))))))) | with_reducible exact And.left (And.right (And.right (And.right (And.right (And.right (And.right (And.right (And.right (And.right (by with_reducible assumption)))))))))) | with_reducible exact And.left (And.right (And.right (And.right (And.right (And.right (And.right (And.right (And.right (And.right (And.right (by with_reducible assumption))))))))))) | with_reducible exact And.left (And.right (And.right (And.right (And.right (And.right (And.right (And.right (And.right (And.right (And.right (And.right (by with_reducible assumption)))))))))))) | with_reducible exact And.left (And.right (And.right (And.right (And.right (And.right (And.right (And.right (And.right (And.right (And.right (And.right (And.right (by with_reducible assumption))))))))))))) | with_reducible exact (And.right (by with_reducible assumption)) | with_reducible exact (And.right (And.right (by with_reducible assumption))) | with_reducible exact (And.right (And.right (And.right (by with_reducible assumption)))) | with_reducible exact (And.right (And.right (And.right (And.right (by with_reducible assumption))))) | with_reducible exact (And.right (And.right (And.right (And.right (And.right (by with_reducible assumption)))))) | with_reducible exact (And.right (And.right (And.right (And.right (And.right (And.right (by with_reducible assumption))))))))) | (refine Nat.ne_of_gt ?_; (first | with_reducible assumption | with_reducible exact And.left (by with_reducible assumption) | with_reducible exact And.left (And.right (by with_reducible assumption)) | with_reducible exact And.left (And.right (And.right (by with_reducible assumption))) | with_reducible exact And.left (And.right (And.right (And.right (by with_reducible assumption)))) | with_reducible exact And.left (And.right (And.right (And.right (And.right (by with_reducible assumption))))) | with_reducible exact And.left (And.right (And.right (And.right (And.right (And.right (by with_reducible assumption)))))) | with_reducible exact And.left (And.right (And.right (And.right (And.right (And.right (And.right (by with_reducible assumption))))))) | with_reducible exact And.left (And.right (And.right (And.right (And.right (And.right (And.right (And.right (by with_reducible assumption)))))))) | with_reducible exact And.left (And.right (And.right (And.right (And.right (And.right (And.right (And.right (And.right (by with_reducible assumption))))))))) | with_reducible exact And.left (And.right (And.right (And.right (And.right (And.right (And.right (And.right (And.right (And.right (by with_reducible assumption)))))))))) | with_reducible exact And.left (And.right (And.right (And.right (And.right (And.right (And.right (And.right (And.right (And.right (And.right (by with_reducible assumption))))))))))) | with_reducible exact And.left (And.right (And.right (And.right (And.right (And.right (And.right (And.right (And.right (And.right (And.right (And.right (by with_reducible assumption)))))))))))) | with_reducible exact And.left (And.right (And.right (And.right (And.right (And.right (And.right (And.right (And.right (And.right (And.right (And.right (And.right (by with_reducible assumption))))))))))))) | with_reducible exact (And.right (by with_reducible assumption)) | with_reducible exact (And.right (And.right (by with_reducible assumption))) | with_reducible exact (And.right (And.right (And.right (by with_reducible assumption)))) | with_reducible exact (And.right (And.right (And.right (And.right (by with_reducible assumption))))) | with_reducible exact (And.right (And.right (And.right (And.right (And.right (by with_reducible assumption)))))) | with_reducible exact (And.right (And.right (And.right (And.right (And.right (And.right (by with_reducible assumption))))))))) | omega)
  k_with "mcall" => ((with_reducible show wpAny _ _ (call (Value.ref (nat_lit 84)) [Value.int _ _]) _ _ _); k_dflt (refine' c1_claim ?k1 ?k2 ?k3 ?k4 ?k5 ?k6 ?k7 ?k8 ?kp ?_; (case k1 => k_asm); (case k2 => k_asm); (case k3 => k_asm); (case k4 => k_asm); (case k5 => k_asm); (case k6 => first | exact rfl | assumption); (case k7 => ktr_room); (case k8 => ktr_units); (case kp => omega)); intro t9 h9 tk9 F9 N9; (have hc19 := c1_room (by assumption) (by omega)); (try dsimp only); (try k_fold))
  k_with "mcall" => ((with_reducible show wpAny _ _ (call (Value.ref (nat_lit 91)) [Value.int _ _]) _ _ _); k_dflt (refine' numref_claim ?k1 ?k2 ?k3 ?k4 ?k5 ?k6 ?k7 ?k8 ?kp ?_; (case k1 => k_asm); (case k2 => k_asm); (case k3 => k_asm); (case k4 => k_asm); (case k5 => k_asm); (case k6 => first | exact rfl | assumption); (case k7 => ktr_room); (case k8 => ktr_units); (case kp => omega)); intro D9 o9 h9 tk9 P9 F9 N9 l9; (try k_lt l9); k_dflt (unfold PairIs at P9; rcases P9 with ⟨t19, c19, hf9, he9⟩ | ⟨t19, f9, t29, c19, hf9, he9⟩); all_goals ((subst he9); (try dsimp only); (try k_fold)))
  k_with "mcall" => ((with_reducible show wpAny _ _ (call (Value.ref (nat_lit 531)) [Value.int _ _]) _ _ _); k_dflt (refine' meant_claim ?k1 ?k2 ?k3 ?k4 ?k5 ?k6 ?k7 ?k8 ?kp ?_; (case k1 => k_asm); (case k2 => k_asm); (case k3 => k_asm); (case k4 => k_asm); (case k5 => k_asm); (case k6 => first | exact rfl | assumption); (case k7 => ktr_room); (case k8 => ktr_units); (case kp => omega)); intro D9 o9 h9 tk9 P9 F9 N9 l9; (try k_lt l9); k_dflt (unfold PairIs at P9; rcases P9 with ⟨t19, c19, hf9, he9⟩ | ⟨t19, f9, t29, c19, hf9, he9⟩); all_goals ((subst he9); (try dsimp only); (try k_fold)))
  k_with "mcall" => ((with_reducible show wpAny _ _ (call (Value.ref (nat_lit 524)) [Value.int _ _, Value.int _ _]) _ _ _); k_dflt (refine' lawCode_claim ?k1 ?k2 ?k3 ?k4 ?k5 ?k6 ?k7 ?k8 ?kp ?kq ?_; (case k1 => k_asm); (case k2 => k_asm); (case k3 => k_asm); (case k4 => k_asm); (case k5 => k_asm); (case k6 => first | exact rfl | assumption); (case k7 => ktr_room); (case k8 => ktr_units); (case kp => with_reducible assumption); (case kq => with_reducible assumption)); intro c9 t9 h9 tk9 hlo9 hhi9 F9 N9; (try dsimp only); (try k_fold))
  k_with "mcall" => ((with_reducible show wpAny _ _ (call (Value.ref (nat_lit 538)) [Value.int _ _, Value.int _ _, Value.int _ _]) _ _ _); k_dflt (first | (refine' digits16_claim ?k1 ?k2 ?k3 ?k4 ?k5 ?k6 ?k7 ?k8 ?kp ?kq ?_; (case k1 => k_asm); (case k2 => k_asm); (case k3 => k_asm); (case k4 => k_asm); (case k5 => k_asm); (case k6 => first | exact rfl | assumption); (case k7 => ktr_room); (case k8 => ktr_units); (case kp => with_reducible assumption); (case kq => with_reducible assumption)) | (refine' digits10_claim ?k1 ?k2 ?k3 ?k4 ?k5 ?k6 ?k7 ?k8 ?kp ?kq ?_; (case k1 => k_asm); (case k2 => k_asm); (case k3 => k_asm); (case k4 => k_asm); (case k5 => k_asm); (case k6 => first | exact rfl | assumption); (case k7 => ktr_room); (case k8 => ktr_units); (case kp => with_reducible assumption); (case kq => with_reducible assumption))); intro d9 t9 h9 tk9 I9 E9 hl9 F9 N9; (try dsimp only); (try k_fold))
  k_with "mcall" => ((with_reducible show wpAny _ _ (call (Value.ref (nat_lit 517)) [Value.ref _, Value.int _ _]) _ _ _); k_dflt (refine' pick_claim ?k1 ?k2 ?k3 ?k4 ?k5 ?k6 ?k7 ?k8 ?kt ?ke ?kp ?kq ?_; (case k1 => k_asm); (case k2 => k_asm); (case k3 => k_asm); (case k4 => k_asm); (case k5 => k_asm); (case k6 => first | exact rfl | assumption); (case k7 => ktr_room); (case k8 => ktr_units); (case kt => repeat' (first | exact Take1.head | apply Take1.tail)); (case ke => k_all); (case kp => decide); (case kq => intro v9; exact PyProof.noPylong_of_log2 (by decide +kernel))); intro r9 v9 t9 t99 c9 h9 tk9 hlo9 hhi9 F9 N9; (try dsimp only); (try k_fold))
  k_with "mcall" => ((with_reducible show wpAny _ _ (call (Value.ref (nat_lit 327)) _) _ _ _); k_dflt (refine' next_claim ?k1 ?k2 ?k3 ?k4 ?k5 ?k6 ?k7 ?k8 ?kD ?kS ?kL ?k0 ?_; (case k1 => k_asm); (case k2 => k_asm); (case k3 => k_asm); (case k4 => k_asm); (case k5 => k_asm); (case k6 => first | exact rfl | assumption); (case k7 => ktr_room); (case k8 => ktr_units); (case kD => assumption); (case kS => assumption); (case kL => assumption); (case k0 => assumption)); intro t9 ta9 h9 tk9 F9 N9; (try rw [hc]); (try dsimp only); (try k_fold))
  k_with "mcall" => ((with_reducible show wpAny _ _ (call (Value.ref (nat_lit 341)) _) _ _ _); k_dflt (refine' again_claim ?k1 ?k2 ?k3 ?k4 ?k5 ?k6 ?k7 ?k8 ?kD ?_; (case k1 => k_asm); (case k2 => k_asm); (case k3 => k_asm); (case k4 => k_asm); (case k5 => k_asm); (case k6 => first | exact rfl | assumption); (case k7 => ktr_room); (case k8 => ktr_units); (case kD => assumption)); intro ta9 ts9 h9 tk9 F9 N9; (try dsimp only); (try k_fold))
  k_with "mcall" => ((with_reducible show wpAny _ _ (call (Value.ref (nat_lit 348)) _) _ _ _); k_dflt (refine' error2_claim ?k1 ?k2 ?k3 ?k4 ?k5 ?k6 ?k7 ?k8 ?kD ?kS ?kE ?kL ?_; (case k1 => k_asm); (case k2 => k_asm); (case k3 => k_asm); (case k4 => k_asm); (case k5 => k_asm); (case k6 => first | exact rfl | assumption); (case k7 => ktr_room); (case k8 => ktr_units); (case kD => assumption); (case kS => assumption); (case kE => assumption); (case kL => assumption)); intro ev9 rest9 all9 ne9 h9 tk9 SK9 D9 hde9 hsub9 F9 N9; (have hdd9 := D9.d); (try dsimp only); (try k_fold))
  k_with "mcall" => ((with_reducible show wpAny _ _ (call (Value.ref (nat_lit 426)) _) _ _ _); k_dflt (refine' flush_claim ?k1 ?k2 ?k3 ?k4 ?k5 ?k6 ?k7 ?k8 ?kD ?kS ?kE ?kL ?_; (case k1 => k_asm); (case k2 => k_asm); (case k3 => k_asm); (case k4 => k_asm); (case k5 => k_asm); (case k6 => first | exact rfl | assumption); (case k7 => ktr_room); (case k8 => ktr_units); (case kD => assumption); (case kS => assumption); (case kE => assumption); (case kL => assumption)); intro all8 rest8 tf8 h8 tk8 hsub8 D8 SK8 F8 N8; (have hdd8 := D8.d); (try dsimp only); (try k_fold))
  k_with "mcall" => ((with_reducible show wpAny _ _ (call (Value.ref (nat_lit 42)) _) _ _ _); k_dflt (refine' ishex_claim ?k1 ?k2 ?k3 ?k4 ?k5 ?k6 ?k7 ?k8 ?kC ?_; (case k1 => k_asm); (case k2 => k_asm); (case k3 => k_asm); (case k4 => k_asm); (case k5 => k_asm); (case k6 => first | exact rfl | assumption); (case k7 => ktr_room); (case k8 => ktr_units); (case kC => first | assumption | decide)); intro b9 h9 tk9 hb9 F9 N9; rw [hfit] at hb9; subst hb9; (try dsimp only); (try k_fold))
  k_with "mcall" => ((with_reducible show wpAny _ _ (call (Value.ref (nat_lit 35)) _) _ _ _); k_dflt (refine' isdig_claim ?k1 ?k2 ?k3 ?k4 ?k5 ?k6 ?k7 ?k8 ?kC ?_; (case k1 => k_asm); (case k2 => k_asm); (case k3 => k_asm); (case k4 => k_asm); (case k5 => k_asm); (case k6 => first | exact rfl | assumption); (case k7 => ktr_room); (case k8 => ktr_units); (case kC => first | assumption | decide)); intro b9 h9 tk9 hb9 F9 N9; rw [hfit] at hb9; subst hb9; (try dsimp only); (try k_fold))
  k_with "mcall" => ((with_reducible show wpAny _ _ (call (Value.ref (nat_lit 56)) _) _ _ _); k_dflt (refine' dval_claim ?k1 ?k2 ?k3 ?k4 ?k5 ?k6 ?k7 ?k8 ?kC ?_; (case k1 => k_asm); (case k2 => k_asm); (case k3 => k_asm); (case k4 => k_asm); (case k5 => k_asm); (case k6 => first | exact rfl | assumption); (case k7 => ktr_room); (case k8 => ktr_units); (case kC => assumption)); intro t9 h9 tk9 F9 N9; (try dsimp only); (try k_fold))
  k_with "eval Call" => (k_here; k_dflt (refine Call_ ?_))
  k_with "compareOp NotIn str ref" => (k_here; k_dflt (first | refine kdg_notin (knd := PySem.strKind _ _) (by k_asm) (by k_mem) (by k_asm) (by k_asm) (strKind_is _ _ _ _) true (by rfl) ?_ | refine kdg_notin (knd := PySem.strKind _ _) (by k_asm) (by k_mem) (by k_asm) (by k_asm) (strKind_is _ _ _ _) false (by rfl) ?_); (try dsimp only [Bool.not_true, Bool.not_false]))
  k_with "subscriptTail" => (k_here; (with_reducible show wpAny _ _ (subscriptTail _ _ (Value.ref _) (Value.str _ _)) _ _ _); k_dflt (refine kda_item (knd := PySem.strKind _ _) (by k_asm) (by k_mem) (by k_asm) (strKind_is _ _ _ _) (by rfl) ?_))
  trivial
section
theorem wdN10x1 : True := by
  k_with "kall" => assumption
  trivial
theorem fn2x {w : World} {mean : ExcName → Option Value} {mg mb : PySem.Str → Option Value} {dp un : Nat} {gd : Option (List Code)} {cn : PySem.Str} {cs : Scope} {a : Addr} {ccd : Value} {cl : List (PySem.Str × Addr)} {outer : List Env} {A₀ : Around} {base h₀ : Heap} {L : Addr} {m : PySem.Str → Option Value} {s : Shared} {Q E : Value → Shared → Prop} {Tk Td S SD ST G E' O SE : Addr} {gv ev : List Value} {K : KT} {KR : KR} {so : Obj} {ng ne : Nat} {ret : Bool} {at' cd : Int} {ta ts tb tf tc : Tok} {st bk bf : PySem.Str} {dv lv : Value} {rest : List (Addr × Obj)} {txt l : List Nat} {errs : List Dat} {all : List (Addr × Obj)} (B : Below A₀ base outer h₀) (F : Fr h₀ L s.heap m) (X : (Mine.top.heap_1 w.params).In h₀) (N : News h₀ L s.heap ((Tk, instObj 450 Td) :: (Td, tkD w K ST S O E' at' ta st ts bk tb dv bf tf cd tc lv) :: (S, instObj 287 SD) :: (SD, stD w KR G SE ret) :: (G, listOf gv.toArray ng) :: (E', listOf ev.toArray ne) :: (ST, so) :: all)) (T : Top q (looseW q []) mean mg mb h₀) (hk : cs.kind = .function) (hd : dp + 8 < recursionLimit) (hu : un + 64 < cLine) (D : Dis Tk Td S SD G E' ST all) (SK : Sink w Tk Td S SD G E' O ST bk dv txt rest all) (hde : DatAll rest ev errs) (hel : errs.length ≤ 10) (hso : Obj.IsDictOf (PySem.strKind rw'.row.prog w) so stK) (hlo : (ST == sysModules) = false) (hsg : SignsAre gv l) (hlen : l.length ≤ 100) (h0 : 0 ≤ at') {cx : PySem.Str}  (hc : sgn l at' = cx) (hx : ([PySem.Str.ofString "x", PySem.Str.ofString "X"].any fun x => x == cx) = true) (hcl : cx.length ≤ 1) (hbl : bf.length ≤ 50)
   (hret : ∀ (ta' ts' tf' tc' : Tok) (h' : Heap) (tk' : Nat), Fr h₀ L h' m → News h₀ L h' ((Tk, instObj 450 Td) :: (Td, tkD w K ST S O E' (at' + 1) ta' (PySem.Str.ofString "hexadecimal character reference start") ts' bk tb dv (bf ++ cx) tf' 0 tc' lv) :: (S, instObj 287 SD) :: (SD, stD w KR G SE ret) :: (G, listOf gv.toArray ng) :: (E', listOf ev.toArray ne) :: (ST, so) :: all) → Q .none { s with heap := h', toks := tk' })
    : wpAny (model rw'.row.toRowW.prog w) (ktrTop dp un gd cn cs L a ccd cl outer) (call (.ref 154) [.ref Tk]) Q E s := by
  obtain ⟨a1, a2, a3, a4, a5, a6, b1, b2, b3, b4, b6, hdd, hdE⟩ := id D
  revert X
  k_fill
  intro X
  refine wpAny_call ?_
  k_dflt cell_enter
  k_steps
  all_goals (rename Fr h₀ L _ _ => kF9; rename News h₀ L _ _ => kN9; exact hret _ _ _ _ _ _ kF9 (fun p hp => kN9 p (.tail _ hp)))
theorem fn2d {w : World} {mean : ExcName → Option Value} {mg mb : PySem.Str → Option Value} {dp un : Nat} {gd : Option (List Code)} {cn : PySem.Str} {cs : Scope} {a : Addr} {ccd : Value} {cl : List (PySem.Str × Addr)} {outer : List Env} {A₀ : Around} {base h₀ : Heap} {L : Addr} {m : PySem.Str → Option Value} {s : Shared} {Q E : Value → Shared → Prop} {Tk Td S SD ST G E' O SE : Addr} {gv ev : List Value} {K : KT} {KR : KR} {so : Obj} {ng ne : Nat} {ret : Bool} {at' cd : Int} {ta ts tb tf tc : Tok} {st bk bf : PySem.Str} {dv lv : Value} {rest : List (Addr × Obj)} {txt l : List Nat} {errs : List Dat} {all : List (Addr × Obj)} (B : Below A₀ base outer h₀) (F : Fr h₀ L s.heap m) (X : (Mine.top.heap_1 w.params).In h₀) (N : News h₀ L s.heap ((Tk, instObj 450 Td) :: (Td, tkD w K ST S O E' at' ta st ts bk tb dv bf tf cd tc lv) :: (S, instObj 287 SD) :: (SD, stD w KR G SE ret) :: (G, listOf gv.toArray ng) :: (E', listOf ev.toArray ne) :: (ST, so) :: all)) (T : Top q (looseW q []) mean mg mb h₀) (hk : cs.kind = .function) (hd : dp + 8 < recursionLimit) (hu : un + 64 < cLine) (D : Dis Tk Td S SD G E' ST all) (SK : Sink w Tk Td S SD G E' O ST bk dv txt rest all) (hde : DatAll rest ev errs) (hel : errs.length ≤ 10) (hso : Obj.IsDictOf (PySem.strKind rw'.row.prog w) so stK) (hlo : (ST == sysModules) = false) (hsg : SignsAre gv l) (hlen : l.length ≤ 100) (h0 : 0 ≤ at') {cx : PySem.Str}  (hc : sgn l at' = cx) (hx : ([PySem.Str.ofString "x", PySem.Str.ofString "X"].any fun x => x == cx) = false) (hcl : cx.length ≤ 1) (hbl : bf.length ≤ 50)
   (hret : ∀ (ta' ts' tc' : Tok) (h' : Heap) (tk' : Nat), Fr h₀ L h' m → News h₀ L h' ((Tk, instObj 450 Td) :: (Td, tkD w K ST S O E' (at' + 1 - 1) ta' (PySem.Str.ofString "decimal character reference start") ts' bk tb dv bf tf 0 tc' lv) :: (S, instObj 287 SD) :: (SD, stD w KR G SE ret) :: (G, listOf gv.toArray ng) :: (E', listOf ev.toArray ne) :: (ST, so) :: all) → Q .none { s with heap := h', toks := tk' })
    : wpAny (model rw'.row.toRowW.prog w) (ktrTop dp un gd cn cs L a ccd cl outer) (call (.ref 154) [.ref Tk]) Q E s := by
  obtain ⟨a1, a2, a3, a4, a5, a6, b1, b2, b3, b4, b6, hdd, hdE⟩ := id D
  revert X
  k_fill
  intro X
  refine wpAny_call ?_
  k_dflt cell_enter
  k_steps
  all_goals (rename Fr h₀ L _ _ => kF9; rename News h₀ L _ _ => kN9; exact hret _ _ _ _ _ kF9 (fun p hp => kN9 p (.tail _ hp)))
end

theorem rsN11 : True := by
  k_with_none
  k_with "kne" => (refine neN ?_; (try dsimp only); first | with_reducible assumption | with_reducible exact Ne.symm (by with_reducible assumption) | (refine Nat.ne_of_lt ?_; (first | with_reducible assumption | with_reducible exact And.left (by with_reducible assumption) | with_reducible exact And.left (And.right (by with_reducible assumption)) | with_reducible exact And.left (And.right (And.right (by with_reducible assumption))) | with_reducible exact And.left (And.right (And.right (And.right (by with_reducible assumption)))) | with_reducible exact And.left (And.right (And.right (And.right (And.right (by with_reducible assumption))))) | with_reducible exact And.left (And.right (And.right (And.right (And.right (And.right (by with_reducible assumption)))))) | with_reducible exact And.left (And.right (And.right (And.right (And.right (And.right (And.right (by with_reducible assumption))))))) | with_reducible exact And.left (And.right (And.right (And.right (And.right (And.right (And.right (And.right (by with_reducible assumption)))))))) | with_reducible exact And.left (And.right (And.right (And.right (And.right (And.right (And.right (And.right (And.right (by with_reducible assumption))))))))) | with_reducible exact And.left (And.right (And.right (And.right (And.right (And.right (And.right (And.right (And.right (And.right (by with_reducible assumption)))))))))) | with_reducible exact And.left (And.right (And.right (And.right (And.right (And.right (And.right (And.right (And.right (And.right (And.right (by with_reducible assumption))))))))))) | with_reducible exact And.left (And.right (And.right (And.right (And.right (And.right (And.right (And.right (And.right (And.right (And.right (And.right (by with_reducible assumption)))))))))))) | with_reducible exact And.left (And.right (And.right (And.right (And.right (And.right (And.right (And.right (And.right (And.right (And.right (And.right (And.right (by with_reducible assumption))))))))))))) | with_reducible exact (And.right (by with_reducible assumption)) | with_reducible exact (And.right (And.right (by with_reducible assumption))) | with_reducible exact (And.right (And.right (And.right (by with_reducible assumption)))) | with_reducible exact (And.right (And.right (And.right (And.right (by with_reducible assumption))))) | with_reducible exact (And.right (And.right (And.right (And.right (And.right (by with_reducible assumption)))))) | with_reducible exact (And.right (And.right (And.right (And.right (And.right (And.right (by with_reducible assumption))))))))) | (refine Nat.ne_of_gt ?_; (first | with_reducible assumption | with_reducible exact And.left (by with_reducible assumption) | with_reducible exact And.left (And.right (by with_reducible assumption)) | with_reducible exact And.left (And.right (And.right (by with_reducible assumption))) | with_reducible exact And.left (And.right (And.right (And.right (by with_reducible assumption)))) | with_reducible exact And.left (And.right (And.right (And.right (And.right (by with_reducible assumption))))) | with_reducible exact And.left (And.right (And.right (And.right (And.right (And.right (by with_reducible assumption)))))) | with_reducible exact And.left (And.right (And.right (And.right (And.right (And.right (And.right (by with_reducible assumption))))))) | with_reducible exact And.left (And.right (And.right (And.right (And.right (And.right (And.right (And.right (by with_reducible assumption)))))))) | with_reducible exact And.left (And.right (And.right (And.right (And.right (And.right (And.right (And.right (And.right (by with_reducible assumption))))))))) | with_reducible exact And.left (And.right (And.right (And.right (And.right (And.right (And.right (And.right (And.right (And.right (by with_reducible assumption)))))))))) | with_reducible exact And.left (And.right (And.right (And.right (And.right (And.right (And.right (And.right (And.right (And.right (And.right (by with_reducible assumption))))))))))) | with_reducible exact And.left (And.right (And.right (And.right (And.right (And.right (And.right (And.right (And.right (And.right (And.right (And.right (by with_reducible assumption)))))))))))) | with_reducible exact And.left (And.right (And.right (And.right (And.right (And.right (And.right (And.right (And.right (And.right (And.right (And.right (And.right (by with_reducible assumption))))))))))))) | with_reducible exact (And.right (by with_reducible assumption)) | with_reducible exact (And.right (And.right (by with_reducible assumption))) | with_reducible exact (And.right (And.right (And.right (by with_reducible assumption)))) | with_reducible exact (And.right (And.right (And.right (And.right (by with_reducible assumption))))) | with_reducible exact (And.right (And.right (And.right (And.right (And.right (by with_reducible assumption)))))) | with_reducible exact (And.right (And.right (And.right (And.right (And.right (And.right (by with_reducible assumption))))))))) | omega)
  k_with "mcall" => ((with_reducible show wpAny _ _ (call (Value.ref (nat_lit 84)) [Value.int _ _]) _ _ _); k_dflt (refine' c1_claim ?k1 ?k2 ?k3 ?k4 ?k5 ?k6 ?k7 ?k8 ?kp ?_; (case k1 => k_asm); (case k2 => k_asm); (case k3 => k_asm); (case k4 => k_asm); (case k5 => k_asm); (case k6 => first | exact rfl | assumption); (case k7 => ktr_room); (case k8 => ktr_units); (case kp => omega)); intro t9 h9 tk9 F9 N9; (have hc19 := c1_room (by assumption) (by omega)); (try dsimp only); (try k_fold))
  k_with "mcall" => ((with_reducible show wpAny _ _ (call (Value.ref (nat_lit 91)) [Value.int _ _]) _ _ _); k_dflt (refine' numref_claim ?k1 ?k2 ?k3 ?k4 ?k5 ?k6 ?k7 ?k8 ?kp ?_; (case k1 => k_asm); (case k2 => k_asm); (case k3 => k_asm); (case k4 => k_asm); (case k5 => k_asm); (case k6 => first | exact rfl | assumption); (case k7 => ktr_room); (case k8 => ktr_units); (case kp => omega)); intro D9 o9 h9 tk9 P9 F9 N9 l9; (try k_lt l9); k_dflt (unfold PairIs at P9; rcases P9 with ⟨t19, c19, hf9, he9⟩ | ⟨t19, f9, t29, c19, hf9, he9⟩); all_goals ((subst he9); (try dsimp only); (try k_fold)))
  k_with "mcall" => ((with_reducible show wpAny _ _ (call (Value.ref (nat_lit 531)) [Value.int _ _]) _ _ _); k_dflt (refine' meant_claim ?k1 ?k2 ?k3 ?k4 ?k5 ?k6 ?k7 ?k8 ?kp ?_; (case k1 => k_asm); (case k2 => k_asm); (case k3 => k_asm); (case k4 => k_asm); (case k5 => k_asm); (case k6 => first | exact rfl | assumption); (case k7 => ktr_room); (case k8 => ktr_units); (case kp => omega)); intro D9 o9 h9 tk9 P9 F9 N9 l9; (try k_lt l9); k_dflt (unfold PairIs at P9; rcases P9 with ⟨t19, c19, hf9, he9⟩ | ⟨t19, f9, t29, c19, hf9, he9⟩); all_goals ((subst he9); (try dsimp only); (try k_fold)))
  k_with "mcall" => ((with_reducible show wpAny _ _ (call (Value.ref (nat_lit 524)) [Value.int _ _, Value.int _ _]) _ _ _); k_dflt (refine' lawCode_claim ?k1 ?k2 ?k3 ?k4 ?k5 ?k6 ?k7 ?k8 ?kp ?kq ?_; (case k1 => k_asm); (case k2 => k_asm); (case k3 => k_asm); (case k4 => k_asm); (case k5 => k_asm); (case k6 => first | exact rfl | assumption); (case k7 => ktr_room); (case k8 => ktr_units); (case kp => with_reducible assumption); (case kq => with_reducible assumption)); intro c9 t9 h9 tk9 hlo9 hhi9 F9 N9; (try dsimp only); (try k_fold))
  k_with "mcall" => ((with_reducible show wpAny _ _ (call (Value.ref (nat_lit 538)) [Value.int _ _, Value.int _ _, Value.int _ _]) _ _ _); k_dflt (first | (refine' digits16_claim ?k1 ?k2 ?k3 ?k4 ?k5 ?k6 ?k7 ?k8 ?kp ?kq ?_; (case k1 => k_asm); (case k2 => k_asm); (case k3 => k_asm); (case k4 => k_asm); (case k5 => k_asm); (case k6 => first | exact rfl | assumption); (case k7 => ktr_room); (case k8 => ktr_units); (case kp => with_reducible assumption); (case kq => with_reducible assumption)) | (refine' digits10_claim ?k1 ?k2 ?k3 ?k4 ?k5 ?k6 ?k7 ?k8 ?kp ?kq ?_; (case k1 => k_asm); (case k2 => k_asm); (case k3 => k_asm); (case k4 => k_asm); (case k5 => k_asm); (case k6 => first | exact rfl | assumption); (case k7 => ktr_room); (case k8 => ktr_units); (case kp => with_reducible assumption); (case kq => with_reducible assumption))); intro d9 t9 h9 tk9 I9 E9 hl9 F9 N9; (try dsimp only); (try k_fold))
  k_with "mcall" => ((with_reducible show wpAny _ _ (call (Value.ref (nat_lit 517)) [Value.ref _, Value.int _ _]) _ _ _); k_dflt (refine' pick_claim ?k1 ?k2 ?k3 ?k4 ?k5 ?k6 ?k7 ?k8 ?kt ?ke ?kp ?kq ?_; (case k1 => k_asm); (case k2 => k_asm); (case k3 => k_asm); (case k4 => k_asm); (case k5 => k_asm); (case k6 => first | exact rfl | assumption); (case k7 => ktr_room); (case k8 => ktr_units); (case kt => repeat' (first | exact Take1.head | apply Take1.tail)); (case ke => k_all); (case kp => decide); (case kq => intro v9; exact PyProof.noPylong_of_log2 (by decide +kernel))); intro r9 v9 t9 t99 c9 h9 tk9 hlo9 hhi9 F9 N9; (try dsimp only); (try k_fold))
  k_with "mcall" => ((with_reducible show wpAny _ _ (call (Value.ref (nat_lit 327)) _) _ _ _); k_dflt (refine' next_claim ?k1 ?k2 ?k3 ?k4 ?k5 ?k6 ?k7 ?k8 ?kD ?kS ?kL ?k0 ?_; (case k1 => k_asm); (case k2 => k_asm); (case k3 => k_asm); (case k4 => k_asm); (case k5 => k_asm); (case k6 => first | exact rfl | assumption); (case k7 => ktr_room); (case k8 => ktr_units); (case kD => assumption); (case kS => assumption); (case kL => assumption); (case k0 => assumption)); intro t9 ta9 h9 tk9 F9 N9; (try rw [hc]); (try dsimp only); (try k_fold))
  k_with "mcall" => ((with_reducible show wpAny _ _ (call (Value.ref (nat_lit 341)) _) _ _ _); k_dflt (refine' again_claim ?k1 ?k2 ?k3 ?k4 ?k5 ?k6 ?k7 ?k8 ?kD ?_; (case k1 => k_asm); (case k2 => k_asm); (case k3 => k_asm); (case k4 => k_asm); (case k5 => k_asm); (case k6 => first | exact rfl | assumption); (case k7 => ktr_room); (case k8 => ktr_units); (case kD => assumption)); intro ta9 ts9 h9 tk9 F9 N9; (try dsimp only); (try k_fold))
  k_with "mcall" => ((with_reducible show wpAny _ _ (call (Value.ref (nat_lit 348)) _) _ _ _); k_dflt (refine' error2_claim ?k1 ?k2 ?k3 ?k4 ?k5 ?k6 ?k7 ?k8 ?kD ?kS ?kE ?kL ?_; (case k1 => k_asm); (case k2 => k_asm); (case k3 => k_asm); (case k4 => k_asm); (case k5 => k_asm); (case k6 => first | exact rfl | assumption); (case k7 => ktr_room); (case k8 => ktr_units); (case kD => assumption); (case kS => assumption); (case kE => assumption); (case kL => assumption)); intro ev9 rest9 all9 ne9 h9 tk9 SK9 D9 hde9 hsub9 F9 N9; (have hdd9 := D9.d); (try dsimp only); (try k_fold))
  k_with "mcall" => ((with_reducible show wpAny _ _ (call (Value.ref (nat_lit 426)) _) _ _ _); k_dflt (refine' flush_claim ?k1 ?k2 ?k3 ?k4 ?k5 ?k6 ?k7 ?k8 ?kD ?kS ?kE ?kL ?_; (case k1 => k_asm); (case k2 => k_asm); (case k3 => k_asm); (case k4 => k_asm); (case k5 => k_asm); (case k6 => first | exact rfl | assumption); (case k7 => ktr_room); (case k8 => ktr_units); (case kD => assumption); (case kS => assumption); (case kE => assumption); (case kL => assumption)); intro all8 rest8 tf8 h8 tk8 hsub8 D8 SK8 F8 N8; (have hdd8 := D8.d); (try dsimp only); (try k_fold))
  k_with "mcall" => ((with_reducible show wpAny _ _ (call (Value.ref (nat_lit 42)) _) _ _ _); k_dflt (refine' ishex_claim ?k1 ?k2 ?k3 ?k4 ?k5 ?k6 ?k7 ?k8 ?kC ?_; (case k1 => k_asm); (case k2 => k_asm); (case k3 => k_asm); (case k4 => k_asm); (case k5 => k_asm); (case k6 => first | exact rfl | assumption); (case k7 => ktr_room); (case k8 => ktr_units); (case kC => first | assumption | decide)); intro b9 h9 tk9 hb9 F9 N9; rw [hfit] at hb9; subst hb9; (try dsimp only); (try k_fold))
  k_with "mcall" => ((with_reducible show wpAny _ _ (call (Value.ref (nat_lit 35)) _) _ _ _); k_dflt (refine' isdig_claim ?k1 ?k2 ?k3 ?k4 ?k5 ?k6 ?k7 ?k8 ?kC ?_; (case k1 => k_asm); (case k2 => k_asm); (case k3 => k_asm); (case k4 => k_asm); (case k5 => k_asm); (case k6 => first | exact rfl | assumption); (case k7 => ktr_room); (case k8 => ktr_units); (case kC => first | assumption | decide)); intro b9 h9 tk9 hb9 F9 N9; rw [hfit] at hb9; subst hb9; (try dsimp only); (try k_fold))
  k_with "mcall" => ((with_reducible show wpAny _ _ (call (Value.ref (nat_lit 56)) _) _ _ _); k_dflt (refine' dval_claim ?k1 ?k2 ?k3 ?k4 ?k5 ?k6 ?k7 ?k8 ?kC ?_; (case k1 => k_asm); (case k2 => k_asm); (case k3 => k_asm); (case k4 => k_asm); (case k5 => k_asm); (case k6 => first | exact rfl | assumption); (case k7 => ktr_room); (case k8 => ktr_units); (case kC => assumption)); intro t9 h9 tk9 F9 N9; (try dsimp only); (try k_fold))
  k_with "eval Call" => (k_here; k_dflt (refine Call_ ?_))
  k_with "compareOp NotIn str ref" => (k_here; k_dflt (first | refine kdg_notin (knd := PySem.strKind _ _) (by k_asm) (by k_mem) (by k_asm) (by k_asm) (strKind_is _ _ _ _) true (by rfl) ?_ | refine kdg_notin (knd := PySem.strKind _ _) (by k_asm) (by k_mem) (by k_asm) (by k_asm) (strKind_is _ _ _ _) false (by rfl) ?_); (try dsimp only [Bool.not_true, Bool.not_false]))
  k_with "subscriptTail" => (k_here; (with_reducible show wpAny _ _ (subscriptTail _ _ (Value.ref _) (Value.str _ _)) _ _ _); k_dflt (refine kda_item (knd := PySem.strKind _ _) (by k_asm) (by k_mem) (by k_asm) (strKind_is _ _ _ _) (by rfl) ?_))
  trivial
section
theorem wdN11x1 : True := by
  k_with "kall" => assumption
  trivial
theorem fn3h {w : World} {mean : ExcName → Option Value} {mg mb : PySem.Str → Option Value} {dp un : Nat} {gd : Option (List Code)} {cn : PySem.Str} {cs : Scope} {a : Addr} {ccd : Value} {cl : List (PySem.Str × Addr)} {outer : List Env} {A₀ : Around} {base h₀ : Heap} {L : Addr} {m : PySem.Str → Option Value} {s : Shared} {Q E : Value → Shared → Prop} {Tk Td S SD ST G E' O SE : Addr} {gv ev : List Value} {K : KT} {KR : KR} {so : Obj} {ng ne : Nat} {ret : Bool} {at' cd : Int} {ta ts tb tf tc : Tok} {st bk bf : PySem.Str} {dv lv : Value} {rest : List (Addr × Obj)} {txt l : List Nat} {errs : List Dat} {all : List (Addr × Obj)} (B : Below A₀ base outer h₀) (F : Fr h₀ L s.heap m) (X : (Mine.top.heap_1 w.params).In h₀) (N : News h₀ L s.heap ((Tk, instObj 450 Td) :: (Td, tkD w K ST S O E' at' ta st ts bk tb dv bf tf cd tc lv) :: (S, instObj 287 SD) :: (SD, stD w KR G SE ret) :: (G, listOf gv.toArray ng) :: (E', listOf ev.toArray ne) :: (ST, so) :: all)) (T : Top q (looseW q []) mean mg mb h₀) (hk : cs.kind = .function) (hd : dp + 8 < recursionLimit) (hu : un + 64 < cLine) (D : Dis Tk Td S SD G E' ST all) (SK : Sink w Tk Td S SD G E' O ST bk dv txt rest all) (hde : DatAll rest ev errs) (hel : errs.length ≤ 10) (hso : Obj.IsDictOf (PySem.strKind rw'.row.prog w) so stK) (hlo : (ST == sysModules) = false) (hsg : SignsAre gv l) (hlen : l.length ≤ 100) (h0 : 0 ≤ at') {cx : PySem.Str}  (hc : sgn l at' = cx) (hfit : hexS cx = true) (hcl : cx.length ≤ 1)
   (hret : ∀ (ta' ts' : Tok) (h' : Heap) (tk' : Nat), Fr h₀ L h' m → News h₀ L h' ((Tk, instObj 450 Td) :: (Td, tkD w K ST S O E' (at' + 1 - 1) ta' (PySem.Str.ofString "hexadecimal character reference") ts' bk tb dv bf tf cd tc lv) :: (S, instObj 287 SD) :: (SD, stD w KR G SE ret) :: (G, listOf gv.toArray ng) :: (E', listOf ev.toArray ne) :: (ST, so) :: all) → Q .none { s with heap := h', toks := tk' })
    : wpAny (model rw'.row.toRowW.prog w) (ktrTop dp un gd cn cs L a ccd cl outer) (call (.ref 168) [.ref Tk]) Q E s := by
  obtain ⟨a1, a2, a3, a4, a5, a6, b1, b2, b3, b4, b6, hdd, hdE⟩ := id D
  revert X
  k_fill
  intro X
  refine wpAny_call ?_
  k_dflt cell_enter
  k_steps
  all_goals (rename Fr h₀ L _ _ => kF9; rename News h₀ L _ _ => kN9; exact hret _ _ _ _ kF9 kN9)
theorem fn3he {w : World} {mean : ExcName → Option Value} {mg mb : PySem.Str → Option Value} {dp un : Nat} {gd : Option (List Code)} {cn : PySem.Str} {cs : Scope} {a : Addr} {ccd : Value} {cl : List (PySem.Str × Addr)} {outer : List Env} {A₀ : Around} {base h₀ : Heap} {L : Addr} {m : PySem.Str → Option Value} {s : Shared} {Q E : Value → Shared → Prop} {Tk Td S SD ST G E' O SE : Addr} {gv ev : List Value} {K : KT} {KR : KR} {so : Obj} {ng ne : Nat} {ret : Bool} {at' cd : Int} {ta ts tb tf tc : Tok} {st bk bf : PySem.Str} {dv lv : Value} {rest : List (Addr × Obj)} {txt l : List Nat} {errs : List Dat} {all : List (Addr × Obj)} (B : Below A₀ base outer h₀) (F : Fr h₀ L s.heap m) (X : (Mine.top.heap_1 w.params).In h₀) (N : News h₀ L s.heap ((Tk, instObj 450 Td) :: (Td, tkD w K ST S O E' at' ta st ts bk tb dv bf tf cd tc lv) :: (S, instObj 287 SD) :: (SD, stD w KR G SE ret) :: (G, listOf gv.toArray ng) :: (E', listOf ev.toArray ne) :: (ST, so) :: all)) (T : Top q (looseW q []) mean mg mb h₀) (hk : cs.kind = .function) (hd : dp + 8 < recursionLimit) (hu : un + 64 < cLine) (D : Dis Tk Td S SD G E' ST all) (SK : Sink w Tk Td S SD G E' O ST bk dv txt rest all) (hde : DatAll rest ev errs) (hel : errs.length ≤ 10) (hso : Obj.IsDictOf (PySem.strKind rw'.row.prog w) so stK) (hlo : (ST == sysModules) = false) (hsg : SignsAre gv l) (hlen : l.length ≤ 100) (h0 : 0 ≤ at') {cx : PySem.Str}  (hc : sgn l at' = cx) (hfit : hexS cx = false) (hcl : cx.length ≤ 1) (hbl : bf.length ≤ 50) (htl : txt.length ≤ 50)
   (hret : ∀ (ev' : List Value) (rest' all' : List (Addr × Obj)) (ne' : Nat) (ta' ts' tf' : Tok) (h' : Heap) (tk' : Nat), Sink w Tk Td S SD G E' O ST bk dv (txt ++ bf.cps.toList) rest' all' → Dis Tk Td S SD G E' ST all' → DatAll rest' ev' (errs ++ [errD absS (at' + 1 - 1)]) → (∀ p ∈ rest, p ∈ rest') → Fr h₀ L h' m → News h₀ L h' ((Tk, instObj 450 Td) :: (Td, tkD w K ST S O E' (at' + 1 - 1) ta' bk ts' bk tb dv (PySem.Str.ofString "") tf' cd tc lv) :: (S, instObj 287 SD) :: (SD, stD w KR G SE ret) :: (G, listOf gv.toArray ng) :: (E', listOf ev'.toArray ne') :: (ST, so) :: all') → Q .none { s with heap := h', toks := tk' })
    : wpAny (model rw'.row.toRowW.prog w) (ktrTop dp un gd cn cs L a ccd cl outer) (call (.ref 168) [.ref Tk]) Q E s := by
  obtain ⟨a1, a2, a3, a4, a5, a6, b1, b2, b3, b4, b6, hdd, hdE⟩ := id D
  revert X
  k_fill
  intro X
  refine wpAny_call ?_
  k_dflt cell_enter
  k_steps
  all_goals (rename Fr h₀ L _ _ => kF9; rename News h₀ L _ _ => kN9; exact hret _ _ _ _ _ _ _ _ _ SK8 D8 (DatAll.mono hsub8 hde9) (fun p hp => hsub8 p (hsub9 p hp)) kF9 kN9)
theorem fn3d {w : World} {mean : ExcName → Option Value} {mg mb : PySem.Str → Option Value} {dp un : Nat} {gd : Option (List Code)} {cn : PySem.Str} {cs : Scope} {a : Addr} {ccd : Value} {cl : List (PySem.Str × Addr)} {outer : List Env} {A₀ : Around} {base h₀ : Heap} {L : Addr} {m : PySem.Str → Option Value} {s : Shared} {Q E : Value → Shared → Prop} {Tk Td S SD ST G E' O SE : Addr} {gv ev : List Value} {K : KT} {KR : KR} {so : Obj} {ng ne : Nat} {ret : Bool} {at' cd : Int} {ta ts tb tf tc : Tok} {st bk bf : PySem.Str} {dv lv : Value} {rest : List (Addr × Obj)} {txt l : List Nat} {errs : List Dat} {all : List (Addr × Obj)} (B : Below A₀ base outer h₀) (F : Fr h₀ L s.heap m) (X : (Mine.top.heap_1 w.params).In h₀) (N : News h₀ L s.heap ((Tk, instObj 450 Td) :: (Td, tkD w K ST S O E' at' ta st ts bk tb dv bf tf cd tc lv) :: (S, instObj 287 SD) :: (SD, stD w KR G SE ret) :: (G, listOf gv.toArray ng) :: (E', listOf ev.toArray ne) :: (ST, so) :: all)) (T : Top q (looseW q []) mean mg mb h₀) (hk : cs.kind = .function) (hd : dp + 8 < recursionLimit) (hu : un + 64 < cLine) (D : Dis Tk Td S SD G E' ST all) (SK : Sink w Tk Td S SD G E' O ST bk dv txt rest all) (hde : DatAll rest ev errs) (hel : errs.length ≤ 10) (hso : Obj.IsDictOf (PySem.strKind rw'.row.prog w) so stK) (hlo : (ST == sysModules) = false) (hsg : SignsAre gv l) (hlen : l.length ≤ 100) (h0 : 0 ≤ at') {cx : PySem.Str}  (hc : sgn l at' = cx) (hfit : digS cx = true) (hcl : cx.length ≤ 1)
   (hret : ∀ (ta' ts' : Tok) (h' : Heap) (tk' : Nat), Fr h₀ L h' m → News h₀ L h' ((Tk, instObj 450 Td) :: (Td, tkD w K ST S O E' (at' + 1 - 1) ta' (PySem.Str.ofString "decimal character reference") ts' bk tb dv bf tf cd tc lv) :: (S, instObj 287 SD) :: (SD, stD w KR G SE ret) :: (G, listOf gv.toArray ng) :: (E', listOf ev.toArray ne) :: (ST, so) :: all) → Q .none { s with heap := h', toks := tk' })
    : wpAny (model rw'.row.toRowW.prog w) (ktrTop dp un gd cn cs L a ccd cl outer) (call (.ref 175) [.ref Tk]) Q E s := by
  obtain ⟨a1, a2, a3, a4, a5, a6, b1, b2, b3, b4, b6, hdd, hdE⟩ := id D
  revert X
  k_fill
  intro X
  refine wpAny_call ?_
  k_dflt cell_enter
  k_steps
  all_goals (rename Fr h₀ L _ _ => kF9; rename News h₀ L _ _ => kN9; exact hret _ _ _ _ kF9 kN9)
theorem fn3de {w : World} {mean : ExcName → Option Value} {mg mb : PySem.Str → Option Value} {dp un : Nat} {gd : Option (List Code)} {cn : PySem.Str} {cs : Scope} {a : Addr} {ccd : Value} {cl : List (PySem.Str × Addr)} {outer : List Env} {A₀ : Around} {base h₀ : Heap} {L : Addr} {m : PySem.Str → Option Value} {s : Shared} {Q E : Value → Shared → Prop} {Tk Td S SD ST G E' O SE : Addr} {gv ev : List Value} {K : KT} {KR : KR} {so : Obj} {ng ne : Nat} {ret : Bool} {at' cd : Int} {ta ts tb tf tc : Tok} {st bk bf : PySem.Str} {dv lv : Value} {rest : List (Addr × Obj)} {txt l : List Nat} {errs : List Dat} {all : List (Addr × Obj)} (B : Below A₀ base outer h₀) (F : Fr h₀ L s.heap m) (X : (Mine.top.heap_1 w.params).In h₀) (N : News h₀ L s.heap ((Tk, instObj 450 Td) :: (Td, tkD w K ST S O E' at' ta st ts bk tb dv bf tf cd tc lv) :: (S, instObj 287 SD) :: (SD, stD w KR G SE ret) :: (G, listOf gv.toArray ng) :: (E', listOf ev.toArray ne) :: (ST, so) :: all)) (T : Top q (looseW q []) mean mg mb h₀) (hk : cs.kind = .function) (hd : dp + 8 < recursionLimit) (hu : un + 64 < cLine) (D : Dis Tk Td S SD G E' ST all) (SK : Sink w Tk Td S SD G E' O ST bk dv txt rest all) (hde : DatAll rest ev errs) (hel : errs.length ≤ 10) (hso : Obj.IsDictOf (PySem.strKind rw'.row.prog w) so stK) (hlo : (ST == sysModules) = false) (hsg : SignsAre gv l) (hlen : l.length ≤ 100) (h0 : 0 ≤ at') {cx : PySem.Str}  (hc : sgn l at' = cx) (hfit : digS cx = false) (hcl : cx.length ≤ 1) (hbl : bf.length ≤ 50) (htl : txt.length ≤ 50)
   (hret : ∀ (ev' : List Value) (rest' all' : List (Addr × Obj)) (ne' : Nat) (ta' ts' tf' : Tok) (h' : Heap) (tk' : Nat), Sink w Tk Td S SD G E' O ST bk dv (txt ++ bf.cps.toList) rest' all' → Dis Tk Td S SD G E' ST all' → DatAll rest' ev' (errs ++ [errD absS (at' + 1 - 1)]) → (∀ p ∈ rest, p ∈ rest') → Fr h₀ L h' m → News h₀ L h' ((Tk, instObj 450 Td) :: (Td, tkD w K ST S O E' (at' + 1 - 1) ta' bk ts' bk tb dv (PySem.Str.ofString "") tf' cd tc lv) :: (S, instObj 287 SD) :: (SD, stD w KR G SE ret) :: (G, listOf gv.toArray ng) :: (E', listOf ev'.toArray ne') :: (ST, so) :: all') → Q .none { s with heap := h', toks := tk' })
    : wpAny (model rw'.row.toRowW.prog w) (ktrTop dp un gd cn cs L a ccd cl outer) (call (.ref 175) [.ref Tk]) Q E s := by
  obtain ⟨a1, a2, a3, a4, a5, a6, b1, b2, b3, b4, b6, hdd, hdE⟩ := id D
  revert X
  k_fill
  intro X
  refine wpAny_call ?_
  k_dflt cell_enter
  k_steps
  all_goals (rename Fr h₀ L _ _ => kF9; rename News h₀ L _ _ => kN9; exact hret _ _ _ _ _ _ _ _ _ SK8 D8 (DatAll.mono hsub8 hde9) (fun p hp => hsub8 p (hsub9 p hp)) kF9 kN9)
end

theorem rsN12 : True := by
  k_with_none
  k_with "kne" => (refine neN ?_; (try dsimp only); first | with_reducible assumption | with_reducible exact Ne.symm (by with_reducible assumption) | (refine Nat.ne_of_lt ?_; (first | with_reducible assumption | with_reducible exact And.left (by with_reducible assumption) | with_reducible exact And.left (And.right (by with_reducible assumption)) | with_reducible exact And.left (And.right (And.right (by with_reducible assumption))) | with_reducible exact And.left (And.right (And.right (And.right (by with_reducible assumption)))) | with_reducible exact And.left (And.right (And.right (And.right (And.right (by with_reducible assumption))))) | with_reducible exact And.left (And.right (And.right (And.right (And.right (And.right (by with_reducible assumption)))))) | with_reducible exact And.left (And.right (And.right (And.right (And.right (And.right (And.right (by with_reducible assumption))))))) | with_reducible exact And.left (And.right (And.right (And.right (And.right (And.right (And.right (And.right (by with_reducible assumption)))))))) | with_reducible exact And.left (And.right (And.right (And.right (And.right (And.right (And.right (And.right (And.right (by with_reducible assumption))))))))) | with_reducible exact And.left (And.right (And.right (And.right (And.right (And.right (And.right (And.right (And.right (And.right (by with_reducible assumption)))))))))) | with_reducible exact And.left (And.right (And.right (And.right (And.right (And.right (And.right (And.right (And.right (And.right (And.right (by with_reducible assumption))))))))))) | with_reducible exact And.left (And.right (And.right (And.right (And.right (And.right (And.right (And.right (And.right (And.right (And.right (And.right (by with_reducible assumption)))))))))))) | with_reducible exact And.left (And.right (And.right (And.right (And.right (And.right (And.right (And.right (And.right (And.right (And.right (And.right (And.right (by with_reducible assumption))))))))))))) | with_reducible exact (And.right (by with_reducible assumption)) | with_reducible exact (And.right (And.right (by with_reducible assumption))) | with_reducible exact (And.right (And.right (And.right (by with_reducible assumption)))) | with_reducible exact (And.right (And.right (And.right (And.right (by with_reducible assumption))))) | with_reducible exact (And.right (And.right (And.right (And.right (And.right (by with_reducible assumption)))))) | with_reducible exact (And.right (And.right (And.right (And.right (And.right (And.right (by with_reducible assumption))))))))) | (refine Nat.ne_of_gt ?_; (first | with_reducible assumption | with_reducible exact And.left (by with_reducible assumption) | with_reducible exact And.left (And.right (by with_reducible assumption)) | with_reducible exact And.left (And.right (And.right (by with_reducible assumption))) | with_reducible exact And.left (And.right (And.right (And.right (by with_reducible assumption)))) | with_reducible exact And.left (And.right (And.right (And.right (And.right (by with_reducible assumption))))) | with_reducible exact And.left (And.right (And.right (And.right (And.right (And.right (by with_reducible assumption)))))) | with_reducible exact And.left (And.right (And.right (And.right (And.right (And.right (And.right (by with_reducible assumption))))))) | with_reducible exact And.left (And.right (And.right (And.right (And.right (And.right (And.right (And.right (by with_reducible assumption)))))))) | with_reducible exact And.left (And.right (And.right (And.right (And.right (And.right (And.right (And.right (And.right (by with_reducible assumption))))))))) | with_reducible exact And.left (And.right (And.right (And.right (And.right (And.right (And.right (And.right (And.right (And.right (by with_reducible assumption)))))))))) | with_reducible exact And.left (And.right (And.right (And.right (And.right (And.right (And.right (And.right (And.right (And.right (And.right (by with_reducible assumption))))))))))) | with_reducible exact And.left (And.right (And.right (And.right (And.right (And.right (And.right (And.right (And.right (And.right (And.right (And.right (by with_reducible assumption)))))))))))) | with_reducible exact And.left (And.right (And.right (And.right (And.right (And.right (And.right (And.right (And.right (And.right (And.right (And.right (And.right (by with_reducible assumption))))))))))))) | with_reducible exact (And.right (by with_reducible assumption)) | with_reducible exact (And.right (And.right (by with_reducible assumption))) | with_reducible exact (And.right (And.right (And.right (by with_reducible assumption)))) | with_reducible exact (And.right (And.right (And.right (And.right (by with_reducible assumption))))) | with_reducible exact (And.right (And.right (And.right (And.right (And.right (by with_reducible assumption)))))) | with_reducible exact (And.right (And.right (And.right (And.right (And.right (And.right (by with_reducible assumption))))))))) | omega)
  k_with "mcall" => ((with_reducible show wpAny _ _ (call (Value.ref (nat_lit 84)) [Value.int _ _]) _ _ _); k_dflt (refine' c1_claim ?k1 ?k2 ?k3 ?k4 ?k5 ?k6 ?k7 ?k8 ?kp ?_; (case k1 => k_asm); (case k2 => k_asm); (case k3 => k_asm); (case k4 => k_asm); (case k5 => k_asm); (case k6 => first | exact rfl | assumption); (case k7 => ktr_room); (case k8 => ktr_units); (case kp => omega)); intro t9 h9 tk9 F9 N9; (have hc19 := c1_room (by assumption) (by omega)); (try dsimp only); (try k_fold))
  k_with "mcall" => ((with_reducible show wpAny _ _ (call (Value.ref (nat_lit 91)) [Value.int _ _]) _ _ _); k_dflt (refine' numref_claim ?k1 ?k2 ?k3 ?k4 ?k5 ?k6 ?k7 ?k8 ?kp ?_; (case k1 => k_asm); (case k2 => k_asm); (case k3 => k_asm); (case k4 => k_asm); (case k5 => k_asm); (case k6 => first | exact rfl | assumption); (case k7 => ktr_room); (case k8 => ktr_units); (case kp => omega)); intro D9 o9 h9 tk9 P9 F9 N9 l9; (try k_lt l9); k_dflt (unfold PairIs at P9; rcases P9 with ⟨t19, c19, hf9, he9⟩ | ⟨t19, f9, t29, c19, hf9, he9⟩); all_goals ((subst he9); (try dsimp only); (try k_fold)))
  k_with "mcall" => ((with_reducible show wpAny _ _ (call (Value.ref (nat_lit 531)) [Value.int _ _]) _ _ _); k_dflt (refine' meant_claim ?k1 ?k2 ?k3 ?k4 ?k5 ?k6 ?k7 ?k8 ?kp ?_; (case k1 => k_asm); (case k2 => k_asm); (case k3 => k_asm); (case k4 => k_asm); (case k5 => k_asm); (case k6 => first | exact rfl | assumption); (case k7 => ktr_room); (case k8 => ktr_units); (case kp => omega)); intro D9 o9 h9 tk9 P9 F9 N9 l9; (try k_lt l9); k_dflt (unfold PairIs at P9; rcases P9 with ⟨t19, c19, hf9, he9⟩ | ⟨t19, f9, t29, c19, hf9, he9⟩); all_goals ((subst he9); (try dsimp only); (try k_fold)))
  k_with "mcall" => ((with_reducible show wpAny _ _ (call (Value.ref (nat_lit 524)) [Value.int _ _, Value.int _ _]) _ _ _); k_dflt (refine' lawCode_claim ?k1 ?k2 ?k3 ?k4 ?k5 ?k6 ?k7 ?k8 ?kp ?kq ?_; (case k1 => k_asm); (case k2 => k_asm); (case k3 => k_asm); (case k4 => k_asm); (case k5 => k_asm); (case k6 => first | exact rfl | assumption); (case k7 => ktr_room); (case k8 => ktr_units); (case kp => with_reducible assumption); (case kq => with_reducible assumption)); intro c9 t9 h9 tk9 hlo9 hhi9 F9 N9; (try dsimp only); (try k_fold))
  k_with "mcall" => ((with_reducible show wpAny _ _ (call (Value.ref (nat_lit 538)) [Value.int _ _, Value.int _ _, Value.int _ _]) _ _ _); k_dflt (first | (refine' digits16_claim ?k1 ?k2 ?k3 ?k4 ?k5 ?k6 ?k7 ?k8 ?kp ?kq ?_; (case k1 => k_asm); (case k2 => k_asm); (case k3 => k_asm); (case k4 => k_asm); (case k5 => k_asm); (case k6 => first | exact rfl | assumption); (case k7 => ktr_room); (case k8 => ktr_units); (case kp => with_reducible assumption); (case kq => with_reducible assumption)) | (refine' digits10_claim ?k1 ?k2 ?k3 ?k4 ?k5 ?k6 ?k7 ?k8 ?kp ?kq ?_; (case k1 => k_asm); (case k2 => k_asm); (case k3 => k_asm); (case k4 => k_asm); (case k5 => k_asm); (case k6 => first | exact rfl | assumption); (case k7 => ktr_room); (case k8 => ktr_units); (case kp => with_reducible assumption); (case kq => with_reducible assumption))); intro d9 t9 h9 tk9 I9 E9 hl9 F9 N9; (try dsimp only); (try k_fold))
  k_with "mcall" => ((with_reducible show wpAny _ _ (call (Value.ref (nat_lit 517)) [Value.ref _, Value.int _ _]) _ _ _); k_dflt (refine' pick_claim ?k1 ?k2 ?k3 ?k4 ?k5 ?k6 ?k7 ?k8 ?kt ?ke ?kp ?kq ?_; (case k1 => k_asm); (case k2 => k_asm); (case k3 => k_asm); (case k4 => k_asm); (case k5 => k_asm); (case k6 => first | exact rfl | assumption); (case k7 => ktr_room); (case k8 => ktr_units); (case kt => repeat' (first | exact Take1.head | apply Take1.tail)); (case ke => k_all); (case kp => decide); (case kq => intro v9; exact PyProof.noPylong_of_log2 (by decide +kernel))); intro r9 v9 t9 t99 c9 h9 tk9 hlo9 hhi9 F9 N9; (try dsimp only); (try k_fold))
  k_with "mcall" => ((with_reducible show wpAny _ _ (call (Value.ref (nat_lit 327)) _) _ _ _); k_dflt (refine' next_claim ?k1 ?k2 ?k3 ?k4 ?k5 ?k6 ?k7 ?k8 ?kD ?kS ?kL ?k0 ?_; (case k1 => k_asm); (case k2 => k_asm); (case k3 => k_asm); (case k4 => k_asm); (case k5 => k_asm); (case k6 => first | exact rfl | assumption); (case k7 => ktr_room); (case k8 => ktr_units); (case kD => assumption); (case kS => assumption); (case kL => assumption); (case k0 => assumption)); intro t9 ta9 h9 tk9 F9 N9; (try rw [hc]); (try dsimp only); (try k_fold))
  k_with "mcall" => ((with_reducible show wpAny _ _ (call (Value.ref (nat_lit 341)) _) _ _ _); k_dflt (refine' again_claim ?k1 ?k2 ?k3 ?k4 ?k5 ?k6 ?k7 ?k8 ?kD ?_; (case k1 => k_asm); (case k2 => k_asm); (case k3 => k_asm); (case k4 => k_asm); (case k5 => k_asm); (case k6 => first | exact rfl | assumption); (case k7 => ktr_room); (case k8 => ktr_units); (case kD => assumption)); intro ta9 ts9 h9 tk9 F9 N9; (try dsimp only); (try k_fold))
  k_with "mcall" => ((with_reducible show wpAny _ _ (call (Value.ref (nat_lit 348)) _) _ _ _); k_dflt (refine' error2_claim ?k1 ?k2 ?k3 ?k4 ?k5 ?k6 ?k7 ?k8 ?kD ?kS ?kE ?kL ?_; (case k1 => k_asm); (case k2 => k_asm); (case k3 => k_asm); (case k4 => k_asm); (case k5 => k_asm); (case k6 => first | exact rfl | assumption); (case k7 => ktr_room); (case k8 => ktr_units); (case kD => assumption); (case kS => assumption); (case kE => assumption); (case kL => assumption)); intro ev9 rest9 all9 ne9 h9 tk9 SK9 D9 hde9 hsub9 F9 N9; (have hdd9 := D9.d); (try dsimp only); (try k_fold))
  k_with "mcall" => ((with_reducible show wpAny _ _ (call (Value.ref (nat_lit 426)) _) _ _ _); k_dflt (refine' flush_claim ?k1 ?k2 ?k3 ?k4 ?k5 ?k6 ?k7 ?k8 ?kD ?kS ?kE ?kL ?_; (case k1 => k_asm); (case k2 => k_asm); (case k3 => k_asm); (case k4 => k_asm); (case k5 => k_asm); (case k6 => first | exact rfl | assumption); (case k7 => ktr_room); (case k8 => ktr_units); (case kD => assumption); (case kS => assumption); (case kE => assumption); (case kL => assumption)); intro all8 rest8 tf8 h8 tk8 hsub8 D8 SK8 F8 N8; (have hdd8 := D8.d); (try dsimp only); (try k_fold))
  k_with "mcall" => ((with_reducible show wpAny _ _ (call (Value.ref (nat_lit 42)) _) _ _ _); k_dflt (refine' ishex_claim ?k1 ?k2 ?k3 ?k4 ?k5 ?k6 ?k7 ?k8 ?kC ?_; (case k1 => k_asm); (case k2 => k_asm); (case k3 => k_asm); (case k4 => k_asm); (case k5 => k_asm); (case k6 => first | exact rfl | assumption); (case k7 => ktr_room); (case k8 => ktr_units); (case kC => first | assumption | decide)); intro b9 h9 tk9 hb9 F9 N9; rw [hfit] at hb9; subst hb9; (try dsimp only); (try k_fold))
  k_with "mcall" => ((with_reducible show wpAny _ _ (call (Value.ref (nat_lit 35)) _) _ _ _); k_dflt (refine' isdig_claim ?k1 ?k2 ?k3 ?k4 ?k5 ?k6 ?k7 ?k8 ?kC ?_; (case k1 => k_asm); (case k2 => k_asm); (case k3 => k_asm); (case k4 => k_asm); (case k5 => k_asm); (case k6 => first | exact rfl | assumption); (case k7 => ktr_room); (case k8 => ktr_units); (case kC => first | assumption | decide)); intro b9 h9 tk9 hb9 F9 N9; rw [hfit] at hb9; subst hb9; (try dsimp only); (try k_fold))
  k_with "mcall" => ((with_reducible show wpAny _ _ (call (Value.ref (nat_lit 56)) _) _ _ _); k_dflt (refine' dval_claim ?k1 ?k2 ?k3 ?k4 ?k5 ?k6 ?k7 ?k8 ?kC ?_; (case k1 => k_asm); (case k2 => k_asm); (case k3 => k_asm); (case k4 => k_asm); (case k5 => k_asm); (case k6 => first | exact rfl | assumption); (case k7 => ktr_room); (case k8 => ktr_units); (case kC => assumption)); intro t9 h9 tk9 F9 N9; (try dsimp only); (try k_fold))
  k_with "eval Call" => (k_here; k_dflt (refine Call_ ?_))
  k_with "compareOp NotIn str ref" => (k_here; k_dflt (first | refine kdg_notin (knd := PySem.strKind _ _) (by k_asm) (by k_mem) (by k_asm) (by k_asm) (strKind_is _ _ _ _) true (by rfl) ?_ | refine kdg_notin (knd := PySem.strKind _ _) (by k_asm) (by k_mem) (by k_asm) (by k_asm) (strKind_is _ _ _ _) false (by rfl) ?_); (try dsimp only [Bool.not_true, Bool.not_false]))
  k_with "subscriptTail" => (k_here; (with_reducible show wpAny _ _ (subscriptTail _ _ (Value.ref _) (Value.str _ _)) _ _ _); k_dflt (refine kda_item (knd := PySem.strKind _ _) (by k_asm) (by k_mem) (by k_asm) (strKind_is _ _ _ _) (by rfl) ?_))
  trivial
section
theorem wdN12x1 : True := by
  k_with "kall" => assumption
  trivial
theorem fn4h {w : World} {mean : ExcName → Option Value} {mg mb : PySem.Str → Option Value} {dp un : Nat} {gd : Option (List Code)} {cn : PySem.Str} {cs : Scope} {a : Addr} {ccd : Value} {cl : List (PySem.Str × Addr)} {outer : List Env} {A₀ : Around} {base h₀ : Heap} {L : Addr} {m : PySem.Str → Option Value} {s : Shared} {Q E : Value → Shared → Prop} {Tk Td S SD ST G E' O SE : Addr} {gv ev : List Value} {K : KT} {KR : KR} {so : Obj} {ng ne : Nat} {ret : Bool} {at' cd : Int} {ta ts tb tf tc : Tok} {st bk bf : PySem.Str} {dv lv : Value} {rest : List (Addr × Obj)} {txt l : List Nat} {errs : List Dat} {all : List (Addr × Obj)} (B : Below A₀ base outer h₀) (F : Fr h₀ L s.heap m) (X : (Mine.top.heap_1 w.params).In h₀) (N : News h₀ L s.heap ((Tk, instObj 450 Td) :: (Td, tkD w K ST S O E' at' ta st ts bk tb dv bf tf cd tc lv) :: (S, instObj 287 SD) :: (SD, stD w KR G SE ret) :: (G, listOf gv.toArray ng) :: (E', listOf ev.toArray ne) :: (ST, so) :: all)) (T : Top q (looseW q []) mean mg mb h₀) (hk : cs.kind = .function) (hd : dp + 8 < recursionLimit) (hu : un + 64 < cLine) (D : Dis Tk Td S SD G E' ST all) (SK : Sink w Tk Td S SD G E' O ST bk dv txt rest all) (hde : DatAll rest ev errs) (hel : errs.length ≤ 10) (hso : Obj.IsDictOf (PySem.strKind rw'.row.prog w) so stK) (hlo : (ST == sysModules) = false) (hsg : SignsAre gv l) (hlen : l.length ≤ 100) (h0 : 0 ≤ at') {x : Nat}  (hc : sgn l at' = ⟨#[x]⟩) (hfit : hexS ⟨#[x]⟩ = true) (hcl : (⟨#[x]⟩ : PySem.Str).length ≤ 1) (hx : x < 0x110000) (hc0 : 0 ≤ cd) (hc1 : cd < 1267650600228229401496703205376)
   (hret : ∀ (ta' tc' : Tok) (h' : Heap) (tk' : Nat), Fr h₀ L h' m → News h₀ L h' ((Tk, instObj 450 Td) :: (Td, tkD w K ST S O E' (at' + 1) ta' st ts bk tb dv bf tf (cd * 16 + dval x) tc' lv) :: (S, instObj 287 SD) :: (SD, stD w KR G SE ret) :: (G, listOf gv.toArray ng) :: (E', listOf ev.toArray ne) :: (ST, so) :: all) → Q .none { s with heap := h', toks := tk' })
    : wpAny (model rw'.row.toRowW.prog w) (ktrTop dp un gd cn cs L a ccd cl outer) (call (.ref 189) [.ref Tk]) Q E s := by
  obtain ⟨a1, a2, a3, a4, a5, a6, b1, b2, b3, b4, b6, hdd, hdE⟩ := id D
  revert X
  k_fill
  intro X
  refine wpAny_call ?_
  k_dflt cell_enter
  k_steps
  all_goals (rename Fr h₀ L _ _ => kF9; rename News h₀ L _ _ => kN9; exact hret _ _ _ _ kF9 kN9)
theorem fn4hs {w : World} {mean : ExcName → Option Value} {mg mb : PySem.Str → Option Value} {dp un : Nat} {gd : Option (List Code)} {cn : PySem.Str} {cs : Scope} {a : Addr} {ccd : Value} {cl : List (PySem.Str × Addr)} {outer : List Env} {A₀ : Around} {base h₀ : Heap} {L : Addr} {m : PySem.Str → Option Value} {s : Shared} {Q E : Value → Shared → Prop} {Tk Td S SD ST G E' O SE : Addr} {gv ev : List Value} {K : KT} {KR : KR} {so : Obj} {ng ne : Nat} {ret : Bool} {at' cd : Int} {ta ts tb tf tc : Tok} {st bk bf : PySem.Str} {dv lv : Value} {rest : List (Addr × Obj)} {txt l : List Nat} {errs : List Dat} {all : List (Addr × Obj)} (B : Below A₀ base outer h₀) (F : Fr h₀ L s.heap m) (X : (Mine.top.heap_1 w.params).In h₀) (N : News h₀ L s.heap ((Tk, instObj 450 Td) :: (Td, tkD w K ST S O E' at' ta st ts bk tb dv bf tf cd tc lv) :: (S, instObj 287 SD) :: (SD, stD w KR G SE ret) :: (G, listOf gv.toArray ng) :: (E', listOf ev.toArray ne) :: (ST, so) :: all)) (T : Top q (looseW q []) mean mg mb h₀) (hk : cs.kind = .function) (hd : dp + 8 < recursionLimit) (hu : un + 64 < cLine) (D : Dis Tk Td S SD G E' ST all) (SK : Sink w Tk Td S SD G E' O ST bk dv txt rest all) (hde : DatAll rest ev errs) (hel : errs.length ≤ 10) (hso : Obj.IsDictOf (PySem.strKind rw'.row.prog w) so stK) (hlo : (ST == sysModules) = false) (hsg : SignsAre gv l) (hlen : l.length ≤ 100) (h0 : 0 ≤ at')  (hc : sgn l at' = PySem.Str.ofString ";") (hfit : hexS (PySem.Str.ofString ";") = false) (hcl : (PySem.Str.ofString ";").length ≤ 1)
   (hret : ∀ (ta' ts' : Tok) (h' : Heap) (tk' : Nat), Fr h₀ L h' m → News h₀ L h' ((Tk, instObj 450 Td) :: (Td, tkD w K ST S O E' (at' + 1) ta' (PySem.Str.ofString "numeric character reference end") ts' bk tb dv bf tf cd tc lv) :: (S, instObj 287 SD) :: (SD, stD w KR G SE ret) :: (G, listOf gv.toArray ng) :: (E', listOf ev.toArray ne) :: (ST, so) :: all) → Q .none { s with heap := h', toks := tk' })
    : wpAny (model rw'.row.toRowW.prog w) (ktrTop dp un gd cn cs L a ccd cl outer) (call (.ref 189) [.ref Tk]) Q E s := by
  obtain ⟨a1, a2, a3, a4, a5, a6, b1, b2, b3, b4, b6, hdd, hdE⟩ := id D
  revert X
  k_fill
  intro X
  refine wpAny_call ?_
  k_dflt cell_enter
  k_steps
  all_goals (rename Fr h₀ L _ _ => kF9; rename News h₀ L _ _ => kN9; exact hret _ _ _ _ kF9 kN9)
theorem fn4he {w : World} {mean : ExcName → Option Value} {mg mb : PySem.Str → Option Value} {dp un : Nat} {gd : Option (List Code)} {cn : PySem.Str} {cs : Scope} {a : Addr} {ccd : Value} {cl : List (PySem.Str × Addr)} {outer : List Env} {A₀ : Around} {base h₀ : Heap} {L : Addr} {m : PySem.Str → Option Value} {s : Shared} {Q E : Value → Shared → Prop} {Tk Td S SD ST G E' O SE : Addr} {gv ev : List Value} {K : KT} {KR : KR} {so : Obj} {ng ne : Nat} {ret : Bool} {at' cd : Int} {ta ts tb tf tc : Tok} {st bk bf : PySem.Str} {dv lv : Value} {rest : List (Addr × Obj)} {txt l : List Nat} {errs : List Dat} {all : List (Addr × Obj)} (B : Below A₀ base outer h₀) (F : Fr h₀ L s.heap m) (X : (Mine.top.heap_1 w.params).In h₀) (N : News h₀ L s.heap ((Tk, instObj 450 Td) :: (Td, tkD w K ST S O E' at' ta st ts bk tb dv bf tf cd tc lv) :: (S, instObj 287 SD) :: (SD, stD w KR G SE ret) :: (G, listOf gv.toArray ng) :: (E', listOf ev.toArray ne) :: (ST, so) :: all)) (T : Top q (looseW q []) mean mg mb h₀) (hk : cs.kind = .function) (hd : dp + 8 < recursionLimit) (hu : un + 64 < cLine) (D : Dis Tk Td S SD G E' ST all) (SK : Sink w Tk Td S SD G E' O ST bk dv txt rest all) (hde : DatAll rest ev errs) (hel : errs.length ≤ 10) (hso : Obj.IsDictOf (PySem.strKind rw'.row.prog w) so stK) (hlo : (ST == sysModules) = false) (hsg : SignsAre gv l) (hlen : l.length ≤ 100) (h0 : 0 ≤ at') {cx : PySem.Str}  (hc : sgn l at' = cx) (hfit : hexS cx = false) (hcl : cx.length ≤ 1) (hsm : (cx == PySem.Str.ofString ";") = false)
   (hret : ∀ (ev' : List Value) (rest' all' : List (Addr × Obj)) (ne' : Nat) (ta' ts' : Tok) (h' : Heap) (tk' : Nat), Sink w Tk Td S SD G E' O ST bk dv txt rest' all' → Dis Tk Td S SD G E' ST all' → DatAll rest' ev' (errs ++ [errD misS (at' + 1 - 1)]) → (∀ p ∈ rest, p ∈ rest') → Fr h₀ L h' m → News h₀ L h' ((Tk, instObj 450 Td) :: (Td, tkD w K ST S O E' (at' + 1 - 1) ta' (PySem.Str.ofString "numeric character reference end") ts' bk tb dv bf tf cd tc lv) :: (S, instObj 287 SD) :: (SD, stD w KR G SE ret) :: (G, listOf gv.toArray ng) :: (E', listOf ev'.toArray ne') :: (ST, so) :: all') → Q .none { s with heap := h', toks := tk' })
    : wpAny (model rw'.row.toRowW.prog w) (ktrTop dp un gd cn cs L a ccd cl outer) (call (.ref 189) [.ref Tk]) Q E s := by
  obtain ⟨a1, a2, a3, a4, a5, a6, b1, b2, b3, b4, b6, hdd, hdE⟩ := id D
  revert X
  k_fill
  intro X
  refine wpAny_call ?_
  k_dflt cell_enter
  k_steps
  all_goals (rename Fr h₀ L _ _ => kF9; rename News h₀ L _ _ => kN9; exact hret _ _ _ _ _ _ _ _ SK9 D9 hde9 hsub9 kF9 kN9)
theorem fn4d {w : World} {mean : ExcName → Option Value} {mg mb : PySem.Str → Option Value} {dp un : Nat} {gd : Option (List Code)} {cn : PySem.Str} {cs : Scope} {a : Addr} {ccd : Value} {cl : List (PySem.Str × Addr)} {outer : List Env} {A₀ : Around} {base h₀ : Heap} {L : Addr} {m : PySem.Str → Option Value} {s : Shared} {Q E : Value → Shared → Prop} {Tk Td S SD ST G E' O SE : Addr} {gv ev : List Value} {K : KT} {KR : KR} {so : Obj} {ng ne : Nat} {ret : Bool} {at' cd : Int} {ta ts tb tf tc : Tok} {st bk bf : PySem.Str} {dv lv : Value} {rest : List (Addr × Obj)} {txt l : List Nat} {errs : List Dat} {all : List (Addr × Obj)} (B : Below A₀ base outer h₀) (F : Fr h₀ L s.heap m) (X : (Mine.top.heap_1 w.params).In h₀) (N : News h₀ L s.heap ((Tk, instObj 450 Td) :: (Td, tkD w K ST S O E' at' ta st ts bk tb dv bf tf cd tc lv) :: (S, instObj 287 SD) :: (SD, stD w KR G SE ret) :: (G, listOf gv.toArray ng) :: (E', listOf ev.toArray ne) :: (ST, so) :: all)) (T : Top q (looseW q []) mean mg mb h₀) (hk : cs.kind = .function) (hd : dp + 8 < recursionLimit) (hu : un + 64 < cLine) (D : Dis Tk Td S SD G E' ST all) (SK : Sink w Tk Td S SD G E' O ST bk dv txt rest all) (hde : DatAll rest ev errs) (hel : errs.length ≤ 10) (hso : Obj.IsDictOf (PySem.strKind rw'.row.prog w) so stK) (hlo : (ST == sysModules) = false) (hsg : SignsAre gv l) (hlen : l.length ≤ 100) (h0 : 0 ≤ at') {x : Nat}  (hc : sgn l at' = ⟨#[x]⟩) (hfit : digS ⟨#[x]⟩ = true) (hcl : (⟨#[x]⟩ : PySem.Str).length ≤ 1) (hx : x < 0x110000) (hc0 : 0 ≤ cd) (hc1 : cd < 1267650600228229401496703205376)
   (hret : ∀ (ta' tc' : Tok) (h' : Heap) (tk' : Nat), Fr h₀ L h' m → News h₀ L h' ((Tk, instObj 450 Td) :: (Td, tkD w K ST S O E' (at' + 1) ta' st ts bk tb dv bf tf (cd * 10 + dval x) tc' lv) :: (S, instObj 287 SD) :: (SD, stD w KR G SE ret) :: (G, listOf gv.toArray ng) :: (E', listOf ev.toArray ne) :: (ST, so) :: all) → Q .none { s with heap := h', toks := tk' })
    : wpAny (model rw'.row.toRowW.prog w) (ktrTop dp un gd cn cs L a ccd cl outer) (call (.ref 196) [.ref Tk]) Q E s := by
  obtain ⟨a1, a2, a3, a4, a5, a6, b1, b2, b3, b4, b6, hdd, hdE⟩ := id D
  revert X
  k_fill
  intro X
  refine wpAny_call ?_
  k_dflt cell_enter
  k_steps
  all_goals (rename Fr h₀ L _ _ => kF9; rename News h₀ L _ _ => kN9; exact hret _ _ _ _ kF9 kN9)
theorem fn4ds {w : World} {mean : ExcName → Option Value} {mg mb : PySem.Str → Option Value} {dp un : Nat} {gd : Option (List Code)} {cn : PySem.Str} {cs : Scope} {a : Addr} {ccd : Value} {cl : List (PySem.Str × Addr)} {outer : List Env} {A₀ : Around} {base h₀ : Heap} {L : Addr} {m : PySem.Str → Option Value} {s : Shared} {Q E : Value → Shared → Prop} {Tk Td S SD ST G E' O SE : Addr} {gv ev : List Value} {K : KT} {KR : KR} {so : Obj} {ng ne : Nat} {ret : Bool} {at' cd : Int} {ta ts tb tf tc : Tok} {st bk bf : PySem.Str} {dv lv : Value} {rest : List (Addr × Obj)} {txt l : List Nat} {errs : List Dat} {all : List (Addr × Obj)} (B : Below A₀ base outer h₀) (F : Fr h₀ L s.heap m) (X : (Mine.top.heap_1 w.params).In h₀) (N : News h₀ L s.heap ((Tk, instObj 450 Td) :: (Td, tkD w K ST S O E' at' ta st ts bk tb dv bf tf cd tc lv) :: (S, instObj 287 SD) :: (SD, stD w KR G SE ret) :: (G, listOf gv.toArray ng) :: (E', listOf ev.toArray ne) :: (ST, so) :: all)) (T : Top q (looseW q []) mean mg mb h₀) (hk : cs.kind = .function) (hd : dp + 8 < recursionLimit) (hu : un + 64 < cLine) (D : Dis Tk Td S SD G E' ST all) (SK : Sink w Tk Td S SD G E' O ST bk dv txt rest all) (hde : DatAll rest ev errs) (hel : errs.length ≤ 10) (hso : Obj.IsDictOf (PySem.strKind rw'.row.prog w) so stK) (hlo : (ST == sysModules) = false) (hsg : SignsAre gv l) (hlen : l.length ≤ 100) (h0 : 0 ≤ at')  (hc : sgn l at' = PySem.Str.ofString ";") (hfit : digS (PySem.Str.ofString ";") = false) (hcl : (PySem.Str.ofString ";").length ≤ 1)
   (hret : ∀ (ta' ts' : Tok) (h' : Heap) (tk' : Nat), Fr h₀ L h' m → News h₀ L h' ((Tk, instObj 450 Td) :: (Td, tkD w K ST S O E' (at' + 1) ta' (PySem.Str.ofString "numeric character reference end") ts' bk tb dv bf tf cd tc lv) :: (S, instObj 287 SD) :: (SD, stD w KR G SE ret) :: (G, listOf gv.toArray ng) :: (E', listOf ev.toArray ne) :: (ST, so) :: all) → Q .none { s with heap := h', toks := tk' })
    : wpAny (model rw'.row.toRowW.prog w) (ktrTop dp un gd cn cs L a ccd cl outer) (call (.ref 196) [.ref Tk]) Q E s := by
  obtain ⟨a1, a2, a3, a4, a5, a6, b1, b2, b3, b4, b6, hdd, hdE⟩ := id D
  revert X
  k_fill
  intro X
  refine wpAny_call ?_
  k_dflt cell_enter
  k_steps
  all_goals (rename Fr h₀ L _ _ => kF9; rename News h₀ L _ _ => kN9; exact hret _ _ _ _ kF9 kN9)
theorem fn4de {w : World} {mean : ExcName → Option Value} {mg mb : PySem.Str → Option Value} {dp un : Nat} {gd : Option (List Code)} {cn : PySem.Str} {cs : Scope} {a : Addr} {ccd : Value} {cl : List (PySem.Str × Addr)} {outer : List Env} {A₀ : Around} {base h₀ : Heap} {L : Addr} {m : PySem.Str → Option Value} {s : Shared} {Q E : Value → Shared → Prop} {Tk Td S SD ST G E' O SE : Addr} {gv ev : List Value} {K : KT} {KR : KR} {so : Obj} {ng ne : Nat} {ret : Bool} {at' cd : Int} {ta ts tb tf tc : Tok} {st bk bf : PySem.Str} {dv lv : Value} {rest : List (Addr × Obj)} {txt l : List Nat} {errs : List Dat} {all : List (Addr × Obj)} (B : Below A₀ base outer h₀) (F : Fr h₀ L s.heap m) (X : (Mine.top.heap_1 w.params).In h₀) (N : News h₀ L s.heap ((Tk, instObj 450 Td) :: (Td, tkD w K ST S O E' at' ta st ts bk tb dv bf tf cd tc lv) :: (S, instObj 287 SD) :: (SD, stD w KR G SE ret) :: (G, listOf gv.toArray ng) :: (E', listOf ev.toArray ne) :: (ST, so) :: all)) (T : Top q (looseW q []) mean mg mb h₀) (hk : cs.kind = .function) (hd : dp + 8 < recursionLimit) (hu : un + 64 < cLine) (D : Dis Tk Td S SD G E' ST all) (SK : Sink w Tk Td S SD G E' O ST bk dv txt rest all) (hde : DatAll rest ev errs) (hel : errs.length ≤ 10) (hso : Obj.IsDictOf (PySem.strKind rw'.row.prog w) so stK) (hlo : (ST == sysModules) = false) (hsg : SignsAre gv l) (hlen : l.length ≤ 100) (h0 : 0 ≤ at') {cx : PySem.Str}  (hc : sgn l at' = cx) (hfit : digS cx = false) (hcl : cx.length ≤ 1) (hsm : (cx == PySem.Str.ofString ";") = false)
   (hret : ∀ (ev' : List Value) (rest' all' : List (Addr × Obj)) (ne' : Nat) (ta' ts' : Tok) (h' : Heap) (tk' : Nat), Sink w Tk Td S SD G E' O ST bk dv txt rest' all' → Dis Tk Td S SD G E' ST all' → DatAll rest' ev' (errs ++ [errD misS (at' + 1 - 1)]) → (∀ p ∈ rest, p ∈ rest') → Fr h₀ L h' m → News h₀ L h' ((Tk, instObj 450 Td) :: (Td, tkD w K ST S O E' (at' + 1 - 1) ta' (PySem.Str.ofString "numeric character reference end") ts' bk tb dv bf tf cd tc lv) :: (S, instObj 287 SD) :: (SD, stD w KR G SE ret) :: (G, listOf gv.toArray ng) :: (E', listOf ev'.toArray ne') :: (ST, so) :: all') → Q .none { s with heap := h', toks := tk' })
    : wpAny (model rw'.row.toRowW.prog w) (ktrTop dp un gd cn cs L a ccd cl outer) (call (.ref 196) [.ref Tk]) Q E s := by
  obtain ⟨a1, a2, a3, a4, a5, a6, b1, b2, b3, b4, b6, hdd, hdE⟩ := id D
  revert X
  k_fill
  intro X
  refine wpAny_call ?_
  k_dflt cell_enter
  k_steps
  all_goals (rename Fr h₀ L _ _ => kF9; rename News h₀ L _ _ => kN9; exact hret _ _ _ _ _ _ _ _ SK9 D9 hde9 hsub9 kF9 kN9)
end

theorem rsN13 : True := by
  k_with_none
  k_with "kne" => (refine neN ?_; (try dsimp only); first | with_reducible assumption | with_reducible exact Ne.symm (by with_reducible assumption) | (refine Nat.ne_of_lt ?_; (first | with_reducible assumption | with_reducible exact And.left (by with_reducible assumption) | with_reducible exact And.left (And.right (by with_reducible assumption)) | with_reducible exact And.left (And.right (And.right (by with_reducible assumption))) | with_reducible exact And.left (And.right (And.right (And.right (by with_reducible assumption)))) | with_reducible exact And.left (And.right (And.right (And.right (And.right (by with_reducible assumption))))) | with_reducible exact And.left (And.right (And.right (And.right (And.right (And.right (by with_reducible assumption)))))) | with_reducible exact And.left (And.right (And.right (And.right (And.right (And.right (And.right (by with_reducible assumption))))))) | with_reducible exact And.left (And.right (And.right (And.right (And.right (And.right (And.right (And.right (by with_reducible assumption)))))))) | with_reducible exact And.left (And.right (And.right (And.right (And.right (And.right (And.right (And.right (And.right (by with_reducible assumption))))))))) | with_reducible exact And.left (And.right (And.right (And.right (And.right (And.right (And.right (And.right (And.right (And.right (by with_reducible assumption)))))))))) | with_reducible exact And.left (And.right (And.right (And.right (And.right (And.right (And.right (And.right (And.right (And.right (And.right (by with_reducible assumption))))))))))) | with_reducible exact And.left (And.right (And.right (And.right (And.right (And.right (And.right (And.right (And.right (And.right (And.right (And.right (by with_reducible assumption)))))))))))) | with_reducible exact And.left (And.right (And.right (And.right (And.right (And.right (And.right (And.right (And.right (And.right (And.right (And.right (And.right (by with_reducible assumption))))))))))))) | with_reducible exact (And.right (by with_reducible assumption)) | with_reducible exact (And.right (And.right (by with_reducible assumption))) | with_reducible exact (And.right (And.right (And.right (by with_reducible assumption)))) | with_reducible exact (And.right (And.right (And.right (And.right (by with_reducible assumption))))) | with_reducible exact (And.right (And.right (And.right (And.right (And.right (by with_reducible assumption)))))) | with_reducible exact (And.right (And.right (And.right (And.right (And.right (And.right (by with_reducible assumption))))))))) | (refine Nat.ne_of_gt ?_; (first | with_reducible assumption | with_reducible exact And.left (by with_reducible assumption) | with_reducible exact And.left (And.right (by with_reducible assumption)) | with_reducible exact And.left (And.right (And.right (by with_reducible assumption))) | with_reducible exact And.left (And.right (And.right (And.right (by with_reducible assumption)))) | with_reducible exact And.left (And.right (And.right (And.right (And.right (by with_reducible assumption))))) | with_reducible exact And.left (And.right (And.right (And.right (And.right (And.right (by with_reducible assumption)))))) | with_reducible exact And.left (And.right (And.right (And.right (And.right (And.right (And.right (by with_reducible assumption))))))) | with_reducible exact And.left (And.right (And.right (And.right (And.right (And.right (And.right (And.right (by with_reducible assumption)))))))) | with_reducible exact And.left (And.right (And.right (And.right (And.right (And.right (And.right (And.right (And.right (by with_reducible assumption))))))))) | with_reducible exact And.left (And.right (And.right (And.right (And.right (And.right (And.right (And.right (And.right (And.right (by with_reducible assumption)))))))))) | with_reducible exact And.left (And.right (And.right (And.right (And.right (And.right (And.right (And.right (And.right (And.right (And.right (by with_reducible assumption))))))))))) | with_reducible exact And.left (And.right (And.right (And.right (And.right (And.right (And.right (And.right (And.right (And.right (And.right (And.right (by with_reducible assumption)))))))))))) | with_reducible exact And.left (And.right (And.right (And.right (And.right (And.right (And.right (And.right (And.right (And.right (And.right (And.right (And.right (by with_reducible assumption))))))))))))) | with_reducible exact (And.right (by with_reducible assumption)) | with_reducible exact (And.right (And.right (by with_reducible assumption))) | with_reducible exact (And.right (And.right (And.right (by with_reducible assumption)))) | with_reducible exact (And.right (And.right (And.right (And.right (by with_reducible assumption))))) | with_reducible exact (And.right (And.right (And.right (And.right (And.right (by with_reducible assumption)))))) | with_reducible exact (And.right (And.right (And.right (And.right (And.right (And.right (by with_reducible assumption))))))))) | omega)
  k_with "mcall" => ((with_reducible show wpAny _ _ (call (Value.ref (nat_lit 84)) [Value.int _ _]) _ _ _); k_dflt (refine' c1_claim ?k1 ?k2 ?k3 ?k4 ?k5 ?k6 ?k7 ?k8 ?kp ?_; (case k1 => k_asm); (case k2 => k_asm); (case k3 => k_asm); (case k4 => k_asm); (case k5 => k_asm); (case k6 => first | exact rfl | assumption); (case k7 => ktr_room); (case k8 => ktr_units); (case kp => omega)); intro t9 h9 tk9 F9 N9; (have hc19 := c1_room (by assumption) (by omega)); (try dsimp only); (try k_fold))
  k_with "mcall" => ((with_reducible show wpAny _ _ (call (Value.ref (nat_lit 91)) [Value.int _ _]) _ _ _); k_dflt (refine' numref_claim ?k1 ?k2 ?k3 ?k4 ?k5 ?k6 ?k7 ?k8 ?kp ?_; (case k1 => k_asm); (case k2 => k_asm); (case k3 => k_asm); (case k4 => k_asm); (case k5 => k_asm); (case k6 => first | exact rfl | assumption); (case k7 => ktr_room); (case k8 => ktr_units); (case kp => omega)); intro D9 o9 h9 tk9 P9 F9 N9 l9; (try k_lt l9); k_dflt (unfold PairIs at P9; rcases P9 with ⟨t19, c19, hf9, he9⟩ | ⟨t19, f9, t29, c19, hf9, he9⟩); all_goals ((subst he9); (try dsimp only); (try k_fold)))
  k_with "mcall" => ((with_reducible show wpAny _ _ (call (Value.ref (nat_lit 531)) [Value.int _ _]) _ _ _); k_dflt (refine' meant_claim ?k1 ?k2 ?k3 ?k4 ?k5 ?k6 ?k7 ?k8 ?kp ?_; (case k1 => k_asm); (case k2 => k_asm); (case k3 => k_asm); (case k4 => k_asm); (case k5 => k_asm); (case k6 => first | exact rfl | assumption); (case k7 => ktr_room); (case k8 => ktr_units); (case kp => omega)); intro D9 o9 h9 tk9 P9 F9 N9 l9; (try k_lt l9); k_dflt (unfold PairIs at P9; rcases P9 with ⟨t19, c19, hf9, he9⟩ | ⟨t19, f9, t29, c19, hf9, he9⟩); all_goals ((subst he9); (try dsimp only); (try k_fold)))
  k_with "mcall" => ((with_reducible show wpAny _ _ (call (Value.ref (nat_lit 524)) [Value.int _ _, Value.int _ _]) _ _ _); k_dflt (refine' lawCode_claim ?k1 ?k2 ?k3 ?k4 ?k5 ?k6 ?k7 ?k8 ?kp ?kq ?_; (case k1 => k_asm); (case k2 => k_asm); (case k3 => k_asm); (case k4 => k_asm); (case k5 => k_asm); (case k6 => first | exact rfl | assumption); (case k7 => ktr_room); (case k8 => ktr_units); (case kp => with_reducible assumption); (case kq => with_reducible assumption)); intro c9 t9 h9 tk9 hlo9 hhi9 F9 N9; (try dsimp only); (try k_fold))
  k_with "mcall" => ((with_reducible show wpAny _ _ (call (Value.ref (nat_lit 538)) [Value.int _ _, Value.int _ _, Value.int _ _]) _ _ _); k_dflt (first | (refine' digits16_claim ?k1 ?k2 ?k3 ?k4 ?k5 ?k6 ?k7 ?k8 ?kp ?kq ?_; (case k1 => k_asm); (case k2 => k_asm); (case k3 => k_asm); (case k4 => k_asm); (case k5 => k_asm); (case k6 => first | exact rfl | assumption); (case k7 => ktr_room); (case k8 => ktr_units); (case kp => with_reducible assumption); (case kq => with_reducible assumption)) | (refine' digits10_claim ?k1 ?k2 ?k3 ?k4 ?k5 ?k6 ?k7 ?k8 ?kp ?kq ?_; (case k1 => k_asm); (case k2 => k_asm); (case k3 => k_asm); (case k4 => k_asm); (case k5 => k_asm); (case k6 => first | exact rfl | assumption); (case k7 => ktr_room); (case k8 => ktr_units); (case kp => with_reducible assumption); (case kq => with_reducible assumption))); intro d9 t9 h9 tk9 I9 E9 hl9 F9 N9; (try dsimp only); (try k_fold))
  k_with "mcall" => ((with_reducible show wpAny _ _ (call (Value.ref (nat_lit 517)) [Value.ref _, Value.int _ _]) _ _ _); k_dflt (refine' pick_claim ?k1 ?k2 ?k3 ?k4 ?k5 ?k6 ?k7 ?k8 ?kt ?ke ?kp ?kq ?_; (case k1 => k_asm); (case k2 => k_asm); (case k3 => k_asm); (case k4 => k_asm); (case k5 => k_asm); (case k6 => first | exact rfl | assumption); (case k7 => ktr_room); (case k8 => ktr_units); (case kt => repeat' (first | exact Take1.head | apply Take1.tail)); (case ke => k_all); (case kp => decide); (case kq => intro v9; exact PyProof.noPylong_of_log2 (by decide +kernel))); intro r9 v9 t9 t99 c9 h9 tk9 hlo9 hhi9 F9 N9; (try dsimp only); (try k_fold))
  k_with "mcall" => ((with_reducible show wpAny _ _ (call (Value.ref (nat_lit 327)) _) _ _ _); k_dflt (refine' next_claim ?k1 ?k2 ?k3 ?k4 ?k5 ?k6 ?k7 ?k8 ?kD ?kS ?kL ?k0 ?_; (case k1 => k_asm); (case k2 => k_asm); (case k3 => k_asm); (case k4 => k_asm); (case k5 => k_asm); (case k6 => first | exact rfl | assumption); (case k7 => ktr_room); (case k8 => ktr_units); (case kD => assumption); (case kS => assumption); (case kL => assumption); (case k0 => assumption)); intro t9 ta9 h9 tk9 F9 N9; (try rw [hc]); (try dsimp only); (try k_fold))
  k_with "mcall" => ((with_reducible show wpAny _ _ (call (Value.ref (nat_lit 341)) _) _ _ _); k_dflt (refine' again_claim ?k1 ?k2 ?k3 ?k4 ?k5 ?k6 ?k7 ?k8 ?kD ?_; (case k1 => k_asm); (case k2 => k_asm); (case k3 => k_asm); (case k4 => k_asm); (case k5 => k_asm); (case k6 => first | exact rfl | assumption); (case k7 => ktr_room); (case k8 => ktr_units); (case kD => assumption)); intro ta9 ts9 h9 tk9 F9 N9; (try dsimp only); (try k_fold))
  k_with "mcall" => ((with_reducible show wpAny _ _ (call (Value.ref (nat_lit 348)) _) _ _ _); k_dflt (refine' error2_claim ?k1 ?k2 ?k3 ?k4 ?k5 ?k6 ?k7 ?k8 ?kD ?kS ?kE ?kL ?_; (case k1 => k_asm); (case k2 => k_asm); (case k3 => k_asm); (case k4 => k_asm); (case k5 => k_asm); (case k6 => first | exact rfl | assumption); (case k7 => ktr_room); (case k8 => ktr_units); (case kD => assumption); (case kS => assumption); (case kE => assumption); (case kL => assumption)); intro ev9 rest9 all9 ne9 h9 tk9 SK9 D9 hde9 hsub9 F9 N9; (have hdd9 := D9.d); (try dsimp only); (try k_fold))
  k_with "mcall" => ((with_reducible show wpAny _ _ (call (Value.ref (nat_lit 426)) _) _ _ _); k_dflt (refine' flush_claim ?k1 ?k2 ?k3 ?k4 ?k5 ?k6 ?k7 ?k8 ?kD ?kS ?kE ?kL ?_; (case k1 => k_asm); (case k2 => k_asm); (case k3 => k_asm); (case k4 => k_asm); (case k5 => k_asm); (case k6 => first | exact rfl | assumption); (case k7 => ktr_room); (case k8 => ktr_units); (case kD => assumption); (case kS => assumption); (case kE => assumption); (case kL => assumption)); intro all8 rest8 tf8 h8 tk8 hsub8 D8 SK8 F8 N8; (have hdd8 := D8.d); (try dsimp only); (try k_fold))
  k_with "mcall" => ((with_reducible show wpAny _ _ (call (Value.ref (nat_lit 42)) _) _ _ _); k_dflt (refine' ishex_claim ?k1 ?k2 ?k3 ?k4 ?k5 ?k6 ?k7 ?k8 ?kC ?_; (case k1 => k_asm); (case k2 => k_asm); (case k3 => k_asm); (case k4 => k_asm); (case k5 => k_asm); (case k6 => first | exact rfl | assumption); (case k7 => ktr_room); (case k8 => ktr_units); (case kC => first | assumption | decide)); intro b9 h9 tk9 hb9 F9 N9; rw [hfit] at hb9; subst hb9; (try dsimp only); (try k_fold))
  k_with "mcall" => ((with_reducible show wpAny _ _ (call (Value.ref (nat_lit 35)) _) _ _ _); k_dflt (refine' isdig_claim ?k1 ?k2 ?k3 ?k4 ?k5 ?k6 ?k7 ?k8 ?kC ?_; (case k1 => k_asm); (case k2 => k_asm); (case k3 => k_asm); (case k4 => k_asm); (case k5 => k_asm); (case k6 => first | exact rfl | assumption); (case k7 => ktr_room); (case k8 => ktr_units); (case kC => first | assumption | decide)); intro b9 h9 tk9 hb9 F9 N9; rw [hfit] at hb9; subst hb9; (try dsimp only); (try k_fold))
  k_with "mcall" => ((with_reducible show wpAny _ _ (call (Value.ref (nat_lit 56)) _) _ _ _); k_dflt (refine' dval_claim ?k1 ?k2 ?k3 ?k4 ?k5 ?k6 ?k7 ?k8 ?kC ?_; (case k1 => k_asm); (case k2 => k_asm); (case k3 => k_asm); (case k4 => k_asm); (case k5 => k_asm); (case k6 => first | exact rfl | assumption); (case k7 => ktr_room); (case k8 => ktr_units); (case kC => assumption)); intro t9 h9 tk9 F9 N9; (try dsimp only); (try k_fold))
  k_with "eval Call" => (k_here; k_dflt (refine Call_ ?_))
  k_with "compareOp NotIn str ref" => (k_here; k_dflt (first | refine kdg_notin (knd := PySem.strKind _ _) (by k_asm) (by k_mem) (by k_asm) (by k_asm) (strKind_is _ _ _ _) true (by rfl) ?_ | refine kdg_notin (knd := PySem.strKind _ _) (by k_asm) (by k_mem) (by k_asm) (by k_asm) (strKind_is _ _ _ _) false (by rfl) ?_); (try dsimp only [Bool.not_true, Bool.not_false]))
  k_with "subscriptTail" => (k_here; (with_reducible show wpAny _ _ (subscriptTail _ _ (Value.ref _) (Value.str _ _)) _ _ _); k_dflt (refine kda_item (knd := PySem.strKind _ _) (by k_asm) (by k_mem) (by k_asm) (strKind_is _ _ _ _) (by rfl) ?_))
  trivial
section
theorem wdN13x2 : True := by
  k_with "kall" => assumption
  trivial
theorem Sink.sub {w : World} {Tk Td S SD G E O ST : Addr} {bk : PySem.Str} {dv : Value} {txt : List Nat} {rest all : List (Addr × Obj)} (SK : Sink w Tk Td S SD G E O ST bk dv txt rest all) : ∀ p ∈ rest, p ∈ all := by
  intro p hp
  cases SK with
  | out _ _ _ => exact .tail _ hp
  | val _ _ _ _ _ => simp [hp]
theorem mem_led {p a b c d e f g : Addr × Obj} {all : List (Addr × Obj)} (h : p ∈ all) : p ∈ a :: b :: c :: d :: e :: f :: g :: all := by simp [h]
theorem numref2_claim {w : World} {mean : ExcName → Option Value} {mg mb : PySem.Str → Option Value} {dp un : Nat} {gd : Option (List Code)} {cn : PySem.Str} {cs : Scope} {a : Addr} {ccd : Value} {cl : List (PySem.Str × Addr)} {outer : List Env} {A₀ : Around} {base h₀ : Heap} {L : Addr} {m : PySem.Str → Option Value} {s : Shared} {Q E : Value → Shared → Prop} {Tk Td S SD ST G E' O SE : Addr} {gv ev : List Value} {K : KT} {KR : KR} {so : Obj} {ng ne : Nat} {ret : Bool} {at' cd : Int} {ta ts tb tf tc : Tok} {st bk bf : PySem.Str} {dv lv : Value} {tc1 : Tok} {rest : List (Addr × Obj)} {txt : List Nat} {errs : List Dat} {all : List (Addr × Obj)} (B : Below A₀ base outer h₀) (F : Fr h₀ L s.heap m) (X : (Mine.top.heap_1 w.params).In h₀) (N : News h₀ L s.heap ((Tk, instObj 450 Td) :: (Td, tkD w K ST S O E' at' ta st ts bk tb dv bf tf cd tc lv) :: (S, instObj 287 SD) :: (SD, stD w KR G SE ret) :: (G, listOf gv.toArray ng) :: (E', listOf ev.toArray ne) :: (ST, so) :: all)) (T : Top q (looseW q []) mean mg mb h₀) (hk : cs.kind = .function) (hd : dp + 5 < recursionLimit) (hu : un + 40 < cLine) (D : Dis Tk Td S SD G E' ST all) (SK : Sink w Tk Td S SD G E' O ST bk dv txt rest all) (hde : DatAll rest ev errs) (hc0 : 0 ≤ cd)
   (hret : ∀ (Dn : Addr) (o : Obj) (all' : List (Addr × Obj)) (h' : Heap) (tk' : Nat), PairIs cd o → Sink w Tk Td S SD G E' O ST bk dv txt ((Dn, o) :: rest) all' → Dis Tk Td S SD G E' ST all' → DatAll ((Dn, o) :: rest) ev errs → Fr h₀ L h' m → News h₀ L h' ((Tk, instObj 450 Td) :: (Td, tkD w K ST S O E' at' ta st ts bk tb dv bf tf cd tc lv) :: (S, instObj 287 SD) :: (SD, stD w KR G SE ret) :: (G, listOf gv.toArray ng) :: (E', listOf ev.toArray ne) :: (ST, so) :: all') → Q (.ref Dn) { s with heap := h', toks := tk' })
    : wpAny (model rw'.row.toRowW.prog w) (ktrTop dp un gd cn cs L a ccd cl outer) (call (.ref 91) [.int cd tc1]) Q E s := by
  refine numref_claim B F X N T hk (Nat.lt_of_le_of_lt (Nat.add_le_add_left (by decide) _) hd) (Nat.lt_of_le_of_lt (Nat.add_le_add_left (by decide) _) hu) hc0 fun Dn o h' tk' P F' N' hlt => ?_
  obtain ⟨all', SK', hs⟩ := sink_push (o := o) SK (fun p hp => hlt p (by simp [hp]))
  have D1 := err_dis (o := o) D hlt
  refine hret Dn o all' h' tk' P SK' (D1.drop hs) (DatAll.mono (fun p hp => .tail _ hp) hde) F' (fun p hp => N' p ?_)
  simp only [List.mem_cons] at hp ⊢
  rcases hp with h | h | h | h | h | h | h | h
  all_goals first | (have := hs p h; simp only [List.mem_cons] at this; rcases this with q | q <;> simp [q]; done) | simp [h]
section
variable {prog : Program} {w : World} {A : Around} {E : Value → Shared → Prop} {s : Shared} {value slice : PySem.Expr} {t : Addr} {a b : Value} {u : Tok} {Q : Value → Shared → Prop}
theorem pair_item {k : Int} {x : Value} (ht : IsTup s.heap t #[a, b]) (hx : (if k = 0 then some a else if k = 1 then some b else none) = some x) (h : Q x s)
    (hs : subscripted slice false (.ref t) (.int k u) = operate [.ref t, .int k u] (getItem (.ref t) (.int k u)) := by with_unfolding_all rfl) (hg : ∀ r, letTemporaryGo value (.ref t) r = pure () := by intro _; with_unfolding_all rfl) :
    wpAny (model prog w) A (subscriptTail value slice (.ref t) (.int k u)) Q E s := by
  by_cases h0 : k = 0
  · subst h0
    rw [if_pos rfl] at hx; cases hx
    exact item_tuple (x := a) (j := 0) ht (by decide) (by decide) rfl rfl h hs hg
  · rw [if_neg h0] at hx
    by_cases h1 : k = 1
    · subst h1
      rw [if_pos rfl] at hx; cases hx
      exact item_tuple (x := b) (j := 1) ht (by decide) (by decide) rfl rfl h hs hg
    · rw [if_neg h1] at hx; cases hx
end
theorem wdN13x1 : True := by
  k_with "mcall" => ((with_reducible show wpAny _ _ (call (Value.ref (nat_lit 91)) _) _ _ _); k_dflt (refine' numref2_claim ?k1 ?k2 ?k3 ?k4 ?k5 ?k6 ?k7 ?k8 ?kD ?kS ?kE ?kL ?_; (case k1 => k_asm); (case k2 => k_asm); (case k3 => k_asm); (case k4 => k_asm); (case k5 => k_asm); (case k6 => first | exact rfl | assumption); (case k7 => ktr_room); (case k8 => ktr_units); (case kD => assumption); (case kS => assumption); (case kE => assumption); (case kL => assumption)); intro Dn7 o7 all7 h7 tk7 P7 SK7 D7 hde7 F7 N7; (k_extra "mpair"); (have hm7 := Sink.sub SK7 _ List.mem_cons_self); (have hdd7 := D7.d); (try dsimp only); (try k_fold))
  k_with "mtup" => k_dflt (refine pair_item (News.isTup (by k_asm) (mem_led (by first | exact Sink.sub SK9 _ (hsub9 _ List.mem_cons_self) | assumption))) rfl ?_)
  trivial
theorem wdN13x3 : True := by
  k_with "subscriptTail" => (k_here; (with_reducible show wpAny _ _ (subscriptTail _ _ (Value.ref _) (Value.int _ _)) _ _ _); k_extra "mtup")
  trivial
theorem pair_none {c : Int} {o : Obj} (P : PairIs c o) (h : mFault c = none) : ∃ t1 n, o = ({ cls := .type "tuple", data := .seq #[.str (mText c) t1, .none] n } : Obj) := by
  rcases P with ⟨t1, n, _, e⟩ | ⟨t1, f, t2, n, h2, e⟩
  · exact ⟨t1, n, e⟩
  · rw [h] at h2; cases h2
theorem pair_some {c : Int} {f : PySem.Str} {o : Obj} (P : PairIs c o) (h : mFault c = some f) : ∃ t1 t2 n, o = ({ cls := .type "tuple", data := .seq #[.str (mText c) t1, .str f t2] n } : Obj) := by
  rcases P with ⟨t1, n, h2, e⟩ | ⟨t1, f', t2, n, h2, e⟩
  · rw [h] at h2; cases h2
  · rw [h] at h2; cases h2; exact ⟨t1, t2, n, e⟩
theorem fn5n {w : World} {mean : ExcName → Option Value} {mg mb : PySem.Str → Option Value} {dp un : Nat} {gd : Option (List Code)} {cn : PySem.Str} {cs : Scope} {a : Addr} {ccd : Value} {cl : List (PySem.Str × Addr)} {outer : List Env} {A₀ : Around} {base h₀ : Heap} {L : Addr} {m : PySem.Str → Option Value} {s : Shared} {Q E : Value → Shared → Prop} {Tk Td S SD ST G E' O SE : Addr} {gv ev : List Value} {K : KT} {KR : KR} {so : Obj} {ng ne : Nat} {ret : Bool} {at' cd : Int} {ta ts tb tf tc : Tok} {st bk bf : PySem.Str} {dv lv : Value} {rest : List (Addr × Obj)} {txt l : List Nat} {errs : List Dat} {all : List (Addr × Obj)} (B : Below A₀ base outer h₀) (F : Fr h₀ L s.heap m) (X : (Mine.top.heap_1 w.params).In h₀) (N : News h₀ L s.heap ((Tk, instObj 450 Td) :: (Td, tkD w K ST S O E' at' ta st ts bk tb dv bf tf cd tc lv) :: (S, instObj 287 SD) :: (SD, stD w KR G SE ret) :: (G, listOf gv.toArray ng) :: (E', listOf ev.toArray ne) :: (ST, so) :: all)) (T : Top q (looseW q []) mean mg mb h₀) (hk : cs.kind = .function) (hd : dp + 8 < recursionLimit) (hu : un + 64 < cLine) (D : Dis Tk Td S SD G E' ST all) (SK : Sink w Tk Td S SD G E' O ST bk dv txt rest all) (hde : DatAll rest ev errs) (hel : errs.length ≤ 10) (hso : Obj.IsDictOf (PySem.strKind rw'.row.prog w) so stK) (hlo : (ST == sysModules) = false) (hsg : SignsAre gv l) (hlen : l.length ≤ 100) (h0 : 0 ≤ at')  (hflt : mFault cd = none) (hc0 : 0 ≤ cd) (hml : (mText cd).length ≤ 50) (htl : txt.length ≤ 50)
   (hret : ∀ (rest' all' : List (Addr × Obj)) (ts' tf' : Tok) (h' : Heap) (tk' : Nat), Sink w Tk Td S SD G E' O ST bk dv (txt ++ (mText cd).cps.toList) rest' all' → Dis Tk Td S SD G E' ST all' → DatAll rest' ev errs → (∀ p ∈ rest, p ∈ rest') → Fr h₀ L h' m → News h₀ L h' ((Tk, instObj 450 Td) :: (Td, tkD w K ST S O E' at' ta bk ts' bk tb dv (PySem.Str.ofString "") tf' cd tc lv) :: (S, instObj 287 SD) :: (SD, stD w KR G SE ret) :: (G, listOf gv.toArray ng) :: (E', listOf ev.toArray ne) :: (ST, so) :: all') → Q .none { s with heap := h', toks := tk' })
    : wpAny (model rw'.row.toRowW.prog w) (ktrTop dp un gd cn cs L a ccd cl outer) (call (.ref 203) [.ref Tk]) Q E s := by
  obtain ⟨a1, a2, a3, a4, a5, a6, b1, b2, b3, b4, b6, hdd, hdE⟩ := id D
  k_with "mpair" => k_dflt (obtain ⟨t17, c17, e17⟩ := pair_none P7 hflt; subst e17)
  revert X
  k_fill
  intro X
  refine wpAny_call ?_
  k_dflt cell_enter
  k_steps
  all_goals (rename Fr h₀ L _ _ => kF9; rename News h₀ L _ _ => kN9; exact hret _ _ _ _ _ _ SK8 D8 (DatAll.mono hsub8 hde7) (fun p hp => hsub8 p (List.mem_cons_of_mem _ hp)) kF9 kN9)
theorem fn5s {w : World} {mean : ExcName → Option Value} {mg mb : PySem.Str → Option Value} {dp un : Nat} {gd : Option (List Code)} {cn : PySem.Str} {cs : Scope} {a : Addr} {ccd : Value} {cl : List (PySem.Str × Addr)} {outer : List Env} {A₀ : Around} {base h₀ : Heap} {L : Addr} {m : PySem.Str → Option Value} {s : Shared} {Q E : Value → Shared → Prop} {Tk Td S SD ST G E' O SE : Addr} {gv ev : List Value} {K : KT} {KR : KR} {so : Obj} {ng ne : Nat} {ret : Bool} {at' cd : Int} {ta ts tb tf tc : Tok} {st bk bf : PySem.Str} {dv lv : Value} {rest : List (Addr × Obj)} {txt l : List Nat} {errs : List Dat} {all : List (Addr × Obj)} (B : Below A₀ base outer h₀) (F : Fr h₀ L s.heap m) (X : (Mine.top.heap_1 w.params).In h₀) (N : News h₀ L s.heap ((Tk, instObj 450 Td) :: (Td, tkD w K ST S O E' at' ta st ts bk tb dv bf tf cd tc lv) :: (S, instObj 287 SD) :: (SD, stD w KR G SE ret) :: (G, listOf gv.toArray ng) :: (E', listOf ev.toArray ne) :: (ST, so) :: all)) (T : Top q (looseW q []) mean mg mb h₀) (hk : cs.kind = .function) (hd : dp + 8 < recursionLimit) (hu : un + 64 < cLine) (D : Dis Tk Td S SD G E' ST all) (SK : Sink w Tk Td S SD G E' O ST bk dv txt rest all) (hde : DatAll rest ev errs) (hel : errs.length ≤ 10) (hso : Obj.IsDictOf (PySem.strKind rw'.row.prog w) so stK) (hlo : (ST == sysModules) = false) (hsg : SignsAre gv l) (hlen : l.length ≤ 100) (h0 : 0 ≤ at') {f : PySem.Str}  (hflt : mFault cd = some f) (hc0 : 0 ≤ cd) (hml : (mText cd).length ≤ 50) (htl : txt.length ≤ 50)
   (hret : ∀ (ev' : List Value) (rest' all' : List (Addr × Obj)) (ne' : Nat) (ts' tf' : Tok) (h' : Heap) (tk' : Nat), Sink w Tk Td S SD G E' O ST bk dv (txt ++ (mText cd).cps.toList) rest' all' → Dis Tk Td S SD G E' ST all' → DatAll rest' ev' (errs ++ [errD f (at' - 1)]) → (∀ p ∈ rest, p ∈ rest') → Fr h₀ L h' m → News h₀ L h' ((Tk, instObj 450 Td) :: (Td, tkD w K ST S O E' at' ta bk ts' bk tb dv (PySem.Str.ofString "") tf' cd tc lv) :: (S, instObj 287 SD) :: (SD, stD w KR G SE ret) :: (G, listOf gv.toArray ng) :: (E', listOf ev'.toArray ne') :: (ST, so) :: all') → Q .none { s with heap := h', toks := tk' })
    : wpAny (model rw'.row.toRowW.prog w) (ktrTop dp un gd cn cs L a ccd cl outer) (call (.ref 203) [.ref Tk]) Q E s := by
  obtain ⟨a1, a2, a3, a4, a5, a6, b1, b2, b3, b4, b6, hdd, hdE⟩ := id D
  k_with "mpair" => k_dflt (obtain ⟨t17, t27, c17, e17⟩ := pair_some P7 hflt; subst e17)
  revert X
  k_fill
  intro X
  refine wpAny_call ?_
  k_dflt cell_enter
  k_steps
  all_goals (rename Fr h₀ L _ _ => kF9; rename News h₀ L _ _ => kN9; exact hret _ _ _ _ _ _ _ _ SK8 D8 (DatAll.mono hsub8 hde9) (fun p hp => hsub8 p (hsub9 p (List.mem_cons_of_mem _ hp))) kF9 kN9)
end

theorem rsR1 : True := by
  k_with_none
  k_with "kne" => (refine neN ?_; (try dsimp only); first | with_reducible assumption | with_reducible exact Ne.symm (by with_reducible assumption) | (refine Nat.ne_of_lt ?_; (first | with_reducible assumption | with_reducible exact And.left (by with_reducible assumption) | with_reducible exact And.left (And.right (by with_reducible assumption)) | with_reducible exact And.left (And.right (And.right (by with_reducible assumption))) | with_reducible exact And.left (And.right (And.right (And.right (by with_reducible assumption)))) | with_reducible exact And.left (And.right (And.right (And.right (And.right (by with_reducible assumption))))) | with_reducible exact And.left (And.right (And.right (And.right (And.right (And.right (by with_reducible assumption)))))) | with_reducible exact And.left (And.right (And.right (And.right (And.right (And.right (And.right (by with_reducible assumption))))))) | with_reducible exact And.left (And.right (And.right (And.right (And.right (And.right (And.right (And.right (by with_reducible assumption)))))))) | with_reducible exact And.left (And.right (And.right (And.right (And.right (And.right (And.right (And.right (And.right (by with_reducible assumption))))))))) | with_reducible exact And.left (And.right (And.right (And.right (And.right (And.right (And.right (And.right (And.right (And.right (by with_reducible assumption)))))))))) | with_reducible exact And.left (And.right (And.right (And.right (And.right (And.right (And.right (And.right (And.right (And.right (And.right (by with_reducible assumption))))))))))) | with_reducible exact And.left (And.right (And.right (And.right (And.right (And.right (And.right (And.right (And.right (And.right (And.right (And.right (by with_reducible assumption)))))))))))) | with_reducible exact And.left (And.right (And.right (And.right (And.right (And.right (And.right (And.right (And.right (And.right (And.right (And.right (And.right (by with_reducible assumption))))))))))))) | with_reducible exact (And.right (by with_reducible assumption)) | with_reducible exact (And.right (And.right (by with_reducible assumption))) | with_reducible exact (And.right (And.right (And.right (by with_reducible assumption)))) | with_reducible exact (And.right (And.right (And.right (And.right (by with_reducible assumption))))) | with_reducible exact (And.right (And.right (And.right (And.right (And.right (by with_reducible assumption)))))) | with_reducible exact (And.right (And.right (And.right (And.right (And.right (And.right (by with_reducible assumption))))))))) | (refine Nat.ne_of_gt ?_; (first | with_reducible assumption | with_reducible exact And.left (by with_reducible assumption) | with_reducible exact And.left (And.right (by with_reducible assumption)) | with_reducible exact And.left (And.right (And.right (by with_reducible assumption))) | with_reducible exact And.left (And.right (And.right (And.right (by with_reducible assumption)))) | with_reducible exact And.left (And.right (And.right (And.right (And.right (by with_reducible assumption))))) | with_reducible exact And.left (And.right (And.right (And.right (And.right (And.right (by with_reducible assumption)))))) | with_reducible exact And.left (And.right (And.right (And.right (And.right (And.right (And.right (by with_reducible assumption))))))) | with_reducible exact And.left (And.right (And.right (And.right (And.right (And.right (And.right (And.right (by with_reducible assumption)))))))) | with_reducible exact And.left (And.right (And.right (And.right (And.right (And.right (And.right (And.right (And.right (by with_reducible assumption))))))))) | with_reducible exact And.left (And.right (And.right (And.right (And.right (And.right (And.right (And.right (And.right (And.right (by with_reducible assumption)))))))))) | with_reducible exact And.left (And.right (And.right (And.right (And.right (And.right (And.right (And.right (And.right (And.right (And.right (by with_reducible assumption))))))))))) | with_reducible exact And.left (And.right (And.right (And.right (And.right (And.right (And.right (And.right (And.right (And.right (And.right (And.right (by with_reducible assumption)))))))))))) | with_reducible exact And.left (And.right (And.right (And.right (And.right (And.right (And.right (And.right (And.right (And.right (And.right (And.right (And.right (by with_reducible assumption))))))))))))) | with_reducible exact (And.right (by with_reducible assumption)) | with_reducible exact (And.right (And.right (by with_reducible assumption))) | with_reducible exact (And.right (And.right (And.right (by with_reducible assumption)))) | with_reducible exact (And.right (And.right (And.right (And.right (by with_reducible assumption))))) | with_reducible exact (And.right (And.right (And.right (And.right (And.right (by with_reducible assumption)))))) | with_reducible exact (And.right (And.right (And.right (And.right (And.right (And.right (by with_reducible assumption))))))))) | omega)
  k_with "mcall" => ((with_reducible show wpAny _ _ (call (Value.ref (nat_lit 84)) [Value.int _ _]) _ _ _); k_dflt (refine' c1_claim ?k1 ?k2 ?k3 ?k4 ?k5 ?k6 ?k7 ?k8 ?kp ?_; (case k1 => k_asm); (case k2 => k_asm); (case k3 => k_asm); (case k4 => k_asm); (case k5 => k_asm); (case k6 => first | exact rfl | assumption); (case k7 => ktr_room); (case k8 => ktr_units); (case kp => omega)); intro t9 h9 tk9 F9 N9; (have hc19 := c1_room (by assumption) (by omega)); (try dsimp only); (try k_fold))
  k_with "mcall" => ((with_reducible show wpAny _ _ (call (Value.ref (nat_lit 91)) [Value.int _ _]) _ _ _); k_dflt (refine' numref_claim ?k1 ?k2 ?k3 ?k4 ?k5 ?k6 ?k7 ?k8 ?kp ?_; (case k1 => k_asm); (case k2 => k_asm); (case k3 => k_asm); (case k4 => k_asm); (case k5 => k_asm); (case k6 => first | exact rfl | assumption); (case k7 => ktr_room); (case k8 => ktr_units); (case kp => omega)); intro D9 o9 h9 tk9 P9 F9 N9 l9; (try k_lt l9); k_dflt (unfold PairIs at P9; rcases P9 with ⟨t19, c19, hf9, he9⟩ | ⟨t19, f9, t29, c19, hf9, he9⟩); all_goals ((subst he9); (try dsimp only); (try k_fold)))
  k_with "mcall" => ((with_reducible show wpAny _ _ (call (Value.ref (nat_lit 531)) [Value.int _ _]) _ _ _); k_dflt (refine' meant_claim ?k1 ?k2 ?k3 ?k4 ?k5 ?k6 ?k7 ?k8 ?kp ?_; (case k1 => k_asm); (case k2 => k_asm); (case k3 => k_asm); (case k4 => k_asm); (case k5 => k_asm); (case k6 => first | exact rfl | assumption); (case k7 => ktr_room); (case k8 => ktr_units); (case kp => omega)); intro D9 o9 h9 tk9 P9 F9 N9 l9; (try k_lt l9); k_dflt (unfold PairIs at P9; rcases P9 with ⟨t19, c19, hf9, he9⟩ | ⟨t19, f9, t29, c19, hf9, he9⟩); all_goals ((subst he9); (try dsimp only); (try k_fold)))
  k_with "mcall" => ((with_reducible show wpAny _ _ (call (Value.ref (nat_lit 524)) [Value.int _ _, Value.int _ _]) _ _ _); k_dflt (refine' lawCode_claim ?k1 ?k2 ?k3 ?k4 ?k5 ?k6 ?k7 ?k8 ?kp ?kq ?_; (case k1 => k_asm); (case k2 => k_asm); (case k3 => k_asm); (case k4 => k_asm); (case k5 => k_asm); (case k6 => first | exact rfl | assumption); (case k7 => ktr_room); (case k8 => ktr_units); (case kp => with_reducible assumption); (case kq => with_reducible assumption)); intro c9 t9 h9 tk9 hlo9 hhi9 F9 N9; (try dsimp only); (try k_fold))
  k_with "mcall" => ((with_reducible show wpAny _ _ (call (Value.ref (nat_lit 538)) [Value.int _ _, Value.int _ _, Value.int _ _]) _ _ _); k_dflt (first | (refine' digits16_claim ?k1 ?k2 ?k3 ?k4 ?k5 ?k6 ?k7 ?k8 ?kp ?kq ?_; (case k1 => k_asm); (case k2 => k_asm); (case k3 => k_asm); (case k4 => k_asm); (case k5 => k_asm); (case k6 => first | exact rfl | assumption); (case k7 => ktr_room); (case k8 => ktr_units); (case kp => with_reducible assumption); (case kq => with_reducible assumption)) | (refine' digits10_claim ?k1 ?k2 ?k3 ?k4 ?k5 ?k6 ?k7 ?k8 ?kp ?kq ?_; (case k1 => k_asm); (case k2 => k_asm); (case k3 => k_asm); (case k4 => k_asm); (case k5 => k_asm); (case k6 => first | exact rfl | assumption); (case k7 => ktr_room); (case k8 => ktr_units); (case kp => with_reducible assumption); (case kq => with_reducible assumption))); intro d9 t9 h9 tk9 I9 E9 hl9 F9 N9; (try dsimp only); (try k_fold))
  k_with "mcall" => ((with_reducible show wpAny _ _ (call (Value.ref (nat_lit 517)) [Value.ref _, Value.int _ _]) _ _ _); k_dflt (refine' pick_claim ?k1 ?k2 ?k3 ?k4 ?k5 ?k6 ?k7 ?k8 ?kt ?ke ?kp ?kq ?_; (case k1 => k_asm); (case k2 => k_asm); (case k3 => k_asm); (case k4 => k_asm); (case k5 => k_asm); (case k6 => first | exact rfl | assumption); (case k7 => ktr_room); (case k8 => ktr_units); (case kt => repeat' (first | exact Take1.head | apply Take1.tail)); (case ke => k_all); (case kp => decide); (case kq => intro v9; exact PyProof.noPylong_of_log2 (by decide +kernel))); intro r9 v9 t9 t99 c9 h9 tk9 hlo9 hhi9 F9 N9; (try dsimp only); (try k_fold))
  trivial
/-! the plain law of the machine: which phase it is in, and what it reads there -/
theorem dval_dig {b : Int} {c : Nat} (hb : b = 10 ∨ b = 16) (h : isDig b c = true) : 0 ≤ dval c ∧ dval c < b ∧ c < 128 := by
  unfold isDig at h
  unfold dval
  rcases hb with rfl | rfl
  · simp only [Bool.or_eq_true, Bool.and_eq_true, decide_eq_true_eq, beq_iff_eq, Int.reduceEq, false_and, or_false] at h
    rw [if_pos (by omega)]; omega
  · simp only [Bool.or_eq_true, Bool.and_eq_true, decide_eq_true_eq, beq_iff_eq, true_and] at h
    split
    · omega
    · split <;> omega
theorem val_lt {b : Int} (hb : b = 10 ∨ b = 16) : ∀ l : List Nat, (∀ c ∈ l, isDig b c = true) → 0 ≤ valOf b l ∧ valOf b l < b ^ l.length
  | [], _ => by show (0 : Int) ≤ 0 ∧ (0 : Int) < b ^ 0; rw [Int.pow_zero]; decide
  | c :: r, h => by
    have hc := dval_dig hb (h c (by simp))
    have hr := val_lt hb r (fun x hx => h x (by simp [hx]))
    rw [val_cons, List.length_cons, Int.pow_succ]
    have hp : 0 < b ^ r.length := Int.pow_pos (by omega)
    refine ⟨Int.add_nonneg (Int.mul_nonneg hc.1 (Int.le_of_lt hp)) hr.1, ?_⟩
    have h1 : dval c * b ^ r.length ≤ (b - 1) * b ^ r.length := Int.mul_le_mul_of_nonneg_right (by omega) (Int.le_of_lt hp)
    rw [Int.sub_mul, Int.one_mul] at h1
    rw [Int.mul_comm (b ^ r.length) b]
    omega
theorem val_snoc (b : Int) (l : List Nat) (c : Nat) : valOf b (l ++ [c]) = valOf b l * b + dval c := by
  unfold valOf; rw [List.foldl_append]; rfl
theorem val_bound {b : Int} (hb : b = 10 ∨ b = 16) {l : List Nat} (h : ∀ c ∈ l, isDig b c = true) (hl : l.length ≤ 24) : 0 ≤ valOf b l ∧ valOf b l < 1267650600228229401496703205376 := by
  have h1 := val_lt hb l h
  refine ⟨h1.1, Int.lt_of_lt_of_le h1.2 ?_⟩
  rcases hb with rfl | rfl
  · have : (10 : Nat) ^ l.length ≤ 10 ^ 24 := Nat.pow_le_pow_right (by decide) hl
    have h3 : (10 : Int) ^ l.length = ((10 ^ l.length : Nat) : Int) := by rw [Int.natCast_pow]; rfl
    rw [h3]; omega
  · have : (16 : Nat) ^ l.length ≤ 16 ^ 24 := Nat.pow_le_pow_right (by decide) hl
    have h3 : (16 : Int) ^ l.length = ((16 ^ l.length : Nat) : Int) := by rw [Int.natCast_pow]; rfl
    rw [h3]; omega
theorem sgn_len (l : List Nat) (i : Int) : (sgn l i).length ≤ 1 := by
  unfold sgn
  cases l[i.toNat]? with
  | none => exact Nat.zero_le 1
  | some c => exact Nat.le_refl 1
theorem sgn_here {a r : List Nat} {i : Int} (h : i = (a.length : Int)) : sgn (a ++ r) i = sgn r 0 := by
  unfold sgn
  have e : i.toNat = a.length := by omega
  rw [e, List.getElem?_append_right (Nat.le_refl _), Nat.sub_self]; rfl
theorem sgn_cons (c : Nat) (r : List Nat) : sgn (c :: r) 0 = ⟨#[c]⟩ := rfl
theorem sgn_nil : sgn [] 0 = ⟨#[]⟩ := rfl
theorem semi_is : PySem.Str.ofString ";" = ⟨#[59]⟩ := by decide +kernel
noncomputable def fitS (b : Int) (c : PySem.Str) : Bool := match c.cps.toList with | [x] => isDig b x | _ => false
theorem fit16 (c : PySem.Str) : fitS 16 c = hexS c := rfl
theorem fit10 (c : PySem.Str) : fitS 10 c = digS c := rfl
theorem fit_one (b : Int) (x : Nat) : fitS b ⟨#[x]⟩ = isDig b x := rfl
theorem tail_fit {b : Int} {tl bh : List Nat} (h : tailOk b tl = true) (hn : tl = [] → bh = []) : fitS b (sgn (tl ++ bh) 0) = false := by
  match tl, h, hn with
  | [], _, hn => rw [hn rfl]; rfl
  | [e], h, _ =>
    show isDig b e = false
    unfold tailOk at h
    simp only [Bool.and_eq_true, Bool.not_eq_true'] at h
    exact h.1.1.1.1
  | _ :: _ :: _, h, _ => cases h
theorem tail_x {b : Int} {tl bh : List Nat} (h : tailOk b tl = true) (hn : tl = [] → bh = []) : ([PySem.Str.ofString "x", PySem.Str.ofString "X"].any fun x => x == sgn (tl ++ bh) 0) = false := by
  have ex : PySem.Str.ofString "x" = ⟨#[120]⟩ := by decide +kernel
  have eX : PySem.Str.ofString "X" = ⟨#[88]⟩ := by decide +kernel
  rw [ex, eX]
  match tl, h, hn with
  | [], _, hn => rw [hn rfl]; rfl
  | [e], h, _ =>
    unfold tailOk at h
    simp only [Bool.and_eq_true, Bool.not_eq_true', Nat.beq_eq_false_iff] at h
    show ([(⟨#[120]⟩ : PySem.Str), ⟨#[88]⟩].any fun x => x == ⟨#[e]⟩) = false
    simp
    exact ⟨fun q => h.1.2 q.symm, fun q => h.2 q.symm⟩
  | _ :: _ :: _, h, _ => cases h
theorem dig_x {b : Int} (hb : b = 10) {c : Nat} {r : List Nat} (h : isDig b c = true) : ([PySem.Str.ofString "x", PySem.Str.ofString "X"].any fun x => x == sgn (c :: r) 0) = false := by
  have ex : PySem.Str.ofString "x" = ⟨#[120]⟩ := by decide +kernel
  have eX : PySem.Str.ofString "X" = ⟨#[88]⟩ := by decide +kernel
  subst hb
  unfold isDig at h
  simp only [Bool.or_eq_true, Bool.and_eq_true, decide_eq_true_eq, beq_iff_eq, Int.reduceEq, false_and, or_false] at h
  rw [ex, eX, sgn_cons]
  simp; omega
theorem x_is {x : Nat} (h : x = 120 ∨ x = 88) : ([PySem.Str.ofString "x", PySem.Str.ofString "X"].any fun y => y == ⟨#[x]⟩) = true := by
  rcases h with rfl | rfl <;> decide +kernel
/-- is the tail a ';' -/
theorem tail_semi {tl bh : List Nat} {tail : PySem.Str} {b : Int} (ht : tail.cps.toList = tl) (h : tailOk b tl = true) (hn : tl = [] → bh = []) :
    (tail = PySem.Str.ofString ";" ∧ sgn (tl ++ bh) 0 = PySem.Str.ofString ";") ∨ (tail ≠ PySem.Str.ofString ";" ∧ (sgn (tl ++ bh) 0 == PySem.Str.ofString ";") = false) := by
  have e0 : (PySem.Str.ofString ";").cps.toList = [59] := by decide +kernel
  by_cases hs : tail = PySem.Str.ofString ";"
  · left
    refine ⟨hs, ?_⟩
    rw [hs, e0] at ht
    rw [← ht, semi_is]; rfl
  · right
    refine ⟨hs, ?_⟩
    rw [semi_is]
    match tl, h, hn, ht with
    | [], _, hn, _ => rw [hn rfl]; rfl
    | [e], _, _, ht =>
      show ((⟨#[e]⟩ : PySem.Str) == ⟨#[59]⟩) = false
      have : e ≠ 59 := by
        rintro rfl
        apply hs
        apply PySem.Str.ext'
        apply Array.toList_inj.mp
        rw [ht, e0]
      simp [this]
    | _ :: _ :: _, h, _, _ => cases h
noncomputable abbrev startS (b : Int) : PySem.Str := if b = 16 then PySem.Str.ofString "hexadecimal character reference start" else PySem.Str.ofString "decimal character reference start"
noncomputable abbrev digsS (b : Int) : PySem.Str := if b = 16 then PySem.Str.ofString "hexadecimal character reference" else PySem.Str.ofString "decimal character reference"
noncomputable def missE (head tail : PySem.Str) : List Dat := if tail = PySem.Str.ofString ";" then [] else [errD misS (lenI head)]
/-- the phases: measure, place, state, buffer, number, errors, text -/
inductive Ph (b : Int) (hx ds : List Nat) (code : Option Int) (head tail back : PySem.Str) : Nat → Int → PySem.Str → List Nat → Int → List Dat → List Nat → Prop
  | start {bf : List Nat} {cd : Int} : Ph b hx ds code head tail back 100 0 (PySem.Str.ofString "character reference") bf cd [] []
  | num {cd : Int} : Ph b hx ds code head tail back 99 1 (PySem.Str.ofString "numeric character reference") [38, 35] cd [] []
  | first {at' : Int} : at' = 1 + (hx.length : Int) → Ph b hx ds code head tail back 98 at' (startS b) (38 :: 35 :: hx) 0 [] []
  | digs {at' c : Int} {pre post : List Nat} : code = some c → ds = pre ++ post → at' = 1 + (hx.length : Int) + (pre.length : Int) → Ph b hx ds code head tail back (60 + post.length) at' (digsS b) (38 :: 35 :: hx) (valOf b pre) [] []
  | fin {c at' : Int} : code = some c → at' = atOf head tail (some c) → Ph b hx ds code head tail back 1 at' (PySem.Str.ofString "numeric character reference end") (38 :: 35 :: hx) c (missE head tail) []
  | done {at' cd : Int} {txt : List Nat} {errs : List Dat} : at' = atOf head tail code → errs = errsOf head tail code → txt = (textOf head code).cps.toList → Ph b hx ds code head tail back 0 at' back [] cd errs txt

theorem rsP2 : True := by
  k_with_none
  k_with "kne" => (refine neN ?_; (try dsimp only); first | with_reducible assumption | with_reducible exact Ne.symm (by with_reducible assumption) | (refine Nat.ne_of_lt ?_; (first | with_reducible assumption | with_reducible exact And.left (by with_reducible assumption) | with_reducible exact And.left (And.right (by with_reducible assumption)) | with_reducible exact And.left (And.right (And.right (by with_reducible assumption))) | with_reducible exact And.left (And.right (And.right (And.right (by with_reducible assumption)))) | with_reducible exact And.left (And.right (And.right (And.right (And.right (by with_reducible assumption))))) | with_reducible exact And.left (And.right (And.right (And.right (And.right (And.right (by with_reducible assumption)))))) | with_reducible exact And.left (And.right (And.right (And.right (And.right (And.right (And.right (by with_reducible assumption))))))) | with_reducible exact And.left (And.right (And.right (And.right (And.right (And.right (And.right (And.right (by with_reducible assumption)))))))) | with_reducible exact And.left (And.right (And.right (And.right (And.right (And.right (And.right (And.right (And.right (by with_reducible assumption))))))))) | with_reducible exact And.left (And.right (And.right (And.right (And.right (And.right (And.right (And.right (And.right (And.right (by with_reducible assumption)))))))))) | with_reducible exact And.left (And.right (And.right (And.right (And.right (And.right (And.right (And.right (And.right (And.right (And.right (by with_reducible assumption))))))))))) | with_reducible exact And.left (And.right (And.right (And.right (And.right (And.right (And.right (And.right (And.right (And.right (And.right (And.right (by with_reducible assumption)))))))))))) | with_reducible exact And.left (And.right (And.right (And.right (And.right (And.right (And.right (And.right (And.right (And.right (And.right (And.right (And.right (by with_reducible assumption))))))))))))) | with_reducible exact (And.right (by with_reducible assumption)) | with_reducible exact (And.right (And.right (by with_reducible assumption))) | with_reducible exact (And.right (And.right (And.right (by with_reducible assumption)))) | with_reducible exact (And.right (And.right (And.right (And.right (by with_reducible assumption))))) | with_reducible exact (And.right (And.right (And.right (And.right (And.right (by with_reducible assumption)))))) | with_reducible exact (And.right (And.right (And.right (And.right (And.right (And.right (by with_reducible assumption))))))))) | (refine Nat.ne_of_gt ?_; (first | with_reducible assumption | with_reducible exact And.left (by with_reducible assumption) | with_reducible exact And.left (And.right (by with_reducible assumption)) | with_reducible exact And.left (And.right (And.right (by with_reducible assumption))) | with_reducible exact And.left (And.right (And.right (And.right (by with_reducible assumption)))) | with_reducible exact And.left (And.right (And.right (And.right (And.right (by with_reducible assumption))))) | with_reducible exact And.left (And.right (And.right (And.right (And.right (And.right (by with_reducible assumption)))))) | with_reducible exact And.left (And.right (And.right (And.right (And.right (And.right (And.right (by with_reducible assumption))))))) | with_reducible exact And.left (And.right (And.right (And.right (And.right (And.right (And.right (And.right (by with_reducible assumption)))))))) | with_reducible exact And.left (And.right (And.right (And.right (And.right (And.right (And.right (And.right (And.right (by with_reducible assumption))))))))) | with_reducible exact And.left (And.right (And.right (And.right (And.right (And.right (And.right (And.right (And.right (And.right (by with_reducible assumption)))))))))) | with_reducible exact And.left (And.right (And.right (And.right (And.right (And.right (And.right (And.right (And.right (And.right (And.right (by with_reducible assumption))))))))))) | with_reducible exact And.left (And.right (And.right (And.right (And.right (And.right (And.right (And.right (And.right (And.right (And.right (And.right (by with_reducible assumption)))))))))))) | with_reducible exact And.left (And.right (And.right (And.right (And.right (And.right (And.right (And.right (And.right (And.right (And.right (And.right (And.right (by with_reducible assumption))))))))))))) | with_reducible exact (And.right (by with_reducible assumption)) | with_reducible exact (And.right (And.right (by with_reducible assumption))) | with_reducible exact (And.right (And.right (And.right (by with_reducible assumption)))) | with_reducible exact (And.right (And.right (And.right (And.right (by with_reducible assumption))))) | with_reducible exact (And.right (And.right (And.right (And.right (And.right (by with_reducible assumption)))))) | with_reducible exact (And.right (And.right (And.right (And.right (And.right (And.right (by with_reducible assumption))))))))) | omega)
  k_with "mcall" => ((with_reducible show wpAny _ _ (call (Value.ref (nat_lit 84)) [Value.int _ _]) _ _ _); k_dflt (refine' c1_claim ?k1 ?k2 ?k3 ?k4 ?k5 ?k6 ?k7 ?k8 ?kp ?_; (case k1 => k_asm); (case k2 => k_asm); (case k3 => k_asm); (case k4 => k_asm); (case k5 => k_asm); (case k6 => first | exact rfl | assumption); (case k7 => ktr_room); (case k8 => ktr_units); (case kp => omega)); intro t9 h9 tk9 F9 N9; (have hc19 := c1_room (by assumption) (by omega)); (try dsimp only); (try k_fold))
  k_with "mcall" => ((with_reducible show wpAny _ _ (call (Value.ref (nat_lit 91)) [Value.int _ _]) _ _ _); k_dflt (refine' numref_claim ?k1 ?k2 ?k3 ?k4 ?k5 ?k6 ?k7 ?k8 ?kp ?_; (case k1 => k_asm); (case k2 => k_asm); (case k3 => k_asm); (case k4 => k_asm); (case k5 => k_asm); (case k6 => first | exact rfl | assumption); (case k7 => ktr_room); (case k8 => ktr_units); (case kp => omega)); intro D9 o9 h9 tk9 P9 F9 N9 l9; (try k_lt l9); k_dflt (unfold PairIs at P9; rcases P9 with ⟨t19, c19, hf9, he9⟩ | ⟨t19, f9, t29, c19, hf9, he9⟩); all_goals ((subst he9); (try dsimp only); (try k_fold)))
  k_with "mcall" => ((with_reducible show wpAny _ _ (call (Value.ref (nat_lit 531)) [Value.int _ _]) _ _ _); k_dflt (refine' meant_claim ?k1 ?k2 ?k3 ?k4 ?k5 ?k6 ?k7 ?k8 ?kp ?_; (case k1 => k_asm); (case k2 => k_asm); (case k3 => k_asm); (case k4 => k_asm); (case k5 => k_asm); (case k6 => first | exact rfl | assumption); (case k7 => ktr_room); (case k8 => ktr_units); (case kp => omega)); intro D9 o9 h9 tk9 P9 F9 N9 l9; (try k_lt l9); k_dflt (unfold PairIs at P9; rcases P9 with ⟨t19, c19, hf9, he9⟩ | ⟨t19, f9, t29, c19, hf9, he9⟩); all_goals ((subst he9); (try dsimp only); (try k_fold)))
  k_with "mcall" => ((with_reducible show wpAny _ _ (call (Value.ref (nat_lit 524)) [Value.int _ _, Value.int _ _]) _ _ _); k_dflt (refine' lawCode_claim ?k1 ?k2 ?k3 ?k4 ?k5 ?k6 ?k7 ?k8 ?kp ?kq ?_; (case k1 => k_asm); (case k2 => k_asm); (case k3 => k_asm); (case k4 => k_asm); (case k5 => k_asm); (case k6 => first | exact rfl | assumption); (case k7 => ktr_room); (case k8 => ktr_units); (case kp => with_reducible assumption); (case kq => with_reducible assumption)); intro c9 t9 h9 tk9 hlo9 hhi9 F9 N9; (try dsimp only); (try k_fold))
  k_with "mcall" => ((with_reducible show wpAny _ _ (call (Value.ref (nat_lit 538)) [Value.int _ _, Value.int _ _, Value.int _ _]) _ _ _); k_dflt (first | (refine' digits16_claim ?k1 ?k2 ?k3 ?k4 ?k5 ?k6 ?k7 ?k8 ?kp ?kq ?_; (case k1 => k_asm); (case k2 => k_asm); (case k3 => k_asm); (case k4 => k_asm); (case k5 => k_asm); (case k6 => first | exact rfl | assumption); (case k7 => ktr_room); (case k8 => ktr_units); (case kp => with_reducible assumption); (case kq => with_reducible assumption)) | (refine' digits10_claim ?k1 ?k2 ?k3 ?k4 ?k5 ?k6 ?k7 ?k8 ?kp ?kq ?_; (case k1 => k_asm); (case k2 => k_asm); (case k3 => k_asm); (case k4 => k_asm); (case k5 => k_asm); (case k6 => first | exact rfl | assumption); (case k7 => ktr_room); (case k8 => ktr_units); (case kp => with_reducible assumption); (case kq => with_reducible assumption))); intro d9 t9 h9 tk9 I9 E9 hl9 F9 N9; (try dsimp only); (try k_fold))
  k_with "mcall" => ((with_reducible show wpAny _ _ (call (Value.ref (nat_lit 517)) [Value.ref _, Value.int _ _]) _ _ _); k_dflt (refine' pick_claim ?k1 ?k2 ?k3 ?k4 ?k5 ?k6 ?k7 ?k8 ?kt ?ke ?kp ?kq ?_; (case k1 => k_asm); (case k2 => k_asm); (case k3 => k_asm); (case k4 => k_asm); (case k5 => k_asm); (case k6 => first | exact rfl | assumption); (case k7 => ktr_room); (case k8 => ktr_units); (case kt => repeat' (first | exact Take1.head | apply Take1.tail)); (case ke => k_all); (case kp => decide); (case kq => intro v9; exact PyProof.noPylong_of_log2 (by decide +kernel))); intro r9 v9 t9 t99 c9 h9 tk9 hlo9 hhi9 F9 N9; (try dsimp only); (try k_fold))
  k_with "mcall" => ((with_reducible show wpAny _ _ (call (Value.ref (nat_lit 327)) _) _ _ _); k_dflt (refine' next_claim ?k1 ?k2 ?k3 ?k4 ?k5 ?k6 ?k7 ?k8 ?kD ?kS ?kL ?k0 ?_; (case k1 => k_asm); (case k2 => k_asm); (case k3 => k_asm); (case k4 => k_asm); (case k5 => k_asm); (case k6 => first | exact rfl | assumption); (case k7 => ktr_room); (case k8 => ktr_units); (case kD => assumption); (case kS => assumption); (case kL => assumption); (case k0 => assumption)); intro t9 ta9 h9 tk9 F9 N9; (try rw [hc]); (try dsimp only); (try k_fold))
  k_with "mcall" => ((with_reducible show wpAny _ _ (call (Value.ref (nat_lit 341)) _) _ _ _); k_dflt (refine' again_claim ?k1 ?k2 ?k3 ?k4 ?k5 ?k6 ?k7 ?k8 ?kD ?_; (case k1 => k_asm); (case k2 => k_asm); (case k3 => k_asm); (case k4 => k_asm); (case k5 => k_asm); (case k6 => first | exact rfl | assumption); (case k7 => ktr_room); (case k8 => ktr_units); (case kD => assumption)); intro ta9 ts9 h9 tk9 F9 N9; (try dsimp only); (try k_fold))
  k_with "mcall" => ((with_reducible show wpAny _ _ (call (Value.ref (nat_lit 348)) _) _ _ _); k_dflt (refine' error2_claim ?k1 ?k2 ?k3 ?k4 ?k5 ?k6 ?k7 ?k8 ?kD ?kS ?kE ?kL ?_; (case k1 => k_asm); (case k2 => k_asm); (case k3 => k_asm); (case k4 => k_asm); (case k5 => k_asm); (case k6 => first | exact rfl | assumption); (case k7 => ktr_room); (case k8 => ktr_units); (case kD => assumption); (case kS => assumption); (case kE => assumption); (case kL => assumption)); intro ev9 rest9 all9 ne9 h9 tk9 SK9 D9 hde9 hsub9 F9 N9; (have hdd9 := D9.d); (try dsimp only); (try k_fold))
  k_with "mcall" => ((with_reducible show wpAny _ _ (call (Value.ref (nat_lit 426)) _) _ _ _); k_dflt (refine' flush_claim ?k1 ?k2 ?k3 ?k4 ?k5 ?k6 ?k7 ?k8 ?kD ?kS ?kE ?kL ?_; (case k1 => k_asm); (case k2 => k_asm); (case k3 => k_asm); (case k4 => k_asm); (case k5 => k_asm); (case k6 => first | exact rfl | assumption); (case k7 => ktr_room); (case k8 => ktr_units); (case kD => assumption); (case kS => assumption); (case kE => assumption); (case kL => assumption)); intro all8 rest8 tf8 h8 tk8 hsub8 D8 SK8 F8 N8; (have hdd8 := D8.d); (try dsimp only); (try k_fold))
  k_with "mcall" => ((with_reducible show wpAny _ _ (call (Value.ref (nat_lit 42)) _) _ _ _); k_dflt (refine' ishex_claim ?k1 ?k2 ?k3 ?k4 ?k5 ?k6 ?k7 ?k8 ?kC ?_; (case k1 => k_asm); (case k2 => k_asm); (case k3 => k_asm); (case k4 => k_asm); (case k5 => k_asm); (case k6 => first | exact rfl | assumption); (case k7 => ktr_room); (case k8 => ktr_units); (case kC => first | assumption | decide)); intro b9 h9 tk9 hb9 F9 N9; rw [hfit] at hb9; subst hb9; (try dsimp only); (try k_fold))
  k_with "mcall" => ((with_reducible show wpAny _ _ (call (Value.ref (nat_lit 35)) _) _ _ _); k_dflt (refine' isdig_claim ?k1 ?k2 ?k3 ?k4 ?k5 ?k6 ?k7 ?k8 ?kC ?_; (case k1 => k_asm); (case k2 => k_asm); (case k3 => k_asm); (case k4 => k_asm); (case k5 => k_asm); (case k6 => first | exact rfl | assumption); (case k7 => ktr_room); (case k8 => ktr_units); (case kC => first | assumption | decide)); intro b9 h9 tk9 hb9 F9 N9; rw [hfit] at hb9; subst hb9; (try dsimp only); (try k_fold))
  k_with "mcall" => ((with_reducible show wpAny _ _ (call (Value.ref (nat_lit 56)) _) _ _ _); k_dflt (refine' dval_claim ?k1 ?k2 ?k3 ?k4 ?k5 ?k6 ?k7 ?k8 ?kC ?_; (case k1 => k_asm); (case k2 => k_asm); (case k3 => k_asm); (case k4 => k_asm); (case k5 => k_asm); (case k6 => first | exact rfl | assumption); (case k7 => ktr_room); (case k8 => ktr_units); (case kC => assumption)); intro t9 h9 tk9 F9 N9; (try dsimp only); (try k_fold))
  k_with "eval Call" => (k_here; k_dflt (refine Call_ ?_))
  k_with "compareOp NotIn str ref" => (k_here; k_dflt (first | refine kdg_notin (knd := PySem.strKind _ _) (by k_asm) (by k_mem) (by k_asm) (by k_asm) (strKind_is _ _ _ _) true (by rfl) ?_ | refine kdg_notin (knd := PySem.strKind _ _) (by k_asm) (by k_mem) (by k_asm) (by k_asm) (strKind_is _ _ _ _) false (by rfl) ?_); (try dsimp only [Bool.not_true, Bool.not_false]))
  k_with "subscriptTail" => (k_here; (with_reducible show wpAny _ _ (subscriptTail _ _ (Value.ref _) (Value.str _ _)) _ _ _); k_dflt (refine kda_item (knd := PySem.strKind _ _) (by k_asm) (by k_mem) (by k_asm) (strKind_is _ _ _ _) (by rfl) ?_))
  k_with "mcall" => ((with_reducible show wpAny _ _ (call (Value.ref (nat_lit 91)) _) _ _ _); k_dflt (refine' numref2_claim ?k1 ?k2 ?k3 ?k4 ?k5 ?k6 ?k7 ?k8 ?kD ?kS ?kE ?kL ?_; (case k1 => k_asm); (case k2 => k_asm); (case k3 => k_asm); (case k4 => k_asm); (case k5 => k_asm); (case k6 => first | exact rfl | assumption); (case k7 => ktr_room); (case k8 => ktr_units); (case kD => assumption); (case kS => assumption); (case kE => assumption); (case kL => assumption)); intro Dn7 o7 all7 h7 tk7 P7 SK7 D7 hde7 F7 N7; (k_extra "mpair"); (have hm7 := Sink.sub SK7 _ List.mem_cons_self); (have hdd7 := D7.d); (try dsimp only); (try k_fold))
  k_with "mtup" => k_dflt (refine pair_item (News.isTup (by k_asm) (mem_led (by first | exact Sink.sub SK9 _ (hsub9 _ List.mem_cons_self) | assumption))) rfl ?_)
  trivial
theorem nil_or (l : List Nat) : l = [] ∨ ∃ x r, l = x :: r := by
  cases l with
  | nil => exact .inl rfl
  | cons x r => exact .inr ⟨x, r, rfl⟩
theorem ph_f {st : PySem.Str} {f g : Addr} (h1 : valueAt stK st = some (.ref f)) (h2 : valueAt stK st = some (.ref g)) : f = g := by
  rw [h1] at h2; cases h2; rfl
theorem lenI_eq {b : Int} {hx ds tl bh : List Nat} {code : Option Int} {head tail behind back : PySem.Str} (C : CaseOk b hx ds tl bh code head tail behind back) : lenI head = 1 + (hx.length : Int) + (ds.length : Int) := by
  have h : head.length = head.cps.toList.length := by simp [PySem.Str.length]
  unfold lenI
  rw [h, C.hhead, List.length_cons, List.length_append]; omega
theorem next_sgn {hx pre post q : List Nat} {i : Int} (h : i = 1 + (hx.length : Int) + (pre.length : Int)) : sgn (35 :: (hx ++ (pre ++ post)) ++ q) i = sgn (post ++ q) 0 := by
  have e : 35 :: (hx ++ (pre ++ post)) ++ q = (35 :: (hx ++ pre)) ++ (post ++ q) := by simp
  rw [e]
  refine sgn_here ?_
  rw [List.length_cons, List.length_append]; omega
theorem cps_amp : (PySem.Str.ofString "&").cps.toList = [38] := by decide +kernel
theorem cps_num : (PySem.Str.ofString "&" ++ PySem.Str.ofString "#").cps.toList = [38, 35] := by decide +kernel
theorem cps_none : (PySem.Str.ofString "").cps.toList = [] := by decide +kernel
theorem len_of_cps {x : PySem.Str} {l : List Nat} (h : x.cps.toList = l) (hl : l.length ≤ 50) : x.length ≤ 50 := by
  have : x.length = x.cps.toList.length := by simp [PySem.Str.length]
  rw [this, h]; exact hl
theorem text_none {b : Int} {hx ds tl bh : List Nat} {head tail behind back : PySem.Str} (C : CaseOk b hx ds tl bh none head tail behind back) : (textOf head none).cps.toList = 38 :: 35 :: hx := by
  have hd : ds = [] := by
    rcases C.hcode with ⟨_, h⟩ | ⟨_, h, _⟩
    · exact h
    · cases h
  show (PySem.Str.ofString "&" ++ head).cps.toList = _
  rw [PySem.Str.cps_append, Array.toList_append, cps_amp, C.hhead, hd, List.append_nil]; rfl
theorem fn_all {w : World} {mean : ExcName → Option Value} {mg mb : PySem.Str → Option Value} {dp un : Nat} {gd : Option (List Code)} {cn : PySem.Str} {cs : Scope} {a : Addr} {ccd : Value} {cl : List (PySem.Str × Addr)} {outer : List Env} {A₀ : Around} {base h₀ : Heap} {L : Addr} {m : PySem.Str → Option Value} {s : Shared} {Q E : Value → Shared → Prop} {Tk Td S SD ST G E' O SE : Addr} {gv ev : List Value} {K : KT} {KR : KR} {so : Obj} {ng ne : Nat} {ret : Bool} {at' cd : Int} {ta ts tb tf tc : Tok} {st bk bf : PySem.Str} {dv lv : Value} {f : Addr} {b : Int} {hx ds tl bh : List Nat} {code : Option Int} {head tail behind : PySem.Str} {n : Nat} {rest : List (Addr × Obj)} {txt l : List Nat} {errs : List Dat} {all : List (Addr × Obj)} (B : Below A₀ base outer h₀) (F : Fr h₀ L s.heap m) (X : (Mine.top.heap_1 w.params).In h₀) (N : News h₀ L s.heap ((Tk, instObj 450 Td) :: (Td, tkD w K ST S O E' at' ta st ts bk tb dv bf tf cd tc lv) :: (S, instObj 287 SD) :: (SD, stD w KR G SE ret) :: (G, listOf gv.toArray ng) :: (E', listOf ev.toArray ne) :: (ST, so) :: all)) (T : Top q (looseW q []) mean mg mb h₀) (hk : cs.kind = .function) (hd : dp + 8 < recursionLimit) (hu : un + 64 < cLine) (D : Dis Tk Td S SD G E' ST all) (SK : Sink w Tk Td S SD G E' O ST bk dv txt rest all) (hde : DatAll rest ev errs) (hel : errs.length ≤ 10) (hso : Obj.IsDictOf (PySem.strKind rw'.row.prog w) so stK) (hlo : (ST == sysModules) = false) (hsg : SignsAre gv l) (hlen : l.length ≤ 100) (h0 : 0 ≤ at') (hst : valueAt stK st = some (.ref f)) (C : CaseOk b hx ds tl bh code head tail behind bk) (hl : l = 35 :: (hx ++ ds) ++ (tl ++ bh)) (P : Ph b hx ds code head tail bk (n + 1) at' st bf.cps.toList cd errs txt)
   (hret : ∀ (n2 : Nat) (at2 cd2 : Int) (ta2 ts2 tf2 tc2 : Tok) (st2 bf2 : PySem.Str) (ev2 : List Value) (ne2 : Nat) (all2 rest2 : List (Addr × Obj)) (errs2 : List Dat) (txt2 : List Nat) (h' : Heap) (tk' : Nat), n2 < n + 1 → Ph b hx ds code head tail bk n2 at2 st2 bf2.cps.toList cd2 errs2 txt2 → 0 ≤ at2 → Sink w Tk Td S SD G E' O ST bk dv txt2 rest2 all2 → Dis Tk Td S SD G E' ST all2 → DatAll rest2 ev2 errs2 → errs2.length ≤ 10 → (∀ p ∈ rest, p ∈ rest2) → Fr h₀ L h' m → News h₀ L h' ((Tk, instObj 450 Td) :: (Td, tkD w K ST S O E' at2 ta2 st2 ts2 bk tb dv bf2 tf2 cd2 tc2 lv) :: (S, instObj 287 SD) :: (SD, stD w KR G SE ret) :: (G, listOf gv.toArray ng) :: (E', listOf ev2.toArray ne2) :: (ST, so) :: all2) → Q .none { s with heap := h', toks := tk' })
    : wpAny (model rw'.row.toRowW.prog w) (ktrTop dp un gd cn cs L a ccd cl outer) (call (.ref f) [.ref Tk]) Q E s := by
  have hLn := lenI_eq C
  generalize hn : n + 1 = n1 at P
  generalize hbf : bf.cps.toList = bfl at P
  have hx1 : hx.length ≤ 1 := by rcases C.base with ⟨_, h⟩ | ⟨_, h | h⟩ <;> rw [h] <;> decide
  cases P with
  | start =>
    obtain rfl : f = 126 := ph_f hst rfl
    exact fn1 B F X N T hk hd hu D SK hde hel hso hlo hsg hlen h0 (by rw [hl]; rfl) fun ta' ts' tf' bf' h' tk' e F' N' =>
      hret 99 _ _ _ _ _ _ _ _ _ _ _ _ _ _ _ _ (by omega) (by rw [e, cps_num]; exact .num) (by decide) SK D hde (by decide) (fun _ h => h) F' N'
  | num =>
    have hb50 : bf.length ≤ 50 := len_of_cps hbf (by decide)
    rcases C.base with ⟨hb, hh⟩ | ⟨hb, hh⟩
    · have hx0 : ([PySem.Str.ofString "x", PySem.Str.ofString "X"].any fun x => x == sgn l 1) = false := by
        have e := next_sgn (hx := hx) (pre := []) (post := ds) (q := tl ++ bh) (i := 1) (by rw [hh]; rfl)
        rw [List.nil_append] at e
        rw [hl, e]
        rcases C.hcode with ⟨_, h⟩ | ⟨c, _, _, h, _⟩
        · rw [h, List.nil_append]; exact tail_x C.htok C.hnone
        · obtain ⟨x, r, hdr⟩ := List.exists_cons_of_ne_nil h
          rw [hdr]; exact dig_x hb (C.hds x (by rw [hdr]; simp))
      obtain rfl : f = 154 := ph_f hst rfl
      exact fn2d B F X N T hk hd hu D SK hde hel hso hlo hsg hlen h0 rfl hx0 (sgn_len _ _) hb50 fun ta' ts' tc' h' tk' F' N' =>
        hret 98 _ _ _ _ _ _ _ _ _ _ _ _ _ _ _ _ (by omega) (by have q := Ph.first (b := b) (hx := hx) (ds := ds) (code := code) (head := head) (tail := tail) (back := bk) (at' := 1 + 1 - 1) (by rw [hh]; rfl); rw [hb] at q ⊢; rw [hbf]; rw [hh] at q ⊢; exact q) (by decide) SK D hde (by decide) (fun _ h => h) F' N'
    · obtain ⟨x, hx2, hxx⟩ : ∃ x, hx = [x] ∧ (x = 120 ∨ x = 88) := by
        rcases hh with h | h
        · exact ⟨_, h, .inl rfl⟩
        · exact ⟨_, h, .inr rfl⟩
      obtain rfl : f = 154 := ph_f hst rfl
      exact fn2x B F X N T hk hd hu D SK hde hel hso hlo hsg hlen h0 (cx := ⟨#[x]⟩) (by rw [hl, hx2]; rfl) (x_is hxx) (Nat.le_refl 1) hb50 fun ta' ts' tf' tc' h' tk' F' N' =>
        hret 98 _ _ _ _ _ _ _ _ _ _ _ _ _ _ _ _ (by omega) (by have q := Ph.first (b := b) (hx := hx) (ds := ds) (code := code) (head := head) (tail := tail) (back := bk) (at' := 1 + 1) (by rw [hx2]; rfl); rw [hb] at q ⊢; rw [PySem.Str.cps_append, Array.toList_append, hbf]; rw [hx2] at q ⊢; exact q) (by decide) SK D hde (by decide) (fun _ h => h) F' N'
  | first hat =>
    have hb50 : bf.length ≤ 50 := len_of_cps hbf (by simp; omega)
    rcases C.hcode with ⟨hcode, hds⟩ | ⟨c, hcode, hc0, hdn, hval⟩
    · have e : sgn l at' = sgn (tl ++ bh) 0 := by rw [hl, hds]; exact next_sgn (pre := []) (post := []) (by rw [hat]; simp)
      have hf : fitS b (sgn l at') = false := by rw [e]; exact tail_fit C.htok C.hnone
      subst hcode
      have hat2 : at' + 1 - 1 = atOf head tail none := by show _ = lenI head; rw [hLn, hds]; simp; omega
      rcases C.base with ⟨hb, hh⟩ | ⟨hb, hh⟩
      · subst hb
        obtain rfl : f = 175 := ph_f hst rfl
        exact fn3de B F X N T hk hd hu D SK hde hel hso hlo hsg hlen h0 rfl hf (sgn_len _ _) hb50 (by decide) fun ev' rest' all' ne' ta' ts' tf' h' tk' SK' D' hde' hsub F' N' =>
          hret 0 _ _ _ _ _ _ _ _ _ _ _ _ _ _ _ _ (by omega) (by rw [cps_none]; exact .done hat2 (by rw [hat2]; rfl) (by rw [hbf, text_none C]; rfl)) (by omega) SK' D' hde' (Nat.le_of_ble_eq_true rfl) hsub F' N'
      · subst hb
        obtain rfl : f = 168 := ph_f hst rfl
        exact fn3he B F X N T hk hd hu D SK hde hel hso hlo hsg hlen h0 rfl hf (sgn_len _ _) hb50 (by decide) fun ev' rest' all' ne' ta' ts' tf' h' tk' SK' D' hde' hsub F' N' =>
          hret 0 _ _ _ _ _ _ _ _ _ _ _ _ _ _ _ _ (by omega) (by rw [cps_none]; exact .done hat2 (by rw [hat2]; rfl) (by rw [hbf, text_none C]; rfl)) (by omega) SK' D' hde' (Nat.le_of_ble_eq_true rfl) hsub F' N'
    · obtain ⟨x, r, hdr⟩ := List.exists_cons_of_ne_nil hdn
      have e : sgn l at' = ⟨#[x]⟩ := by
        rw [hl, hdr]
        have := next_sgn (hx := hx) (pre := []) (post := x :: r) (q := tl ++ bh) (i := at') (by rw [hat]; simp)
        rw [List.nil_append] at this
        rw [this]; rfl
      have hdx : isDig b x = true := C.hds x (by rw [hdr]; simp)
      have hf : fitS b (sgn l at') = true := by rw [e]; exact hdx
      have q := Ph.digs (b := b) (hx := hx) (ds := ds) (code := code) (head := head) (tail := tail) (back := bk) (at' := at' + 1 - 1) (pre := []) (post := ds) hcode rfl (by rw [hat]; simp)
      have hL24 := C.hlen
      rcases C.base with ⟨hb, hh⟩ | ⟨hb, hh⟩
      · subst hb
        obtain rfl : f = 175 := ph_f hst rfl
        exact fn3d B F X N T hk hd hu D SK hde hel hso hlo hsg hlen h0 rfl hf (sgn_len _ _) fun ta' ts' h' tk' F' N' =>
          hret (60 + ds.length) _ _ _ _ _ _ _ _ _ _ _ _ _ _ _ _ (by omega) (by rw [hbf]; exact q) (by omega) SK D hde (by decide) (fun _ h => h) F' N'
      · subst hb
        obtain rfl : f = 168 := ph_f hst rfl
        exact fn3h B F X N T hk hd hu D SK hde hel hso hlo hsg hlen h0 rfl hf (sgn_len _ _) fun ta' ts' h' tk' F' N' =>
          hret (60 + ds.length) _ _ _ _ _ _ _ _ _ _ _ _ _ _ _ _ (by omega) (by rw [hbf]; exact q) (by omega) SK D hde (by decide) (fun _ h => h) F' N'
  | @digs _ c pre post hcode hds hat =>
    have hb2 : b = 10 ∨ b = 16 := by rcases C.base with ⟨h, _⟩ | ⟨h, _⟩ <;> simp [h]
    have hdg : ∀ x ∈ pre ++ post, isDig b x = true := by rw [← hds]; exact C.hds
    have hL24 : (pre ++ post).length ≤ 24 := by rw [← hds]; exact C.hlen
    have hvb := val_bound hb2 (l := pre) (fun x hx => hdg x (by simp [hx])) (by rw [List.length_append] at hL24; omega)
    rcases nil_or post with hp | ⟨x, r, hp⟩
    rotate_left
    · subst hp
      have e : sgn l at' = ⟨#[x]⟩ := by rw [hl, hds, next_sgn hat]; rfl
      have hdx : isDig b x = true := hdg x (by simp)
      have hdv := dval_dig hb2 hdx
      have hx128 : x < 1114112 := by omega
      have q := Ph.digs (b := b) (hx := hx) (ds := ds) (code := code) (head := head) (tail := tail) (back := bk) (at' := at' + 1) (c := c) (pre := pre ++ [x]) (post := r) hcode (by rw [hds]; simp) (by rw [hat, List.length_append, List.length_singleton]; omega)
      rw [val_snoc] at q
      rcases C.base with ⟨hb, hh⟩ | ⟨hb, hh⟩
      · subst hb
        obtain rfl : f = 196 := ph_f hst rfl
        exact fn4d B F X N T hk hd hu D SK hde hel hso hlo hsg hlen h0 e hdx (Nat.le_refl 1) hx128 hvb.1 hvb.2 fun ta' tc' h' tk' F' N' =>
          hret (60 + r.length) _ _ _ _ _ _ _ _ _ _ _ _ _ _ _ _ (by rw [List.length_cons] at hn; omega) (by rw [hbf]; exact q) (by omega) SK D hde (by decide) (fun _ h => h) F' N'
      · subst hb
        obtain rfl : f = 189 := ph_f hst rfl
        exact fn4h B F X N T hk hd hu D SK hde hel hso hlo hsg hlen h0 e hdx (Nat.le_refl 1) hx128 hvb.1 hvb.2 fun ta' tc' h' tk' F' N' =>
          hret (60 + r.length) _ _ _ _ _ _ _ _ _ _ _ _ _ _ _ _ (by rw [List.length_cons] at hn; omega) (by rw [hbf]; exact q) (by omega) SK D hde (by decide) (fun _ h => h) F' N'
    · subst hp
      have e : sgn l at' = sgn (tl ++ bh) 0 := by rw [hl, hds, next_sgn hat]; rfl
      rw [List.append_nil] at hds
      have hf : fitS b (sgn l at') = false := by rw [e]; exact tail_fit C.htok C.hnone
      have hcv : valOf b pre = c ∧ 0 ≤ c := by
        rcases C.hcode with ⟨h, _⟩ | ⟨c', h, h2, _, h3⟩
        · rw [h] at hcode; cases hcode
        · rw [h] at hcode; cases hcode; rw [← hds]; exact ⟨h3, h2⟩
      have hL9 : at' = lenI head := by rw [hLn, hat, hds]
      rcases tail_semi C.htail C.htok C.hnone with ⟨hsm, hsg2⟩ | ⟨hsm, hsg2⟩
      · have q := Ph.fin (b := b) (hx := hx) (ds := ds) (code := code) (head := head) (tail := tail) (back := bk) (at' := at' + 1) (c := c) hcode (by show _ = if tail = PySem.Str.ofString ";" then _ else _; rw [if_pos hsm, hL9])
        have hm : missE head tail = [] := if_pos hsm
        rw [hm] at q
        have e2 : sgn l at' = PySem.Str.ofString ";" := by rw [e]; exact hsg2
        rcases C.base with ⟨hb, hh⟩ | ⟨hb, hh⟩
        · subst hb
          obtain rfl : f = 196 := ph_f hst rfl
          exact fn4ds B F X N T hk hd hu D SK hde hel hso hlo hsg hlen h0 e2 (by rw [← e2]; exact hf) (by rw [← e2]; exact sgn_len _ _) fun ta' ts' h' tk' F' N' =>
            hret 1 _ _ _ _ _ _ _ _ _ _ _ _ _ _ _ _ (by simp at hn; omega) (by rw [hbf, hcv.1]; exact q) (by omega) SK D hde (by decide) (fun _ h => h) F' N'
        · subst hb
          obtain rfl : f = 189 := ph_f hst rfl
          exact fn4hs B F X N T hk hd hu D SK hde hel hso hlo hsg hlen h0 e2 (by rw [← e2]; exact hf) (by rw [← e2]; exact sgn_len _ _) fun ta' ts' h' tk' F' N' =>
            hret 1 _ _ _ _ _ _ _ _ _ _ _ _ _ _ _ _ (by simp at hn; omega) (by rw [hbf, hcv.1]; exact q) (by omega) SK D hde (by decide) (fun _ h => h) F' N'
      · have q := Ph.fin (b := b) (hx := hx) (ds := ds) (code := code) (head := head) (tail := tail) (back := bk) (at' := at' + 1 - 1) (c := c) hcode (by show _ = if tail = PySem.Str.ofString ";" then _ else _; rw [if_neg hsm, hL9]; omega)
        have hm : missE head tail = [] ++ [errD misS (at' + 1 - 1)] := by
          have h1 : at' + 1 - 1 = lenI head := by omega
          rw [h1]; exact if_neg hsm
        rw [hm] at q
        have hs2 : (sgn l at' == PySem.Str.ofString ";") = false := by rw [e]; exact hsg2
        rcases C.base with ⟨hb, hh⟩ | ⟨hb, hh⟩
        · subst hb
          obtain rfl : f = 196 := ph_f hst rfl
          exact fn4de B F X N T hk hd hu D SK hde hel hso hlo hsg hlen h0 rfl hf (sgn_len _ _) hs2 fun ev' rest' all' ne' ta' ts' h' tk' SK' D' hde' hsub F' N' =>
            hret 1 _ _ _ _ _ _ _ _ _ _ _ _ _ _ _ _ (by simp at hn; omega) (by rw [hbf, hcv.1]; exact q) (by omega) SK' D' hde' (Nat.le_of_ble_eq_true rfl) hsub F' N'
        · subst hb
          obtain rfl : f = 189 := ph_f hst rfl
          exact fn4he B F X N T hk hd hu D SK hde hel hso hlo hsg hlen h0 rfl hf (sgn_len _ _) hs2 fun ev' rest' all' ne' ta' ts' h' tk' SK' D' hde' hsub F' N' =>
            hret 1 _ _ _ _ _ _ _ _ _ _ _ _ _ _ _ _ (by simp at hn; omega) (by rw [hbf, hcv.1]; exact q) (by omega) SK' D' hde' (Nat.le_of_ble_eq_true rfl) hsub F' N'
  | @fin _ _ hcode hat =>
    have hc0 : 0 ≤ cd := by
      rcases C.hcode with ⟨h, _⟩ | ⟨c', h, h2, _⟩
      · rw [h] at hcode; cases hcode
      · rw [h] at hcode; cases hcode; exact h2
    have hml : (mText cd).length ≤ 50 := Nat.le_of_ble_eq_true rfl
    have hat2 : at' = atOf head tail code := by rw [hcode]; exact hat
    have htx : [] ++ (mText cd).cps.toList = (textOf head code).cps.toList := by rw [hcode]; rfl
    have hme : (missE head tail).length ≤ 1 := by unfold missE; split <;> simp
    cases hfl : mFault cd with
    | none =>
      have her : missE head tail = errsOf head tail code := by
        rw [hcode]; show _ = (if tail = PySem.Str.ofString ";" then [] else [errD misS (lenI head)]) ++ faultD cd _
        unfold faultD; rw [hfl]; exact (List.append_nil _).symm
      obtain rfl : f = 203 := ph_f hst rfl
      exact fn5n B F X N T hk hd hu D SK hde hel hso hlo hsg hlen h0 hfl hc0 hml (by decide) fun rest' all' ts' tf' h' tk' SK' D' hde' hsub F' N' =>
        hret 0 _ _ _ _ _ _ _ _ _ _ _ _ _ _ _ _ (by omega) (by rw [cps_none]; exact .done hat2 her htx) h0 SK' D' hde' hel hsub F' N'
    | some fs =>
      have her : missE head tail ++ [errD fs (at' - 1)] = errsOf head tail code := by
        rw [hcode, hat]; show _ = (if tail = PySem.Str.ofString ";" then [] else [errD misS (lenI head)]) ++ faultD cd _
        unfold faultD; rw [hfl]; rfl
      obtain rfl : f = 203 := ph_f hst rfl
      exact fn5s B F X N T hk hd hu D SK hde hel hso hlo hsg hlen h0 hfl hc0 hml (by decide) fun ev' rest' all' ne' ts' tf' h' tk' SK' D' hde' hsub F' N' =>
        hret 0 _ _ _ _ _ _ _ _ _ _ _ _ _ _ _ _ (by omega) (by rw [cps_none]; exact .done hat2 her htx) h0 SK' D' hde' (by rw [List.length_append]; simp; omega) hsub F' N'
  | done => omega
theorem keep126 {w : World} {h₀ : Heap} (X : (Mine.top.heap_1 w.params).In h₀) : keepIn (Mine.top.heap_1 w.params) (.ref 126) = true := by kernel_rfl
theorem keep154 {w : World} {h₀ : Heap} (X : (Mine.top.heap_1 w.params).In h₀) : keepIn (Mine.top.heap_1 w.params) (.ref 154) = true := by kernel_rfl
theorem keep168 {w : World} {h₀ : Heap} (X : (Mine.top.heap_1 w.params).In h₀) : keepIn (Mine.top.heap_1 w.params) (.ref 168) = true := by kernel_rfl
theorem keep175 {w : World} {h₀ : Heap} (X : (Mine.top.heap_1 w.params).In h₀) : keepIn (Mine.top.heap_1 w.params) (.ref 175) = true := by kernel_rfl
theorem keep189 {w : World} {h₀ : Heap} (X : (Mine.top.heap_1 w.params).In h₀) : keepIn (Mine.top.heap_1 w.params) (.ref 189) = true := by kernel_rfl
theorem keep196 {w : World} {h₀ : Heap} (X : (Mine.top.heap_1 w.params).In h₀) : keepIn (Mine.top.heap_1 w.params) (.ref 196) = true := by kernel_rfl
theorem keep203 {w : World} {h₀ : Heap} (X : (Mine.top.heap_1 w.params).In h₀) : keepIn (Mine.top.heap_1 w.params) (.ref 203) = true := by kernel_rfl
theorem ph_fn {w : World} {h₀ : Heap} (X : (Mine.top.heap_1 w.params).In h₀) {b : Int} {hx ds tl bh : List Nat} {code : Option Int} {head tail behind back st : PySem.Str} {n : Nat} {at' cd : Int} {bf txt : List Nat} {errs : List Dat} (C : CaseOk b hx ds tl bh code head tail behind back) (P : Ph b hx ds code head tail back (n + 1) at' st bf cd errs txt) :
    ∃ f, valueAt stK st = some (.ref f) ∧ keepIn (Mine.top.heap_1 w.params) (.ref f) = true := by
  generalize hn : n + 1 = n1 at P
  cases P with
  | start => exact ⟨126, rfl, keep126 X⟩
  | num => exact ⟨154, rfl, keep154 X⟩
  | first _ =>
    rcases C.base with ⟨hb, _⟩ | ⟨hb, _⟩
    · subst hb; exact ⟨175, rfl, keep175 X⟩
    · subst hb; exact ⟨168, rfl, keep168 X⟩
  | digs _ _ _ =>
    rcases C.base with ⟨hb, _⟩ | ⟨hb, _⟩
    · subst hb; exact ⟨196, rfl, keep196 X⟩
    · subst hb; exact ⟨189, rfl, keep189 X⟩
  | fin _ _ => exact ⟨203, rfl, keep203 X⟩
  | done _ _ _ => omega
theorem step_all {w : World} {mean : ExcName → Option Value} {mg mb : PySem.Str → Option Value} {dp un : Nat} {gd : Option (List Code)} {cn : PySem.Str} {cs : Scope} {a : Addr} {ccd : Value} {cl : List (PySem.Str × Addr)} {outer : List Env} {A₀ : Around} {base h₀ : Heap} {L : Addr} {m : PySem.Str → Option Value} {s : Shared} {Q E : Value → Shared → Prop} {Tk Td S SD ST G E' O SE : Addr} {gv ev : List Value} {K : KT} {KR : KR} {so : Obj} {ng ne : Nat} {ret : Bool} {at' cd : Int} {ta ts tb tf tc : Tok} {st bk bf : PySem.Str} {dv lv : Value} {b : Int} {hx ds tl bh : List Nat} {code : Option Int} {head tail behind : PySem.Str} {n : Nat} {rest : List (Addr × Obj)} {txt l : List Nat} {errs : List Dat} {all : List (Addr × Obj)} (B : Below A₀ base outer h₀) (F : Fr h₀ L s.heap m) (X : (Mine.top.heap_1 w.params).In h₀) (N : News h₀ L s.heap ((Tk, instObj 450 Td) :: (Td, tkD w K ST S O E' at' ta st ts bk tb dv bf tf cd tc lv) :: (S, instObj 287 SD) :: (SD, stD w KR G SE ret) :: (G, listOf gv.toArray ng) :: (E', listOf ev.toArray ne) :: (ST, so) :: all)) (T : Top q (looseW q []) mean mg mb h₀) (hk : cs.kind = .function) (hd : dp + 10 < recursionLimit) (hu : un + 80 < cLine) (D : Dis Tk Td S SD G E' ST all) (SK : Sink w Tk Td S SD G E' O ST bk dv txt rest all) (hde : DatAll rest ev errs) (hel : errs.length ≤ 10) (hso : Obj.IsDictOf (PySem.strKind rw'.row.prog w) so stK) (hlo : (ST == sysModules) = false) (hsg : SignsAre gv l) (hlen : l.length ≤ 100) (h0 : 0 ≤ at') (C : CaseOk b hx ds tl bh code head tail behind bk) (hl : l = 35 :: (hx ++ ds) ++ (tl ++ bh)) (P : Ph b hx ds code head tail bk (n + 1) at' st bf.cps.toList cd errs txt)
   (hret : ∀ (n2 : Nat) (at2 cd2 : Int) (ta2 ts2 tf2 tc2 : Tok) (st2 bf2 : PySem.Str) (ev2 : List Value) (ne2 : Nat) (all2 rest2 : List (Addr × Obj)) (errs2 : List Dat) (txt2 : List Nat) (h' : Heap) (tk' : Nat), n2 < n + 1 → Ph b hx ds code head tail bk n2 at2 st2 bf2.cps.toList cd2 errs2 txt2 → 0 ≤ at2 → Sink w Tk Td S SD G E' O ST bk dv txt2 rest2 all2 → Dis Tk Td S SD G E' ST all2 → DatAll rest2 ev2 errs2 → errs2.length ≤ 10 → (∀ p ∈ rest, p ∈ rest2) → Fr h₀ L h' m → News h₀ L h' ((Tk, instObj 450 Td) :: (Td, tkD w K ST S O E' at2 ta2 st2 ts2 bk tb dv bf2 tf2 cd2 tc2 lv) :: (S, instObj 287 SD) :: (SD, stD w KR G SE ret) :: (G, listOf gv.toArray ng) :: (E', listOf ev2.toArray ne2) :: (ST, so) :: all2) → Q .none { s with heap := h', toks := tk' })
    : wpAny (model rw'.row.toRowW.prog w) (ktrTop dp un gd cn cs L a ccd cl outer) (call (.ref 433) [.ref Tk]) Q E s := by
  obtain ⟨f, hst, hkeep⟩ := ph_fn X C P
  exact step_gen B F X N T hk hd hu D hso hlo hst hkeep (fun at2 cd2 st2 bf2 ev2 all2 => ∃ n2 rest2 errs2 txt2, n2 < n + 1 ∧ Ph b hx ds code head tail bk n2 at2 st2 bf2.cps.toList cd2 errs2 txt2 ∧ 0 ≤ at2 ∧ Sink w Tk Td S SD G E' O ST bk dv txt2 rest2 all2 ∧ Dis Tk Td S SD G E' ST all2 ∧ DatAll rest2 ev2 errs2 ∧ errs2.length ≤ 10 ∧ (∀ p ∈ rest, p ∈ rest2))
    (fun B F X N T hk hd hu hr => fn_all B F X N T hk hd hu D SK hde hel hso hlo hsg hlen h0 hst C hl P fun n2 at2 cd2 ta2 ts2 tf2 tc2 st2 bf2 ev2 ne2 all2 rest2 errs2 txt2 h' tk' q1 q2 q3 q4 q5 q6 q7 q8 F' N' => hr at2 cd2 ta2 ts2 tf2 tc2 st2 bf2 ev2 ne2 all2 h' tk' ⟨n2, rest2, errs2, txt2, q1, q2, q3, q4, q5, q6, q7, q8⟩ F' N')
    (fun at2 cd2 ta2 ts2 tf2 tc2 st2 bf2 ev2 ne2 all2 h' tk' ⟨n2, rest2, errs2, txt2, q1, q2, q3, q4, q5, q6, q7, q8⟩ F' N' => hret n2 at2 cd2 ta2 ts2 tf2 tc2 st2 bf2 ev2 ne2 all2 rest2 errs2 txt2 h' tk' q1 q2 q3 q4 q5 q6 q7 q8 F' N')

theorem rsR3 : True := by
  k_with_none
  k_with "kne" => (refine neN ?_; (try dsimp only); first | with_reducible assumption | with_reducible exact Ne.symm (by with_reducible assumption) | (refine Nat.ne_of_lt ?_; (first | with_reducible assumption | with_reducible exact And.left (by with_reducible assumption) | with_reducible exact And.left (And.right (by with_reducible assumption)) | with_reducible exact And.left (And.right (And.right (by with_reducible assumption))) | with_reducible exact And.left (And.right (And.right (And.right (by with_reducible assumption)))) | with_reducible exact And.left (And.right (And.right (And.right (And.right (by with_reducible assumption))))) | with_reducible exact And.left (And.right (And.right (And.right (And.right (And.right (by with_reducible assumption)))))) | with_reducible exact And.left (And.right (And.right (And.right (And.right (And.right (And.right (by with_reducible assumption))))))) | with_reducible exact And.left (And.right (And.right (And.right (And.right (And.right (And.right (And.right (by with_reducible assumption)))))))) | with_reducible exact And.left (And.right (And.right (And.right (And.right (And.right (And.right (And.right (And.right (by with_reducible assumption))))))))) | with_reducible exact And.left (And.right (And.right (And.right (And.right (And.right (And.right (And.right (And.right (And.right (by with_reducible assumption)))))))))) | with_reducible exact And.left (And.right (And.right (And.right (And.right (And.right (And.right (And.right (And.right (And.right (And.right (by with_reducible assumption))))))))))) | with_reducible exact And.left (And.right (And.right (And.right (And.right (And.right (And.right (And.right (And.right (And.right (And.right (And.right (by with_reducible assumption)))))))))))) | with_reducible exact And.left (And.right (And.right (And.right (And.right (And.right (And.right (And.right (And.right (And.right (And.right (And.right (And.right (by with_reducible assumption))))))))))))) | with_reducible exact (And.right (by with_reducible assumption)) | with_reducible exact (And.right (And.right (by with_reducible assumption))) | with_reducible exact (And.right (And.right (And.right (by with_reducible assumption)))) | with_reducible exact (And.right (And.right (And.right (And.right (by with_reducible assumption))))) | with_reducible exact (And.right (And.right (And.right (And.right (And.right (by with_reducible assumption)))))) | with_reducible exact (And.right (And.right (And.right (And.right (And.right (And.right (by with_reducible assumption))))))))) | (refine Nat.ne_of_gt ?_; (first | with_reducible assumption | with_reducible exact And.left (by with_reducible assumption) | with_reducible exact And.left (And.right (by with_reducible assumption)) | with_reducible exact And.left (And.right (And.right (by with_reducible assumption))) | with_reducible exact And.left (And.right (And.right (And.right (by with_reducible assumption)))) | with_reducible exact And.left (And.right (And.right (And.right (And.right (by with_reducible assumption))))) | with_reducible exact And.left (And.right (And.right (And.right (And.right (And.right (by with_reducible assumption)))))) | with_reducible exact And.left (And.right (And.right (And.right (And.right (And.right (And.right (by with_reducible assumption))))))) | with_reducible exact And.left (And.right (And.right (And.right (And.right (And.right (And.right (And.right (by with_reducible assumption)))))))) | with_reducible exact And.left (And.right (And.right (And.right (And.right (And.right (And.right (And.right (And.right (by with_reducible assumption))))))))) | with_reducible exact And.left (And.right (And.right (And.right (And.right (And.right (And.right (And.right (And.right (And.right (by with_reducible assumption)))))))))) | with_reducible exact And.left (And.right (And.right (And.right (And.right (And.right (And.right (And.right (And.right (And.right (And.right (by with_reducible assumption))))))))))) | with_reducible exact And.left (And.right (And.right (And.right (And.right (And.right (And.right (And.right (And.right (And.right (And.right (And.right (by with_reducible assumption)))))))))))) | with_reducible exact And.left (And.right (And.right (And.right (And.right (And.right (And.right (And.right (And.right (And.right (And.right (And.right (And.right (by with_reducible assumption))))))))))))) | with_reducible exact (And.right (by with_reducible assumption)) | with_reducible exact (And.right (And.right (by with_reducible assumption))) | with_reducible exact (And.right (And.right (And.right (by with_reducible assumption)))) | with_reducible exact (And.right (And.right (And.right (And.right (by with_reducible assumption))))) | with_reducible exact (And.right (And.right (And.right (And.right (And.right (by with_reducible assumption)))))) | with_reducible exact (And.right (And.right (And.right (And.right (And.right (And.right (by with_reducible assumption))))))))) | omega)
  k_with "mcall" => ((with_reducible show wpAny _ _ (call (Value.ref (nat_lit 84)) [Value.int _ _]) _ _ _); k_dflt (refine' c1_claim ?k1 ?k2 ?k3 ?k4 ?k5 ?k6 ?k7 ?k8 ?kp ?_; (case k1 => k_asm); (case k2 => k_asm); (case k3 => k_asm); (case k4 => k_asm); (case k5 => k_asm); (case k6 => first | exact rfl | assumption); (case k7 => ktr_room); (case k8 => ktr_units); (case kp => omega)); intro t9 h9 tk9 F9 N9; (have hc19 := c1_room (by assumption) (by omega)); (try dsimp only); (try k_fold))
  k_with "mcall" => ((with_reducible show wpAny _ _ (call (Value.ref (nat_lit 91)) [Value.int _ _]) _ _ _); k_dflt (refine' numref_claim ?k1 ?k2 ?k3 ?k4 ?k5 ?k6 ?k7 ?k8 ?kp ?_; (case k1 => k_asm); (case k2 => k_asm); (case k3 => k_asm); (case k4 => k_asm); (case k5 => k_asm); (case k6 => first | exact rfl | assumption); (case k7 => ktr_room); (case k8 => ktr_units); (case kp => omega)); intro D9 o9 h9 tk9 P9 F9 N9 l9; (try k_lt l9); k_dflt (unfold PairIs at P9; rcases P9 with ⟨t19, c19, hf9, he9⟩ | ⟨t19, f9, t29, c19, hf9, he9⟩); all_goals ((subst he9); (try dsimp only); (try k_fold)))
  k_with "mcall" => ((with_reducible show wpAny _ _ (call (Value.ref (nat_lit 531)) [Value.int _ _]) _ _ _); k_dflt (refine' meant_claim ?k1 ?k2 ?k3 ?k4 ?k5 ?k6 ?k7 ?k8 ?kp ?_; (case k1 => k_asm); (case k2 => k_asm); (case k3 => k_asm); (case k4 => k_asm); (case k5 => k_asm); (case k6 => first | exact rfl | assumption); (case k7 => ktr_room); (case k8 => ktr_units); (case kp => omega)); intro D9 o9 h9 tk9 P9 F9 N9 l9; (try k_lt l9); k_dflt (unfold PairIs at P9; rcases P9 with ⟨t19, c19, hf9, he9⟩ | ⟨t19, f9, t29, c19, hf9, he9⟩); all_goals ((subst he9); (try dsimp only); (try k_fold)))
  k_with "mcall" => ((with_reducible show wpAny _ _ (call (Value.ref (nat_lit 524)) [Value.int _ _, Value.int _ _]) _ _ _); k_dflt (refine' lawCode_claim ?k1 ?k2 ?k3 ?k4 ?k5 ?k6 ?k7 ?k8 ?kp ?kq ?_; (case k1 => k_asm); (case k2 => k_asm); (case k3 => k_asm); (case k4 => k_asm); (case k5 => k_asm); (case k6 => first | exact rfl | assumption); (case k7 => ktr_room); (case k8 => ktr_units); (case kp => with_reducible assumption); (case kq => with_reducible assumption)); intro c9 t9 h9 tk9 hlo9 hhi9 F9 N9; (try dsimp only); (try k_fold))
  k_with "mcall" => ((with_reducible show wpAny _ _ (call (Value.ref (nat_lit 538)) [Value.int _ _, Value.int _ _, Value.int _ _]) _ _ _); k_dflt (first | (refine' digits16_claim ?k1 ?k2 ?k3 ?k4 ?k5 ?k6 ?k7 ?k8 ?kp ?kq ?_; (case k1 => k_asm); (case k2 => k_asm); (case k3 => k_asm); (case k4 => k_asm); (case k5 => k_asm); (case k6 => first | exact rfl | assumption); (case k7 => ktr_room); (case k8 => ktr_units); (case kp => with_reducible assumption); (case kq => with_reducible assumption)) | (refine' digits10_claim ?k1 ?k2 ?k3 ?k4 ?k5 ?k6 ?k7 ?k8 ?kp ?kq ?_; (case k1 => k_asm); (case k2 => k_asm); (case k3 => k_asm); (case k4 => k_asm); (case k5 => k_asm); (case k6 => first | exact rfl | assumption); (case k7 => ktr_room); (case k8 => ktr_units); (case kp => with_reducible assumption); (case kq => with_reducible assumption))); intro d9 t9 h9 tk9 I9 E9 hl9 F9 N9; (try dsimp only); (try k_fold))
  k_with "mcall" => ((with_reducible show wpAny _ _ (call (Value.ref (nat_lit 517)) [Value.ref _, Value.int _ _]) _ _ _); k_dflt (refine' pick_claim ?k1 ?k2 ?k3 ?k4 ?k5 ?k6 ?k7 ?k8 ?kt ?ke ?kp ?kq ?_; (case k1 => k_asm); (case k2 => k_asm); (case k3 => k_asm); (case k4 => k_asm); (case k5 => k_asm); (case k6 => first | exact rfl | assumption); (case k7 => ktr_room); (case k8 => ktr_units); (case kt => repeat' (first | exact Take1.head | apply Take1.tail)); (case ke => k_all); (case kp => decide); (case kq => intro v9; exact PyProof.noPylong_of_log2 (by decide +kernel))); intro r9 v9 t9 t99 c9 h9 tk9 hlo9 hhi9 F9 N9; (try dsimp only); (try k_fold))
  k_with "mcall" => ((with_reducible show wpAny _ _ (call (Value.ref (nat_lit 327)) _) _ _ _); k_dflt (refine' next_claim ?k1 ?k2 ?k3 ?k4 ?k5 ?k6 ?k7 ?k8 ?kD ?kS ?kL ?k0 ?_; (case k1 => k_asm); (case k2 => k_asm); (case k3 => k_asm); (case k4 => k_asm); (case k5 => k_asm); (case k6 => first | exact rfl | assumption); (case k7 => ktr_room); (case k8 => ktr_units); (case kD => assumption); (case kS => assumption); (case kL => assumption); (case k0 => assumption)); intro t9 ta9 h9 tk9 F9 N9; (try rw [hc]); (try dsimp only); (try k_fold))
  k_with "mcall" => ((with_reducible show wpAny _ _ (call (Value.ref (nat_lit 341)) _) _ _ _); k_dflt (refine' again_claim ?k1 ?k2 ?k3 ?k4 ?k5 ?k6 ?k7 ?k8 ?kD ?_; (case k1 => k_asm); (case k2 => k_asm); (case k3 => k_asm); (case k4 => k_asm); (case k5 => k_asm); (case k6 => first | exact rfl | assumption); (case k7 => ktr_room); (case k8 => ktr_units); (case kD => assumption)); intro ta9 ts9 h9 tk9 F9 N9; (try dsimp only); (try k_fold))
  k_with "mcall" => ((with_reducible show wpAny _ _ (call (Value.ref (nat_lit 348)) _) _ _ _); k_dflt (refine' error2_claim ?k1 ?k2 ?k3 ?k4 ?k5 ?k6 ?k7 ?k8 ?kD ?kS ?kE ?kL ?_; (case k1 => k_asm); (case k2 => k_asm); (case k3 => k_asm); (case k4 => k_asm); (case k5 => k_asm); (case k6 => first | exact rfl | assumption); (case k7 => ktr_room); (case k8 => ktr_units); (case kD => assumption); (case kS => assumption); (case kE => assumption); (case kL => assumption)); intro ev9 rest9 all9 ne9 h9 tk9 SK9 D9 hde9 hsub9 F9 N9; (have hdd9 := D9.d); (try dsimp only); (try k_fold))
  k_with "mcall" => ((with_reducible show wpAny _ _ (call (Value.ref (nat_lit 426)) _) _ _ _); k_dflt (refine' flush_claim ?k1 ?k2 ?k3 ?k4 ?k5 ?k6 ?k7 ?k8 ?kD ?kS ?kE ?kL ?_; (case k1 => k_asm); (case k2 => k_asm); (case k3 => k_asm); (case k4 => k_asm); (case k5 => k_asm); (case k6 => first | exact rfl | assumption); (case k7 => ktr_room); (case k8 => ktr_units); (case kD => assumption); (case kS => assumption); (case kE => assumption); (case kL => assumption)); intro all8 rest8 tf8 h8 tk8 hsub8 D8 SK8 F8 N8; (have hdd8 := D8.d); (try dsimp only); (try k_fold))
  k_with "mcall" => ((with_reducible show wpAny _ _ (call (Value.ref (nat_lit 42)) _) _ _ _); k_dflt (refine' ishex_claim ?k1 ?k2 ?k3 ?k4 ?k5 ?k6 ?k7 ?k8 ?kC ?_; (case k1 => k_asm); (case k2 => k_asm); (case k3 => k_asm); (case k4 => k_asm); (case k5 => k_asm); (case k6 => first | exact rfl | assumption); (case k7 => ktr_room); (case k8 => ktr_units); (case kC => first | assumption | decide)); intro b9 h9 tk9 hb9 F9 N9; rw [hfit] at hb9; subst hb9; (try dsimp only); (try k_fold))
  k_with "mcall" => ((with_reducible show wpAny _ _ (call (Value.ref (nat_lit 35)) _) _ _ _); k_dflt (refine' isdig_claim ?k1 ?k2 ?k3 ?k4 ?k5 ?k6 ?k7 ?k8 ?kC ?_; (case k1 => k_asm); (case k2 => k_asm); (case k3 => k_asm); (case k4 => k_asm); (case k5 => k_asm); (case k6 => first | exact rfl | assumption); (case k7 => ktr_room); (case k8 => ktr_units); (case kC => first | assumption | decide)); intro b9 h9 tk9 hb9 F9 N9; rw [hfit] at hb9; subst hb9; (try dsimp only); (try k_fold))
  k_with "mcall" => ((with_reducible show wpAny _ _ (call (Value.ref (nat_lit 56)) _) _ _ _); k_dflt (refine' dval_claim ?k1 ?k2 ?k3 ?k4 ?k5 ?k6 ?k7 ?k8 ?kC ?_; (case k1 => k_asm); (case k2 => k_asm); (case k3 => k_asm); (case k4 => k_asm); (case k5 => k_asm); (case k6 => first | exact rfl | assumption); (case k7 => ktr_room); (case k8 => ktr_units); (case kC => assumption)); intro t9 h9 tk9 F9 N9; (try dsimp only); (try k_fold))
  k_with "eval Call" => (k_here; k_dflt (refine Call_ ?_))
  k_with "compareOp NotIn str ref" => (k_here; k_dflt (first | refine kdg_notin (knd := PySem.strKind _ _) (by k_asm) (by k_mem) (by k_asm) (by k_asm) (strKind_is _ _ _ _) true (by rfl) ?_ | refine kdg_notin (knd := PySem.strKind _ _) (by k_asm) (by k_mem) (by k_asm) (by k_asm) (strKind_is _ _ _ _) false (by rfl) ?_); (try dsimp only [Bool.not_true, Bool.not_false]))
  k_with "subscriptTail" => (k_here; (with_reducible show wpAny _ _ (subscriptTail _ _ (Value.ref _) (Value.str _ _)) _ _ _); k_dflt (refine kda_item (knd := PySem.strKind _ _) (by k_asm) (by k_mem) (by k_asm) (strKind_is _ _ _ _) (by rfl) ?_))
  k_with "mcall" => ((with_reducible show wpAny _ _ (call (Value.ref (nat_lit 91)) _) _ _ _); k_dflt (refine' numref2_claim ?k1 ?k2 ?k3 ?k4 ?k5 ?k6 ?k7 ?k8 ?kD ?kS ?kE ?kL ?_; (case k1 => k_asm); (case k2 => k_asm); (case k3 => k_asm); (case k4 => k_asm); (case k5 => k_asm); (case k6 => first | exact rfl | assumption); (case k7 => ktr_room); (case k8 => ktr_units); (case kD => assumption); (case kS => assumption); (case kE => assumption); (case kL => assumption)); intro Dn7 o7 all7 h7 tk7 P7 SK7 D7 hde7 F7 N7; (k_extra "mpair"); (have hm7 := Sink.sub SK7 _ List.mem_cons_self); (have hdd7 := D7.d); (try dsimp only); (try k_fold))
  k_with "mtup" => k_dflt (refine pair_item (News.isTup (by k_asm) (mem_led (by first | exact Sink.sub SK9 _ (hsub9 _ List.mem_cons_self) | assumption))) rfl ?_)
  trivial
section
theorem wdR3x2 : True := by
  k_with "kall" => assumption
  trivial
theorem wdR3x3 : True := by
  k_with "compareOp NotIn str ref" => (k_here; k_dflt (first | refine kdg_notin (knd := PySem.strKind _ _) (by k_asm) (by k_mem) (by k_asm) (by k_asm) (strKind_is _ _ _ _) true (by assumption) ?_ | refine kdg_notin (knd := PySem.strKind _ _) (by k_asm) (by k_mem) (by k_asm) (by k_asm) (strKind_is _ _ _ _) false (by assumption) ?_); (try dsimp only [Bool.not_true, Bool.not_false]))
  trivial
theorem ready_t {w : World} {mean : ExcName → Option Value} {mg mb : PySem.Str → Option Value} {dp un : Nat} {gd : Option (List Code)} {cn : PySem.Str} {cs : Scope} {a : Addr} {ccd : Value} {cl : List (PySem.Str × Addr)} {outer : List Env} {A₀ : Around} {base h₀ : Heap} {L : Addr} {m : PySem.Str → Option Value} {s : Shared} {Q E : Value → Shared → Prop} {Tk Td S SD ST G E' O SE : Addr} {gv ev : List Value} {K : KT} {KR : KR} {so : Obj} {ng ne : Nat} {ret : Bool} {at' cd : Int} {ta ts tb tf tc : Tok} {st bk bf : PySem.Str} {dv lv : Value} {all : List (Addr × Obj)} (B : Below A₀ base outer h₀) (F : Fr h₀ L s.heap m) (X : (Mine.top.heap_1 w.params).In h₀) (N : News h₀ L s.heap ((Tk, instObj 450 Td) :: (Td, tkD w K ST S O E' at' ta st ts bk tb dv bf tf cd tc lv) :: (S, instObj 287 SD) :: (SD, stD w KR G SE ret) :: (G, listOf gv.toArray ng) :: (E', listOf ev.toArray ne) :: (ST, so) :: all)) (T : Top q (looseW q []) mean mg mb h₀) (hk : cs.kind = .function) (hd : dp + 3 < recursionLimit) (hu : un + 24 < cLine) (D : Dis Tk Td S SD G E' ST all) (hso : Obj.IsDictOf (PySem.strKind rw'.row.prog w) so stK) (hlo : (ST == sysModules) = false) (hst : (valueAt stK st).isSome = true)
   (hret : ∀ (h' : Heap) (tk' : Nat), Fr h₀ L h' m → News h₀ L h' ((Tk, instObj 450 Td) :: (Td, tkD w K ST S O E' at' ta st ts bk tb dv bf tf cd tc lv) :: (S, instObj 287 SD) :: (SD, stD w KR G SE ret) :: (G, listOf gv.toArray ng) :: (E', listOf ev.toArray ne) :: (ST, so) :: all) → Q (.bool true) { s with heap := h', toks := tk' })
    : wpAny (model rw'.row.toRowW.prog w) (ktrTop dp un gd cn cs L a ccd cl outer) (call (.ref 440) [.ref Tk]) Q E s := by
  revert X
  k_fill
  intro X
  refine wpAny_call ?_
  k_dflt cell_enter
  k_steps
  all_goals (rename Fr h₀ L _ _ => kF9; rename News h₀ L _ _ => kN9; exact hret _ _ kF9 kN9)
theorem ready_f {w : World} {mean : ExcName → Option Value} {mg mb : PySem.Str → Option Value} {dp un : Nat} {gd : Option (List Code)} {cn : PySem.Str} {cs : Scope} {a : Addr} {ccd : Value} {cl : List (PySem.Str × Addr)} {outer : List Env} {A₀ : Around} {base h₀ : Heap} {L : Addr} {m : PySem.Str → Option Value} {s : Shared} {Q E : Value → Shared → Prop} {Tk Td S SD ST G E' O SE : Addr} {gv ev : List Value} {K : KT} {KR : KR} {so : Obj} {ng ne : Nat} {ret : Bool} {at' cd : Int} {ta ts tb tf tc : Tok} {st bk bf : PySem.Str} {dv lv : Value} {all : List (Addr × Obj)} (B : Below A₀ base outer h₀) (F : Fr h₀ L s.heap m) (X : (Mine.top.heap_1 w.params).In h₀) (N : News h₀ L s.heap ((Tk, instObj 450 Td) :: (Td, tkD w K ST S O E' at' ta st ts bk tb dv bf tf cd tc lv) :: (S, instObj 287 SD) :: (SD, stD w KR G SE ret) :: (G, listOf gv.toArray ng) :: (E', listOf ev.toArray ne) :: (ST, so) :: all)) (T : Top q (looseW q []) mean mg mb h₀) (hk : cs.kind = .function) (hd : dp + 3 < recursionLimit) (hu : un + 24 < cLine) (D : Dis Tk Td S SD G E' ST all) (hso : Obj.IsDictOf (PySem.strKind rw'.row.prog w) so stK) (hlo : (ST == sysModules) = false) (hst : (valueAt stK st).isSome = false)
   (hret : ∀ (h' : Heap) (tk' : Nat), Fr h₀ L h' m → News h₀ L h' ((Tk, instObj 450 Td) :: (Td, tkD w K ST S O E' at' ta st ts bk tb dv bf tf cd tc lv) :: (S, instObj 287 SD) :: (SD, stD w KR G SE ret) :: (G, listOf gv.toArray ng) :: (E', listOf ev.toArray ne) :: (ST, so) :: all) → Q (.bool false) { s with heap := h', toks := tk' })
    : wpAny (model rw'.row.toRowW.prog w) (ktrTop dp un gd cn cs L a ccd cl outer) (call (.ref 440) [.ref Tk]) Q E s := by
  revert X
  k_fill
  intro X
  refine wpAny_call ?_
  k_dflt cell_enter
  k_steps
  all_goals (rename Fr h₀ L _ _ => kF9; rename News h₀ L _ _ => kN9; exact hret _ _ kF9 kN9)
end
theorem back_out {bk : PySem.Str} (h : bk ∈ backs5) : (valueAt stK bk).isSome = false := by
  have : ∀ x ∈ backs5, (valueAt stK x).isSome = false := by decide +kernel
  exact this bk h
theorem ph_in {b : Int} {hx ds : List Nat} {code : Option Int} {head tail back st : PySem.Str} {n : Nat} {at' cd : Int} {bf txt : List Nat} {errs : List Dat} (P : Ph b hx ds code head tail back (n + 1) at' st bf cd errs txt) : (valueAt stK st).isSome = true := by
  generalize hn : n + 1 = n1 at P
  cases P with
  | start => decide +kernel
  | num => decide +kernel
  | first _ => unfold startS; split <;> decide +kernel
  | digs _ _ _ => unfold digsS; split <;> decide +kernel
  | fin _ _ => decide +kernel
  | done _ _ _ => cases hn
theorem ph_done {b : Int} {hx ds tl bh : List Nat} {code : Option Int} {head tail behind back st : PySem.Str} {at' cd : Int} {bf txt : List Nat} {errs : List Dat} (C : CaseOk b hx ds tl bh code head tail behind back) (P : Ph b hx ds code head tail back 0 at' st bf cd errs txt) :
    (valueAt stK st).isSome = false ∧ st = back ∧ bf = [] ∧ at' = atOf head tail code ∧ errs = errsOf head tail code ∧ txt = (textOf head code).cps.toList := by
  generalize hn : 0 = n1 at P
  cases P with
  | digs _ _ _ => omega
  | done h1 h2 h3 => exact ⟨back_out C.hback, rfl, rfl, h1, h2, h3⟩
  | _ => cases hn
theorem ph_cases {b : Int} {hx ds tl bh : List Nat} {code : Option Int} {head tail behind back st : PySem.Str} {n : Nat} {at' cd : Int} {bf txt : List Nat} {errs : List Dat} (C : CaseOk b hx ds tl bh code head tail behind back) (P : Ph b hx ds code head tail back n at' st bf cd errs txt) :
    (n = 0 ∧ (valueAt stK st).isSome = false ∧ st = back ∧ bf = [] ∧ at' = atOf head tail code ∧ errs = errsOf head tail code ∧ txt = (textOf head code).cps.toList) ∨ (∃ k, n = k + 1 ∧ (valueAt stK st).isSome = true) := by
  cases n with
  | zero => exact .inl ⟨rfl, ph_done C P⟩
  | succ k => exact .inr ⟨k, rfl, ph_in P⟩
noncomputable def RunJ (w : World) (Tk Td S SD G E' O ST SE : Addr) (so : Obj) (K : KT) (KR : KR) (gv : List Value) (ng : Nat) (ret : Bool) (bk : PySem.Str) (tb : Tok) (dv lv : Value) (b : Int) (hx ds : List Nat) (code : Option Int) (head tail : PySem.Str) (rest0 : List (Addr × Obj)) (n : Nat) (news : List (Addr × Obj)) : Prop :=
  ∃ (at' cd : Int) (ta ts tf tc : Tok) (st bf : PySem.Str) (ev : List Value) (ne : Nat) (all rest : List (Addr × Obj)) (errs : List Dat) (txt : List Nat),
    news = ((Tk, instObj 450 Td) :: (Td, tkD w K ST S O E' at' ta st ts bk tb dv bf tf cd tc lv) :: (S, instObj 287 SD) :: (SD, stD w KR G SE ret) :: (G, listOf gv.toArray ng) :: (E', listOf ev.toArray ne) :: (ST, so) :: all) ∧ Ph b hx ds code head tail bk n at' st bf.cps.toList cd errs txt ∧ 0 ≤ at' ∧ Sink w Tk Td S SD G E' O ST bk dv txt rest all ∧ Dis Tk Td S SD G E' ST all ∧ DatAll rest ev errs ∧ errs.length ≤ 10 ∧ (∀ p ∈ rest0, p ∈ rest)
section
variable {prog : Program} {w : World} {A : Around} {E : Value → Shared → Prop} {Q : Flow → Shared → Prop} {s : Shared} {env : Env} {h₀ : Heap} {L : Addr}
theorem while_fix {test : PySem.Expr} {body : List Stmt} {pos : Pos} {m : PySem.Str → Option Value} {news : List (Addr × Obj)} (J : Nat → List (Addr × Obj) → Prop) (n₀ : Nat)
    (F : Fr h₀ L s.heap m) (N : News h₀ L s.heap news) (hJ : J n₀ news)
    (turn : ∀ n news₁ h₁ tk₁, Fr h₀ L h₁ m → News h₀ L h₁ news₁ → J n news₁ →
      wpAny (model prog w) A (isTrue test env (eval test env)) (fun b s₂ =>
        if b = true then wpAny (model prog w) A (execs body env) (WhileStep2 h₀ L s (fun n m1 nx => m1 = m ∧ J n nx) Q n) E s₂ else Q .next s₂) E { s with heap := h₁, toks := tk₁ })
    (hE : PassesOwn (model prog w) A env E := by passes_own) :
    wpAny (model prog w) A (exec (.While test body [] pos) env) Q E s := by
  refine While_inv2 (fun n m1 nx => m1 = m ∧ J n nx) F N ⟨rfl, hJ⟩ ?_ hE
  rintro n m₁ news₁ h₁ tk₁ F₁ N₁ ⟨rfl, hj⟩
  exact turn n news₁ h₁ tk₁ F₁ N₁ hj
end
theorem wdR3x1 : True := by
  k_with "mcall" => ((with_reducible show wpAny _ _ (call (Value.ref (nat_lit 440)) _) _ _ _); k_dflt (first | (refine' ready_t ?k1 ?k2 ?k3 ?k4 ?k5 ?k6 ?k7 ?k8 ?kD ?kS ?kL ?k0 ?_; (case k1 => k_asm); (case k2 => k_asm); (case k3 => k_asm); (case k4 => k_asm); (case k5 => k_asm); (case k6 => first | exact rfl | assumption); (case k7 => ktr_room); (case k8 => ktr_units); (case kD => assumption); (case kS => assumption); (case kL => assumption); (case k0 => assumption)) | (refine' ready_f ?k1 ?k2 ?k3 ?k4 ?k5 ?k6 ?k7 ?k8 ?kD ?kS ?kL ?k0 ?_; (case k1 => k_asm); (case k2 => k_asm); (case k3 => k_asm); (case k4 => k_asm); (case k5 => k_asm); (case k6 => first | exact rfl | assumption); (case k7 => ktr_room); (case k8 => ktr_units); (case kD => assumption); (case kS => assumption); (case kL => assumption); (case k0 => assumption))); intro h9 tk9 F9 N9; (try dsimp only); (try k_fold))
  k_with "mcall" => ((with_reducible show wpAny _ _ (call (Value.ref (nat_lit 433)) _) _ _ _); k_dflt (refine' step_all ?k1 ?k2 ?k3 ?k4 ?k5 ?k6 ?k7 ?k8 ?kD ?kS ?kE ?kL ?kO ?kP ?kG ?kH ?k0 ?kC ?kI ?kJ ?_; (case k1 => k_asm); (case k2 => k_asm); (case k3 => k_asm); (case k4 => k_asm); (case k5 => k_asm); (case k6 => first | exact rfl | assumption); (case k7 => ktr_room); (case k8 => ktr_units); (case kD => assumption); (case kS => assumption); (case kE => assumption); (case kL => assumption); (case kO => assumption); (case kP => assumption); (case kG => assumption); (case kH => assumption); (case k0 => assumption); (case kC => assumption); (case kI => assumption); (case kJ => assumption)); intro n2 at2 cd2 ta2 ts2 tf2 tc2 st2 bf2 ev2 ne2 all2 rest2 errs2 txt2 h2 tk2 hlt2 P2 h02 SK2 D2 hde2 hel2 hsub2 F2 N2; (try dsimp only); (try k_fold)) 
  trivial
section
theorem wdR3x4 : True := by
  k_with "kall" => assumption
  trivial
theorem wdR3x5 : True := by
  k_with "exec While" => (k_here; k_extra "mwhile")
  trivial
theorem run_claim {w : World} {mean : ExcName → Option Value} {mg mb : PySem.Str → Option Value} {dp un : Nat} {gd : Option (List Code)} {cn : PySem.Str} {cs : Scope} {a : Addr} {ccd : Value} {cl : List (PySem.Str × Addr)} {outer : List Env} {A₀ : Around} {base h₀ : Heap} {L : Addr} {m : PySem.Str → Option Value} {s : Shared} {Q E : Value → Shared → Prop} {Tk Td S SD ST G E' O SE : Addr} {gv ev : List Value} {K : KT} {KR : KR} {so : Obj} {ng ne : Nat} {ret : Bool} {at' cd : Int} {ta ts tb tf tc : Tok} {st bk bf : PySem.Str} {dv lv : Value} {b : Int} {hx ds tl bh : List Nat} {code : Option Int} {head tail behind : PySem.Str} {rest0 : List (Addr × Obj)} {l : List Nat} {all : List (Addr × Obj)}
   (B : Below A₀ base outer h₀) (F : Fr h₀ L s.heap m) (X : (Mine.top.heap_1 w.params).In h₀) (N : News h₀ L s.heap ((Tk, instObj 450 Td) :: (Td, tkD w K ST S O E' 0 ta (PySem.Str.ofString "character reference") ts bk tb dv bf tf cd tc lv) :: (S, instObj 287 SD) :: (SD, stD w KR G SE ret) :: (G, listOf gv.toArray ng) :: (E', listOf #[] ne) :: (ST, so) :: all)) (T : Top q (looseW q []) mean mg mb h₀) (hk : cs.kind = .function) (hd : dp + 12 < recursionLimit) (hu : un + 96 < cLine)
   (D : Dis Tk Td S SD G E' ST all) (SK : Sink w Tk Td S SD G E' O ST bk dv [] rest0 all) (hso : Obj.IsDictOf (PySem.strKind rw'.row.prog w) so stK) (hlo : (ST == sysModules) = false) (hsg : SignsAre gv l) (hlen : l.length ≤ 100)
   (C : CaseOk b hx ds tl bh code head tail behind bk) (hl : l = 35 :: (hx ++ ds) ++ (tl ++ bh))
   (hret : ∀ (ta2 ts2 tf2 tc2 : Tok) (cd2 : Int) (bf2 : PySem.Str) (ev2 : List Value) (ne2 : Nat) (all2 rest2 : List (Addr × Obj)) (h' : Heap) (tk' : Nat), bf2 = PySem.Str.ofString "" → Sink w Tk Td S SD G E' O ST bk dv (textOf head code).cps.toList rest2 all2 → Dis Tk Td S SD G E' ST all2 → DatAll rest2 ev2 (errsOf head tail code) → (∀ p ∈ rest0, p ∈ rest2) → Fr h₀ L h' m → News h₀ L h' ((Tk, instObj 450 Td) :: (Td, tkD w K ST S O E' (atOf head tail code) ta2 bk ts2 bk tb dv bf2 tf2 cd2 tc2 lv) :: (S, instObj 287 SD) :: (SD, stD w KR G SE ret) :: (G, listOf gv.toArray ng) :: (E', listOf ev2.toArray ne2) :: (ST, so) :: all2) → Q (.bool false) { s with heap := h', toks := tk' })
    : wpAny (model rw'.row.toRowW.prog w) (ktrTop dp un gd cn cs L a ccd cl outer) (call (.ref 447) [.ref Tk]) Q E s := by
  revert X
  k_fill
  intro X
  refine wpAny_call ?_
  k_dflt cell_enter
  k_with "mwhile" => ((rename Fr _ _ _ _ => lF'); (rename News _ _ _ _ => lN'); (with_unfolding_all refine' while_fix (RunJ w Tk Td S SD G E' O ST SE so K KR gv ng ret bk tb dv lv b hx ds code head tail rest0) 100 lF' lN' ?kj ?kt); (case kj => k_dflt (exact ⟨0, cd, ta, ts, tf, tc, _, bf, [], ne, all, rest0, [], [], rfl, .start, Int.le_refl 0, SK, D, .nil, Nat.zero_le 10, fun _ h => h⟩)); (case' kt => (intro n news₁ h₁ tk₁ F₁ N₁ hJ1; k_dflt (obtain ⟨at1, cd1, ta1, ts1, tf1, tc1, st1, bf1, ev1, ne1, all1, rest1, errs1, txt1, e1, P1, h01, SK1, D1, hde1, hel1, hsub1⟩ := hJ1; subst e1; rcases ph_cases C P1 with ⟨e0, hst1, e2, e3, e4, e5, e6⟩ | ⟨k1, e0, hst1⟩); all_goals (first | (subst e0 e2 e4 e5 e6) | (subst e0)); all_goals (try k_fold))))
  k_steps
  all_goals first
    | (rename Fr h₀ L _ _ => kF9; rename News h₀ L _ _ => kN9; exact hret _ _ _ _ _ bf1 _ _ _ _ _ _ (str_nil e3) SK1 D1 hde1 hsub1 kF9 kN9)
    | exact ⟨_, _, _, _, n2, rfl, F2, N2, hlt2, rfl, at2, cd2, ta2, ts2, tf2, tc2, st2, bf2, ev2, ne2, all2, rest2, errs2, txt2, rfl, P2, h02, SK2, D2, hde2, hel2, fun p hp => hsub2 p (hsub1 p hp)⟩
end

theorem rsM14 : True := by
  k_with_none
  k_with "kne" => (refine neN ?_; (try dsimp only); first | with_reducible assumption | with_reducible exact Ne.symm (by with_reducible assumption) | (refine Nat.ne_of_lt ?_; (first | with_reducible assumption | with_reducible exact And.left (by with_reducible assumption) | with_reducible exact And.left (And.right (by with_reducible assumption)) | with_reducible exact And.left (And.right (And.right (by with_reducible assumption))) | with_reducible exact And.left (And.right (And.right (And.right (by with_reducible assumption)))) | with_reducible exact And.left (And.right (And.right (And.right (And.right (by with_reducible assumption))))) | with_reducible exact And.left (And.right (And.right (And.right (And.right (And.right (by with_reducible assumption)))))) | with_reducible exact And.left (And.right (And.right (And.right (And.right (And.right (And.right (by with_reducible assumption))))))) | with_reducible exact And.left (And.right (And.right (And.right (And.right (And.right (And.right (And.right (by with_reducible assumption)))))))) | with_reducible exact And.left (And.right (And.right (And.right (And.right (And.right (And.right (And.right (And.right (by with_reducible assumption))))))))) | with_reducible exact And.left (And.right (And.right (And.right (And.right (And.right (And.right (And.right (And.right (And.right (by with_reducible assumption)))))))))) | with_reducible exact And.left (And.right (And.right (And.right (And.right (And.right (And.right (And.right (And.right (And.right (And.right (by with_reducible assumption))))))))))) | with_reducible exact And.left (And.right (And.right (And.right (And.right (And.right (And.right (And.right (And.right (And.right (And.right (And.right (by with_reducible assumption)))))))))))) | with_reducible exact And.left (And.right (And.right (And.right (And.right (And.right (And.right (And.right (And.right (And.right (And.right (And.right (And.right (by with_reducible assumption))))))))))))) | with_reducible exact (And.right (by with_reducible assumption)) | with_reducible exact (And.right (And.right (by with_reducible assumption))) | with_reducible exact (And.right (And.right (And.right (by with_reducible assumption)))) | with_reducible exact (And.right (And.right (And.right (And.right (by with_reducible assumption))))) | with_reducible exact (And.right (And.right (And.right (And.right (And.right (by with_reducible assumption)))))) | with_reducible exact (And.right (And.right (And.right (And.right (And.right (And.right (by with_reducible assumption))))))))) | (refine Nat.ne_of_gt ?_; (first | with_reducible assumption | with_reducible exact And.left (by with_reducible assumption) | with_reducible exact And.left (And.right (by with_reducible assumption)) | with_reducible exact And.left (And.right (And.right (by with_reducible assumption))) | with_reducible exact And.left (And.right (And.right (And.right (by with_reducible assumption)))) | with_reducible exact And.left (And.right (And.right (And.right (And.right (by with_reducible assumption))))) | with_reducible exact And.left (And.right (And.right (And.right (And.right (And.right (by with_reducible assumption)))))) | with_reducible exact And.left (And.right (And.right (And.right (And.right (And.right (And.right (by with_reducible assumption))))))) | with_reducible exact And.left (And.right (And.right (And.right (And.right (And.right (And.right (And.right (by with_reducible assumption)))))))) | with_reducible exact And.left (And.right (And.right (And.right (And.right (And.right (And.right (And.right (And.right (by with_reducible assumption))))))))) | with_reducible exact And.left (And.right (And.right (And.right (And.right (And.right (And.right (And.right (And.right (And.right (by with_reducible assumption)))))))))) | with_reducible exact And.left (And.right (And.right (And.right (And.right (And.right (And.right (And.right (And.right (And.right (And.right (by with_reducible assumption))))))))))) | with_reducible exact And.left (And.right (And.right (And.right (And.right (And.right (And.right (And.right (And.right (And.right (And.right (And.right (by with_reducible assumption)))))))))))) | with_reducible exact And.left (And.right (And.right (And.right (And.right (And.right (And.right (And.right (And.right (And.right (And.right (And.right (And.right (by with_reducible assumption))))))))))))) | with_reducible exact (And.right (by with_reducible assumption)) | with_reducible exact (And.right (And.right (by with_reducible assumption))) | with_reducible exact (And.right (And.right (And.right (by with_reducible assumption)))) | with_reducible exact (And.right (And.right (And.right (And.right (by with_reducible assumption))))) | with_reducible exact (And.right (And.right (And.right (And.right (And.right (by with_reducible assumption)))))) | with_reducible exact (And.right (And.right (And.right (And.right (And.right (And.right (by with_reducible assumption))))))))) | omega)
  k_with "mcall" => ((with_reducible show wpAny _ _ (call (Value.ref (nat_lit 84)) [Value.int _ _]) _ _ _); k_dflt (refine' c1_claim ?k1 ?k2 ?k3 ?k4 ?k5 ?k6 ?k7 ?k8 ?kp ?_; (case k1 => k_asm); (case k2 => k_asm); (case k3 => k_asm); (case k4 => k_asm); (case k5 => k_asm); (case k6 => first | exact rfl | assumption); (case k7 => ktr_room); (case k8 => ktr_units); (case kp => omega)); intro t9 h9 tk9 F9 N9; (have hc19 := c1_room (by assumption) (by omega)); (try dsimp only); (try k_fold))
  k_with "mcall" => ((with_reducible show wpAny _ _ (call (Value.ref (nat_lit 91)) [Value.int _ _]) _ _ _); k_dflt (refine' numref_claim ?k1 ?k2 ?k3 ?k4 ?k5 ?k6 ?k7 ?k8 ?kp ?_; (case k1 => k_asm); (case k2 => k_asm); (case k3 => k_asm); (case k4 => k_asm); (case k5 => k_asm); (case k6 => first | exact rfl | assumption); (case k7 => ktr_room); (case k8 => ktr_units); (case kp => omega)); intro D9 o9 h9 tk9 P9 F9 N9 l9; (try k_lt l9); k_dflt (unfold PairIs at P9; rcases P9 with ⟨t19, c19, hf9, he9⟩ | ⟨t19, f9, t29, c19, hf9, he9⟩); all_goals ((subst he9); (try dsimp only); (try k_fold)))
  k_with "mcall" => ((with_reducible show wpAny _ _ (call (Value.ref (nat_lit 531)) [Value.int _ _]) _ _ _); k_dflt (refine' meant_claim ?k1 ?k2 ?k3 ?k4 ?k5 ?k6 ?k7 ?k8 ?kp ?_; (case k1 => k_asm); (case k2 => k_asm); (case k3 => k_asm); (case k4 => k_asm); (case k5 => k_asm); (case k6 => first | exact rfl | assumption); (case k7 => ktr_room); (case k8 => ktr_units); (case kp => omega)); intro D9 o9 h9 tk9 P9 F9 N9 l9; (try k_lt l9); k_dflt (unfold PairIs at P9; rcases P9 with ⟨t19, c19, hf9, he9⟩ | ⟨t19, f9, t29, c19, hf9, he9⟩); all_goals ((subst he9); (try dsimp only); (try k_fold)))
  trivial
theorem inputerr_claim {w : World} {mean : ExcName → Option Value} {mg mb : PySem.Str → Option Value} {dp un : Nat} {gd : Option (List Code)} {cn : PySem.Str} {cs : Scope} {a : Addr} {ccd : Value} {cl : List (PySem.Str × Addr)} {outer : List Env} {A₀ : Around} {base h₀ : Heap} {L : Addr} {m : PySem.Str → Option Value} {s : Shared} {Q E : Value → Shared → Prop} {news : List (Addr × Obj)} {n : Int} {t1 : Tok} (B : Below A₀ base outer h₀) (F : Fr h₀ L s.heap m) (X : (Mine.top.heap_1 w.params).In h₀) (N : News h₀ L s.heap news) (T : Top q (looseW q []) mean mg mb h₀) (hk : cs.kind = .function) (hd : dp + 4 < recursionLimit) (hu : un + 32 < cLine) (h0 : 32 ≤ n) (h1 : n ≤ 126)
    (hret : ∀ (t : Tok) (h' : Heap) (tk' : Nat), Fr h₀ L h' m → News h₀ L h' news → Q (.str (PySem.Str.ofString "") t) { s with heap := h', toks := tk' }) :
    wpAny (model rw'.row.toRowW.prog w) (ktrTop dp un gd cn cs L a ccd cl outer) (call (.ref 249) [.int n t1]) Q E s := by
  revert X
  k_fill
  intro X
  refine wpAny_call ?_
  k_dflt cell_enter
  k_steps
  all_goals (rename Fr h₀ L _ _ => kF9; rename News h₀ L _ _ => kN9; exact hret _ _ _ kF9 kN9)
noncomputable def FeedJ (w : World) (S SD G SE : Addr) (KR : KR) (rest : List (Addr × Obj)) (pre : List Nat) (nx : List (Addr × Obj)) : Prop :=
  ∃ (gv : List Value) (ng : Nat), nx = (G, listOf gv.toArray ng) :: (S, instObj 287 SD) :: (SD, stD0 w KR G SE false false) :: rest ∧ SignsAre gv pre
theorem sign_size {gv : List Value} {pre post : List Nat} {c : Nat} {xt : PySem.Str} (h : SignsAre gv pre) (hl : xt.length ≤ 50) (he : xt.cps.toList = pre ++ c :: post) : gv.toArray.size ≤ sizeLine := by
  have a := h.len
  have b : xt.length = xt.cps.toList.length := by simp [PySem.Str.length]
  rw [he, List.length_append, List.length_cons] at b
  rw [List.size_toArray, sizeLine_eq]; omega
section
variable {pre post : List Nat} {c : Nat} {xt : PySem.Str} (hpl : ∀ c ∈ xt.cps.toList, 32 ≤ c ∧ c ≤ 126) (he : xt.cps.toList = pre ++ c :: post)
include hpl he
theorem plain_lo : (32 : Int) ≤ (c : Int) := by have := (hpl c (by rw [he]; simp)).1; omega
theorem plain_hi : (c : Int) ≤ 126 := by have := (hpl c (by rw [he]; simp)).2; omega
theorem plain_ne13 : ((⟨#[c]⟩ : PySem.Str) == PySem.Str.ofString "\r") = false := by
  have e : PySem.Str.ofString "\r" = ⟨#[13]⟩ := by decide +kernel
  have := (hpl c (by rw [he]; simp)).1
  rw [e]; simp; omega
theorem plain_ne10 : ((⟨#[c]⟩ : PySem.Str) == PySem.Str.ofString "\n") = false := by
  have e : PySem.Str.ofString "\n" = ⟨#[10]⟩ := by decide +kernel
  have := (hpl c (by rw [he]; simp)).1
  rw [e]; simp; omega
end
theorem feed_end {w : World} {h₀ h : Heap} {L : Addr} {mm m₀ : PySem.Str → Option Value} {x : PySem.Str} {stored : List PySem.Str} {S SD G SE : Addr} {KR : KR} {rest own : List (Addr × Obj)} {pre : List Nat} {c ng tk : Nat} {gv : List Value} {t : Tok} {s₁ : Shared} {o : Obj}
    (F : Fr h₀ L h mm) (N : News h₀ L h ((G, listOf (gv.toArray.push (.str ⟨#[c]⟩ t)) (ng + 1)) :: (S, instObj 287 SD) :: (SD, stD0 w KR G SE false false) :: (rest ++ own))) (hs : SignsAre gv pre)
    (hm : ∀ z, z ≠ x → stored.contains z = false → mm z = m₀ z)
    (hoff : OwnOff own (((G, o) :: (S, instObj 287 SD) :: (SD, stD0 w KR G SE false false) :: rest).map (·.1))) :
    InvEndG h₀ L (fun m nx => (∀ z, z ≠ x → stored.contains z = false → m z = m₀ z) ∧ FeedJ w S SD G SE KR rest (pre ++ [c]) nx) own s₁ { s₁ with heap := h, toks := tk } := by
  refine InvEndG.intro (nx := (G, listOf (gv ++ [Value.str ⟨#[c]⟩ t]).toArray (ng + 1)) :: (S, instObj 287 SD) :: (SD, stD0 w KR G SE false false) :: rest) F N ⟨hm, gv ++ [.str ⟨#[c]⟩ t], ng + 1, rfl, hs.snoc⟩ ?_ ?_ ?_
  · intro p hp b hb
    exact hoff p hp b hb
  · intro p hp
    rw [List.push_toArray]
    simp only [List.mem_cons, List.mem_append] at hp ⊢
    rcases hp with h | h | h | h <;> simp [h]
  · intro p hp
    simp only [List.mem_cons, List.mem_append]
    simp [hp]
section
theorem wdM14x1 : True := by
  k_with "kall" => assumption
  trivial
theorem sfeed_claim {w : World} {mean : ExcName → Option Value} {mg mb : PySem.Str → Option Value} {dp un : Nat} {gd : Option (List Code)} {cn : PySem.Str} {cs : Scope} {a : Addr} {ccd : Value} {cl : List (PySem.Str × Addr)} {outer : List Env} {A₀ : Around} {base h₀ : Heap} {L : Addr} {m : PySem.Str → Option Value} {s : Shared} {Q E : Value → Shared → Prop} {rest : List (Addr × Obj)} {S SD G SE : Addr} {KR : KR} {ng : Nat} {xt : PySem.Str} {tx : Tok}
   (B : Below A₀ base outer h₀) (F : Fr h₀ L s.heap m) (X : (Mine.top.heap_1 w.params).In h₀) (N : News h₀ L s.heap ((G, listOf #[] ng) :: (S, instObj 287 SD) :: (SD, stD0 w KR G SE false false) :: rest))
   (T : Top q (looseW q []) mean mg mb h₀) (hk : cs.kind = .function) (hd : dp + 6 < recursionLimit) (hu : un + 48 < cLine)
   (d1 : @Ne Nat S SD) (d2 : @Ne Nat G SD) (d3 : @Ne Nat S G) (d4 : ∀ p ∈ rest, p.1 ≠ SD) (d5 : ∀ p ∈ rest, p.1 ≠ G)
   (hpl : ∀ c ∈ xt.cps.toList, 32 ≤ c ∧ c ≤ 126) (hxl : xt.length ≤ 50)
   (hret : ∀ (gv : List Value) (ng' : Nat) (h' : Heap) (tk' : Nat), SignsAre gv xt.cps.toList → Fr h₀ L h' m → News h₀ L h' ((G, listOf gv.toArray ng') :: (S, instObj 287 SD) :: (SD, stD0 w KR G SE false false) :: rest) → Q .none { s with heap := h', toks := tk' })
    : wpAny (model rw'.row.toRowW.prog w) (ktrTop dp un gd cn cs L a ccd cl outer) (call (.ref 270) [.ref S, .str xt tx]) Q E s := by
  revert X
  k_fill
  intro X
  refine wpAny_call ?_
  k_dflt cell_enter
  k_with "mcall" => ((with_reducible show wpAny _ _ (call (Value.ref (nat_lit 249)) _) _ _ _); k_dflt (refine' inputerr_claim ?k1 ?k2 ?k3 ?k4 ?k5 ?k6 ?k7 ?k8 ?kC ?kD ?_; (case k1 => k_asm); (case k2 => k_asm); (case k3 => k_asm); (case k4 => k_asm); (case k5 => k_asm); (case k6 => first | exact rfl | assumption); (case k7 => ktr_room); (case k8 => ktr_units); (case kC => omega); (case kD => omega)); intro t9 h9 tk9 F9 N9; (try dsimp only); (try k_fold))
  k_with "pyIter str" => ((rename Fr _ _ _ _ => lF'); (rename News _ _ _ _ => lN'); (with_unfolding_all refine' text_loop2 [PySem.Str.ofString "code"] (FeedJ w S SD G SE KR rest) (by rfl) lF' lN' ?kj ?kt ?kd); (case kj => exact ⟨[], ng, rfl, .nil⟩); (case' kt => (intro pre c post t u nx h tk own he hoff hJ F₁ N₁; obtain ⟨gv, ng', rfl, hsv⟩ := hJ; (simp only [List.cons_append, List.nil_append] at N₁); (have q1 := off_tail hoff (b := SD) (by simp) d4); (have q2 := off_tail hoff (b := G) (by simp) d5); (have hz := sign_size hsv hxl he); (have hcr := plain_ne13 hpl he); (have hnl := plain_ne10 hpl he); (have hc1 := plain_lo hpl he); (have hc2 := plain_hi hpl he); (try k_fold))); (case' kd => (intro u nx h tk hJ F₁ N₁; obtain ⟨gv, ng', rfl, hsv⟩ := hJ; (try k_fold))))
  k_steps
  all_goals first
    | (rename Fr h₀ L _ _ => kF9; rename News h₀ L _ _ => kN9; exact hret _ _ _ _ hsv kF9 kN9)
    | (rename Fr _ _ _ _ => kF9; rename News _ _ _ _ => kN9; rw [hcr] at kN9; exact feed_end (x := PySem.Str.ofString "c") kF9 kN9 hsv (by intro z h1 h2; (have h3 : z ≠ PySem.Str.ofString "code" := by intro e; subst e; simp at h2); simp [h1, h3]) hoff)
end

theorem rsM15 : True := by
  k_with_none
  k_with "kne" => (refine neN ?_; (try dsimp only); first | with_reducible assumption | with_reducible exact Ne.symm (by with_reducible assumption) | (refine Nat.ne_of_lt ?_; (first | with_reducible assumption | with_reducible exact And.left (by with_reducible assumption) | with_reducible exact And.left (And.right (by with_reducible assumption)) | with_reducible exact And.left (And.right (And.right (by with_reducible assumption))) | with_reducible exact And.left (And.right (And.right (And.right (by with_reducible assumption)))) | with_reducible exact And.left (And.right (And.right (And.right (And.right (by with_reducible assumption))))) | with_reducible exact And.left (And.right (And.right (And.right (And.right (And.right (by with_reducible assumption)))))) | with_reducible exact And.left (And.right (And.right (And.right (And.right (And.right (And.right (by with_reducible assumption))))))) | with_reducible exact And.left (And.right (And.right (And.right (And.right (And.right (And.right (And.right (by with_reducible assumption)))))))) | with_reducible exact And.left (And.right (And.right (And.right (And.right (And.right (And.right (And.right (And.right (by with_reducible assumption))))))))) | with_reducible exact And.left (And.right (And.right (And.right (And.right (And.right (And.right (And.right (And.right (And.right (by with_reducible assumption)))))))))) | with_reducible exact And.left (And.right (And.right (And.right (And.right (And.right (And.right (And.right (And.right (And.right (And.right (by with_reducible assumption))))))))))) | with_reducible exact And.left (And.right (And.right (And.right (And.right (And.right (And.right (And.right (And.right (And.right (And.right (And.right (by with_reducible assumption)))))))))))) | with_reducible exact And.left (And.right (And.right (And.right (And.right (And.right (And.right (And.right (And.right (And.right (And.right (And.right (And.right (by with_reducible assumption))))))))))))) | with_reducible exact (And.right (by with_reducible assumption)) | with_reducible exact (And.right (And.right (by with_reducible assumption))) | with_reducible exact (And.right (And.right (And.right (by with_reducible assumption)))) | with_reducible exact (And.right (And.right (And.right (And.right (by with_reducible assumption))))) | with_reducible exact (And.right (And.right (And.right (And.right (And.right (by with_reducible assumption)))))) | with_reducible exact (And.right (And.right (And.right (And.right (And.right (And.right (by with_reducible assumption))))))))) | (refine Nat.ne_of_gt ?_; (first | with_reducible assumption | with_reducible exact And.left (by with_reducible assumption) | with_reducible exact And.left (And.right (by with_reducible assumption)) | with_reducible exact And.left (And.right (And.right (by with_reducible assumption))) | with_reducible exact And.left (And.right (And.right (And.right (by with_reducible assumption)))) | with_reducible exact And.left (And.right (And.right (And.right (And.right (by with_reducible assumption))))) | with_reducible exact And.left (And.right (And.right (And.right (And.right (And.right (by with_reducible assumption)))))) | with_reducible exact And.left (And.right (And.right (And.right (And.right (And.right (And.right (by with_reducible assumption))))))) | with_reducible exact And.left (And.right (And.right (And.right (And.right (And.right (And.right (And.right (by with_reducible assumption)))))))) | with_reducible exact And.left (And.right (And.right (And.right (And.right (And.right (And.right (And.right (And.right (by with_reducible assumption))))))))) | with_reducible exact And.left (And.right (And.right (And.right (And.right (And.right (And.right (And.right (And.right (And.right (by with_reducible assumption)))))))))) | with_reducible exact And.left (And.right (And.right (And.right (And.right (And.right (And.right (And.right (And.right (And.right (And.right (by with_reducible assumption))))))))))) | with_reducible exact And.left (And.right (And.right (And.right (And.right (And.right (And.right (And.right (And.right (And.right (And.right (And.right (by with_reducible assumption)))))))))))) | with_reducible exact And.left (And.right (And.right (And.right (And.right (And.right (And.right (And.right (And.right (And.right (And.right (And.right (And.right (by with_reducible assumption))))))))))))) | with_reducible exact (And.right (by with_reducible assumption)) | with_reducible exact (And.right (And.right (by with_reducible assumption))) | with_reducible exact (And.right (And.right (And.right (by with_reducible assumption)))) | with_reducible exact (And.right (And.right (And.right (And.right (by with_reducible assumption))))) | with_reducible exact (And.right (And.right (And.right (And.right (And.right (by with_reducible assumption)))))) | with_reducible exact (And.right (And.right (And.right (And.right (And.right (And.right (by with_reducible assumption))))))))) | omega)
  k_with "mcall" => ((with_reducible show wpAny _ _ (call (Value.ref (nat_lit 84)) [Value.int _ _]) _ _ _); k_dflt (refine' c1_claim ?k1 ?k2 ?k3 ?k4 ?k5 ?k6 ?k7 ?k8 ?kp ?_; (case k1 => k_asm); (case k2 => k_asm); (case k3 => k_asm); (case k4 => k_asm); (case k5 => k_asm); (case k6 => first | exact rfl | assumption); (case k7 => ktr_room); (case k8 => ktr_units); (case kp => omega)); intro t9 h9 tk9 F9 N9; (have hc19 := c1_room (by assumption) (by omega)); (try dsimp only); (try k_fold))
  k_with "mcall" => ((with_reducible show wpAny _ _ (call (Value.ref (nat_lit 91)) [Value.int _ _]) _ _ _); k_dflt (refine' numref_claim ?k1 ?k2 ?k3 ?k4 ?k5 ?k6 ?k7 ?k8 ?kp ?_; (case k1 => k_asm); (case k2 => k_asm); (case k3 => k_asm); (case k4 => k_asm); (case k5 => k_asm); (case k6 => first | exact rfl | assumption); (case k7 => ktr_room); (case k8 => ktr_units); (case kp => omega)); intro D9 o9 h9 tk9 P9 F9 N9 l9; (try k_lt l9); k_dflt (unfold PairIs at P9; rcases P9 with ⟨t19, c19, hf9, he9⟩ | ⟨t19, f9, t29, c19, hf9, he9⟩); all_goals ((subst he9); (try dsimp only); (try k_fold)))
  k_with "mcall" => ((with_reducible show wpAny _ _ (call (Value.ref (nat_lit 531)) [Value.int _ _]) _ _ _); k_dflt (refine' meant_claim ?k1 ?k2 ?k3 ?k4 ?k5 ?k6 ?k7 ?k8 ?kp ?_; (case k1 => k_asm); (case k2 => k_asm); (case k3 => k_asm); (case k4 => k_asm); (case k5 => k_asm); (case k6 => first | exact rfl | assumption); (case k7 => ktr_room); (case k8 => ktr_units); (case kp => omega)); intro D9 o9 h9 tk9 P9 F9 N9 l9; (try k_lt l9); k_dflt (unfold PairIs at P9; rcases P9 with ⟨t19, c19, hf9, he9⟩ | ⟨t19, f9, t29, c19, hf9, he9⟩); all_goals ((subst he9); (try dsimp only); (try k_fold)))
  trivial
theorem news_sub {h₀ h : Heap} {L : Addr} {l l' : List (Addr × Obj)} (N : News h₀ L h l) (hs : ∀ p ∈ l', p ∈ l) : News h₀ L h l' := fun p hp => N p (hs p hp)
/-- the stream's own addresses differ from the rest -/
structure DisF (Tk Td S SD G E ST : Addr) (all : List (Addr × Obj)) : Prop where
  a1 : @Ne Nat Tk SD
  a2 : @Ne Nat Td SD
  a3 : @Ne Nat S SD
  a4 : @Ne Nat G SD
  a5 : @Ne Nat E SD
  a6 : @Ne Nat ST SD
  b1 : @Ne Nat Tk G
  b2 : @Ne Nat Td G
  b3 : @Ne Nat S G
  b5 : @Ne Nat E G
  b6 : @Ne Nat ST G
  d : ∀ p ∈ all, p.1 ≠ SD
  g : ∀ p ∈ all, p.1 ≠ G
section
theorem wdM15x1 : True := by
  k_with "kall" => assumption
  trivial
theorem feed_claim {w : World} {mean : ExcName → Option Value} {mg mb : PySem.Str → Option Value} {dp un : Nat} {gd : Option (List Code)} {cn : PySem.Str} {cs : Scope} {a : Addr} {ccd : Value} {cl : List (PySem.Str × Addr)} {outer : List Env} {A₀ : Around} {base h₀ : Heap} {L : Addr} {m : PySem.Str → Option Value} {s : Shared} {Q E : Value → Shared → Prop} {Tk Td S SD ST G E' O SE : Addr} {gv ev : List Value} {K : KT} {KR : KR} {so : Obj} {ng ne : Nat} {ret : Bool} {at' cd : Int} {ta ts tb tf tc : Tok} {st bk bf : PySem.Str} {dv lv : Value} {all : List (Addr × Obj)} {xt : PySem.Str} {tx : Tok}
   (B : Below A₀ base outer h₀) (F : Fr h₀ L s.heap m) (X : (Mine.top.heap_1 w.params).In h₀) (N : News h₀ L s.heap ((Tk, instObj 450 Td) :: (Td, tkD w K ST S O E' at' ta st ts bk tb dv bf tf cd tc lv) :: (S, instObj 287 SD) :: (SD, stD0 w KR G SE false false) :: (G, listOf #[] ng) :: (E', listOf #[] ne) :: (ST, so) :: all))
   (T : Top q (looseW q []) mean mg mb h₀) (hk : cs.kind = .function) (hd : dp + 9 < recursionLimit) (hu : un + 72 < cLine) (D : Dis Tk Td S SD G E' ST all) (DF : DisF Tk Td S SD G E' ST all)
   (hpl : ∀ c ∈ xt.cps.toList, 32 ≤ c ∧ c ≤ 126) (hxl : xt.length ≤ 50)
   (hret : ∀ (gv : List Value) (ng' : Nat) (h' : Heap) (tk' : Nat), SignsAre gv xt.cps.toList → Fr h₀ L h' m → News h₀ L h' ((Tk, instObj 450 Td) :: (Td, tkD w K ST S O E' at' ta st ts bk tb dv bf tf cd tc lv) :: (S, instObj 287 SD) :: (SD, stD0 w KR G SE false false) :: (G, listOf gv.toArray ng') :: (E', listOf #[] ne) :: (ST, so) :: all) → Q .none { s with heap := h', toks := tk' })
    : wpAny (model rw'.row.toRowW.prog w) (ktrTop dp un gd cn cs L a ccd cl outer) (call (.ref 313) [.ref Tk, .str xt tx]) Q E s := by
  obtain ⟨a1, a2, a3, a4, a5, a6, b1, b2, b3, b4, b6, hdd, hdE⟩ := id D
  revert X
  k_fill
  intro X
  refine wpAny_call ?_
  k_dflt cell_enter
  k_with "mcall" => ((with_reducible show wpAny _ _ (call (Value.ref (nat_lit 270)) _) _ _ _); k_dflt (refine' sfeed_claim (rest := (Tk, instObj 450 Td) :: (Td, tkD w K ST S O E' at' ta st ts bk tb dv bf tf cd tc lv) :: (E', listOf #[] ne) :: (ST, so) :: all) (KR := KR) (SE := SE) (ng := ng) ?k1 ?k2 ?k3 (news_sub ?k4 ?k44) ?k5 ?k6 ?k7 ?k8 DF.a3 DF.a4 DF.b3 ?k9 ?k10 hpl hxl ?_; (case k1 => k_asm); (case k2 => k_asm); (case k3 => k_asm); (case k4 => k_asm); (case k5 => k_asm); (case k6 => first | exact rfl | assumption); (case k7 => ktr_room); (case k8 => ktr_units); (case k44 => (intro p hp; simp only [List.mem_cons] at hp ⊢; (rcases hp with h | h | h | h | h | h | h | h <;> simp [h]))); (case k9 => exact List.forall_mem_cons.mpr ⟨DF.a1, List.forall_mem_cons.mpr ⟨DF.a2, List.forall_mem_cons.mpr ⟨DF.a5, List.forall_mem_cons.mpr ⟨DF.a6, DF.d⟩⟩⟩⟩); (case k10 => exact List.forall_mem_cons.mpr ⟨DF.b1, List.forall_mem_cons.mpr ⟨DF.b2, List.forall_mem_cons.mpr ⟨DF.b5, List.forall_mem_cons.mpr ⟨DF.b6, DF.g⟩⟩⟩⟩)); intro gv9 ng9 h9 tk9 hsv9 F9 N0; (have N9 := news_sub (l' := (Tk, instObj 450 Td) :: (Td, tkD w K ST S O E' at' ta st ts bk tb dv bf tf cd tc lv) :: (S, instObj 287 SD) :: (SD, stD0 w KR G SE false false) :: (G, listOf gv9.toArray ng9) :: (E', listOf #[] ne) :: (ST, so) :: all) N0 (by intro p hp; simp only [List.mem_cons] at hp ⊢; (rcases hp with h | h | h | h | h | h | h | h <;> simp [h]))); (clear N0); (try dsimp only); (try k_fold))
  k_steps
  all_goals (rename Fr h₀ L _ _ => kF9; rename News h₀ L _ _ => kN9; exact hret _ _ _ _ hsv9 kF9 kN9)
theorem end_claim {w : World} {mean : ExcName → Option Value} {mg mb : PySem.Str → Option Value} {dp un : Nat} {gd : Option (List Code)} {cn : PySem.Str} {cs : Scope} {a : Addr} {ccd : Value} {cl : List (PySem.Str × Addr)} {outer : List Env} {A₀ : Around} {base h₀ : Heap} {L : Addr} {m : PySem.Str → Option Value} {s : Shared} {Q E : Value → Shared → Prop} {Tk Td S SD ST G E' O SE : Addr} {gv ev : List Value} {K : KT} {KR : KR} {so : Obj} {ng ne : Nat} {ret : Bool} {at' cd : Int} {ta ts tb tf tc : Tok} {st bk bf : PySem.Str} {dv lv : Value} {all : List (Addr × Obj)}
   (B : Below A₀ base outer h₀) (F : Fr h₀ L s.heap m) (X : (Mine.top.heap_1 w.params).In h₀) (N : News h₀ L s.heap ((Tk, instObj 450 Td) :: (Td, tkD w K ST S O E' at' ta st ts bk tb dv bf tf cd tc lv) :: (S, instObj 287 SD) :: (SD, stD0 w KR G SE false false) :: (G, listOf gv.toArray ng) :: (E', listOf #[] ne) :: (ST, so) :: all))
   (T : Top q (looseW q []) mean mg mb h₀) (hk : cs.kind = .function) (hd : dp + 4 < recursionLimit) (hu : un + 32 < cLine) (D : Dis Tk Td S SD G E' ST all) (DF : DisF Tk Td S SD G E' ST all)
   (hret : ∀ (h' : Heap) (tk' : Nat), Fr h₀ L h' m → News h₀ L h' ((Tk, instObj 450 Td) :: (Td, tkD w K ST S O E' at' ta st ts bk tb dv bf tf cd tc lv) :: (S, instObj 287 SD) :: (SD, stD w KR G SE false) :: (G, listOf gv.toArray ng) :: (E', listOf #[] ne) :: (ST, so) :: all) → Q .none { s with heap := h', toks := tk' })
    : wpAny (model rw'.row.toRowW.prog w) (ktrTop dp un gd cn cs L a ccd cl outer) (call (.ref 320) [.ref Tk]) Q E s := by
  obtain ⟨a1, a2, a3, a4, a5, a6, b1, b2, b3, b4, b6, hdd, hdE⟩ := id D
  obtain ⟨x1, x2, x3, x4, x5, x6, x7, x8, x9, x10, x11, x12, x13⟩ := id DF
  revert X
  k_fill
  intro X
  refine wpAny_call ?_
  k_dflt cell_enter
  k_steps
  all_goals (rename Fr h₀ L _ _ => kF9; rename News h₀ L _ _ => kN9; exact hret _ _ kF9 kN9)
end

theorem rsM16 : True := by
  k_with_none
  k_with "kne" => (refine neN ?_; (try dsimp only); first | with_reducible assumption | with_reducible exact Ne.symm (by with_reducible assumption) | (refine Nat.ne_of_lt ?_; (first | with_reducible assumption | with_reducible exact And.left (by with_reducible assumption) | with_reducible exact And.left (And.right (by with_reducible assumption)) | with_reducible exact And.left (And.right (And.right (by with_reducible assumption))) | with_reducible exact And.left (And.right (And.right (And.right (by with_reducible assumption)))) | with_reducible exact And.left (And.right (And.right (And.right (And.right (by with_reducible assumption))))) | with_reducible exact And.left (And.right (And.right (And.right (And.right (And.right (by with_reducible assumption)))))) | with_reducible exact And.left (And.right (And.right (And.right (And.right (And.right (And.right (by with_reducible assumption))))))) | with_reducible exact And.left (And.right (And.right (And.right (And.right (And.right (And.right (And.right (by with_reducible assumption)))))))) | with_reducible exact And.left (And.right (And.right (And.right (And.right (And.right (And.right (And.right (And.right (by with_reducible assumption))))))))) | with_reducible exact And.left (And.right (And.right (And.right (And.right (And.right (And.right (And.right (And.right (And.right (by with_reducible assumption)))))))))) | with_reducible exact And.left (And.right (And.right (And.right (And.right (And.right (And.right (And.right (And.right (And.right (And.right (by with_reducible assumption))))))))))) | with_reducible exact And.left (And.right (And.right (And.right (And.right (And.right (And.right (And.right (And.right (And.right (And.right (And.right (by with_reducible assumption)))))))))))) | with_reducible exact And.left (And.right (And.right (And.right (And.right (And.right (And.right (And.right (And.right (And.right (And.right (And.right (And.right (by with_reducible assumption))))))))))))) | with_reducible exact (And.right (by with_reducible assumption)) | with_reducible exact (And.right (And.right (by with_reducible assumption))) | with_reducible exact (And.right (And.right (And.right (by with_reducible assumption)))) | with_reducible exact (And.right (And.right (And.right (And.right (by with_reducible assumption))))) | with_reducible exact (And.right (And.right (And.right (And.right (And.right (by with_reducible assumption)))))) | with_reducible exact (And.right (And.right (And.right (And.right (And.right (And.right (by with_reducible assumption))))))))) | (refine Nat.ne_of_gt ?_; (first | with_reducible assumption | with_reducible exact And.left (by with_reducible assumption) | with_reducible exact And.left (And.right (by with_reducible assumption)) | with_reducible exact And.left (And.right (And.right (by with_reducible assumption))) | with_reducible exact And.left (And.right (And.right (And.right (by with_reducible assumption)))) | with_reducible exact And.left (And.right (And.right (And.right (And.right (by with_reducible assumption))))) | with_reducible exact And.left (And.right (And.right (And.right (And.right (And.right (by with_reducible assumption)))))) | with_reducible exact And.left (And.right (And.right (And.right (And.right (And.right (And.right (by with_reducible assumption))))))) | with_reducible exact And.left (And.right (And.right (And.right (And.right (And.right (And.right (And.right (by with_reducible assumption)))))))) | with_reducible exact And.left (And.right (And.right (And.right (And.right (And.right (And.right (And.right (And.right (by with_reducible assumption))))))))) | with_reducible exact And.left (And.right (And.right (And.right (And.right (And.right (And.right (And.right (And.right (And.right (by with_reducible assumption)))))))))) | with_reducible exact And.left (And.right (And.right (And.right (And.right (And.right (And.right (And.right (And.right (And.right (And.right (by with_reducible assumption))))))))))) | with_reducible exact And.left (And.right (And.right (And.right (And.right (And.right (And.right (And.right (And.right (And.right (And.right (And.right (by with_reducible assumption)))))))))))) | with_reducible exact And.left (And.right (And.right (And.right (And.right (And.right (And.right (And.right (And.right (And.right (And.right (And.right (And.right (by with_reducible assumption))))))))))))) | with_reducible exact (And.right (by with_reducible assumption)) | with_reducible exact (And.right (And.right (by with_reducible assumption))) | with_reducible exact (And.right (And.right (And.right (by with_reducible assumption)))) | with_reducible exact (And.right (And.right (And.right (And.right (by with_reducible assumption))))) | with_reducible exact (And.right (And.right (And.right (And.right (And.right (by with_reducible assumption)))))) | with_reducible exact (And.right (And.right (And.right (And.right (And.right (And.right (by with_reducible assumption))))))))) | omega)
  k_with "mcall" => ((with_reducible show wpAny _ _ (call (Value.ref (nat_lit 84)) [Value.int _ _]) _ _ _); k_dflt (refine' c1_claim ?k1 ?k2 ?k3 ?k4 ?k5 ?k6 ?k7 ?k8 ?kp ?_; (case k1 => k_asm); (case k2 => k_asm); (case k3 => k_asm); (case k4 => k_asm); (case k5 => k_asm); (case k6 => first | exact rfl | assumption); (case k7 => ktr_room); (case k8 => ktr_units); (case kp => omega)); intro t9 h9 tk9 F9 N9; (have hc19 := c1_room (by assumption) (by omega)); (try dsimp only); (try k_fold))
  k_with "mcall" => ((with_reducible show wpAny _ _ (call (Value.ref (nat_lit 91)) [Value.int _ _]) _ _ _); k_dflt (refine' numref_claim ?k1 ?k2 ?k3 ?k4 ?k5 ?k6 ?k7 ?k8 ?kp ?_; (case k1 => k_asm); (case k2 => k_asm); (case k3 => k_asm); (case k4 => k_asm); (case k5 => k_asm); (case k6 => first | exact rfl | assumption); (case k7 => ktr_room); (case k8 => ktr_units); (case kp => omega)); intro D9 o9 h9 tk9 P9 F9 N9 l9; (try k_lt l9); k_dflt (unfold PairIs at P9; rcases P9 with ⟨t19, c19, hf9, he9⟩ | ⟨t19, f9, t29, c19, hf9, he9⟩); all_goals ((subst he9); (try dsimp only); (try k_fold)))
  k_with "mcall" => ((with_reducible show wpAny _ _ (call (Value.ref (nat_lit 531)) [Value.int _ _]) _ _ _); k_dflt (refine' meant_claim ?k1 ?k2 ?k3 ?k4 ?k5 ?k6 ?k7 ?k8 ?kp ?_; (case k1 => k_asm); (case k2 => k_asm); (case k3 => k_asm); (case k4 => k_asm); (case k5 => k_asm); (case k6 => first | exact rfl | assumption); (case k7 => ktr_room); (case k8 => ktr_units); (case kp => omega)); intro D9 o9 h9 tk9 P9 F9 N9 l9; (try k_lt l9); k_dflt (unfold PairIs at P9; rcases P9 with ⟨t19, c19, hf9, he9⟩ | ⟨t19, f9, t29, c19, hf9, he9⟩); all_goals ((subst he9); (try dsimp only); (try k_fold)))
  trivial
theorem newdraft_claim {w : World} {mean : ExcName → Option Value} {mg mb : PySem.Str → Option Value} {dp un : Nat} {gd : Option (List Code)} {cn : PySem.Str} {cs : Scope} {a : Addr} {ccd : Value} {cl : List (PySem.Str × Addr)} {outer : List Env} {A₀ : Around} {base h₀ : Heap} {L : Addr} {m : PySem.Str → Option Value} {s : Shared} {Q E : Value → Shared → Prop} {news : List (Addr × Obj)} {x y : PySem.Str} {t1 t2 : Tok} (B : Below A₀ base outer h₀) (F : Fr h₀ L s.heap m) (X : (Mine.top.heap_1 w.params).In h₀) (N : News h₀ L s.heap news) (T : Top q (looseW q []) mean mg mb h₀) (hk : cs.kind = .function) (hd : dp + 9 < recursionLimit) (hu : un + 72 < cLine)
    (hret : ∀ (D DD AT : Addr) (K : KD) (tt : Tok) (h' : Heap) (tk' : Nat), (@LT.lt Nat _ DD D ∧ @LT.lt Nat _ D AT) → (∀ p ∈ news, p.1 < DD) → Fr h₀ L h' m →
      News h₀ L h' ((AT, listOf #[] 0) :: (D, instObj 506 DD) :: (DD, dfD w K (.str x t1) (.str y t2) (.str (PySem.Str.ofString "") tt) AT) :: news) → Q (.ref D) { s with heap := h', toks := tk' })
    : wpAny (model rw'.row.toRowW.prog w) (ktrTop dp un gd cn cs L a ccd cl outer) (call (.ref 506) [.str x t1, .str y t2]) Q E s := by
  revert X
  k_fill
  intro X
  k_dflt (refine' call_cls ?k1 ?k2 ?k3 ?k4 ?k5 ?k6 ?_; (case k1 => k_asm); (case k2 => k_asm); (case k3 => k_asm); (case k4 => k_is); (case k5 => k_is); (case k6 => k_is); k_whole; intro x' d' h' F' N' l1 l2; (try k_lt l1); (try k_lt2 l2); (try k_sweep))
  k_dflt cell_enter
  k_steps
  all_goals (rename Fr h₀ L _ _ => kF9; rename News h₀ L _ _ => kN9; exact hret _ _ _ ⟨_, _, _, _, _, _, _, _⟩ _ _ _ ⟨by omega, by omega⟩ l1 kF9 kN9)
section
theorem wdM16x1 : True := by
  k_with "kall" => assumption
  trivial
theorem begin_claim {w : World} {mean : ExcName → Option Value} {mg mb : PySem.Str → Option Value} {dp un : Nat} {gd : Option (List Code)} {cn : PySem.Str} {cs : Scope} {a : Addr} {ccd : Value} {cl : List (PySem.Str × Addr)} {outer : List Env} {A₀ : Around} {base h₀ : Heap} {L : Addr} {m : PySem.Str → Option Value} {s : Shared} {Q E : Value → Shared → Prop} {rest : List (Addr × Obj)} {D DD AT : Addr} {K : KD} {vk vn vt : Value}
   (B : Below A₀ base outer h₀) (F : Fr h₀ L s.heap m) (X : (Mine.top.heap_1 w.params).In h₀) (N : News h₀ L s.heap ((AT, listOf #[] 0) :: (D, instObj 506 DD) :: (DD, dfD w K vk vn vt AT) :: rest)) (T : Top q (looseW q []) mean mg mb h₀) (hk : cs.kind = .function) (hd : dp + 4 < recursionLimit) (hu : un + 32 < cLine)
    (d1 : @Ne Nat D AT) (d2 : @Ne Nat DD AT) (d3 : ∀ p ∈ rest, p.1 ≠ AT)
    (hret : ∀ (I : Addr) (t1 t2 : Tok) (h' : Heap) (tk' : Nat), (∀ p ∈ (AT, listOf #[] 0) :: (D, instObj 506 DD) :: (DD, dfD w K vk vn vt AT) :: rest, p.1 < I) → Fr h₀ L h' m →
      News h₀ L h' ((I, listOf #[.str (PySem.Str.ofString "") t1, .str (PySem.Str.ofString "") t2, .bool true] 0) :: (AT, listOf #[.ref I] 1) :: (D, instObj 506 DD) :: (DD, dfD w K vk vn vt AT) :: rest) → Q .none { s with heap := h', toks := tk' })
    : wpAny (model rw'.row.toRowW.prog w) (ktrTop dp un gd cn cs L a ccd cl outer) (call (.ref 475) [.ref D]) Q E s := by
  revert X
  k_fill
  intro X
  refine wpAny_call ?_
  k_dflt cell_enter
  k_steps
  all_goals (rename Fr h₀ L _ _ => kF9; rename News h₀ L _ _ => kN9; exact hret _ _ _ _ _ (lt_all (by simp only [AllLt]; assumption)) kF9 kN9)
theorem addv_claim {w : World} {mean : ExcName → Option Value} {mg mb : PySem.Str → Option Value} {dp un : Nat} {gd : Option (List Code)} {cn : PySem.Str} {cs : Scope} {a : Addr} {ccd : Value} {cl : List (PySem.Str × Addr)} {outer : List Env} {A₀ : Around} {base h₀ : Heap} {L : Addr} {m : PySem.Str → Option Value} {s : Shared} {Q E : Value → Shared → Prop} {rest : List (Addr × Obj)} {D DD AT I : Addr} {K : KD} {vk vn vt : Value} {na ni : Nat} {e1 v x : PySem.Str} {t1 tv tx : Tok}
   (B : Below A₀ base outer h₀) (F : Fr h₀ L s.heap m) (X : (Mine.top.heap_1 w.params).In h₀) (N : News h₀ L s.heap ((I, listOf #[.str e1 t1, .str v tv, .bool true] ni) :: (AT, listOf #[.ref I] na) :: (D, instObj 506 DD) :: (DD, dfD w K vk vn vt AT) :: rest)) (T : Top q (looseW q []) mean mg mb h₀) (hk : cs.kind = .function) (hd : dp + 4 < recursionLimit) (hu : un + 32 < cLine)
    (d1 : @Ne Nat D I) (d2 : @Ne Nat DD I) (d3 : @Ne Nat AT I) (d4 : ∀ p ∈ rest, p.1 ≠ I) (hvl : v.length ≤ 100) (hxl : x.length ≤ 100)
    (hret : ∀ (tv' : Tok) (h' : Heap) (tk' : Nat), Fr h₀ L h' m →
      News h₀ L h' ((I, listOf #[.str e1 t1, .str (v ++ x) tv', .bool true] ni) :: (AT, listOf #[.ref I] na) :: (D, instObj 506 DD) :: (DD, dfD w K vk vn vt AT) :: rest) → Q .none { s with heap := h', toks := tk' })
    : wpAny (model rw'.row.toRowW.prog w) (ktrTop dp un gd cn cs L a ccd cl outer) (call (.ref 489) [.ref D, .str x tx]) Q E s := by
  revert X
  k_fill
  intro X
  refine wpAny_call ?_
  k_dflt cell_enter
  k_steps
  all_goals (rename Fr h₀ L _ _ => kF9; rename News h₀ L _ _ => kN9; exact hret _ _ _ kF9 kN9)
end

theorem rsL1 : True := by
  k_with_none
  k_with "kne" => (refine neN ?_; (try dsimp only); first | with_reducible assumption | with_reducible exact Ne.symm (by with_reducible assumption) | (refine Nat.ne_of_lt ?_; (first | with_reducible assumption | with_reducible exact And.left (by with_reducible assumption) | with_reducible exact And.left (And.right (by with_reducible assumption)) | with_reducible exact And.left (And.right (And.right (by with_reducible assumption))) | with_reducible exact And.left (And.right (And.right (And.right (by with_reducible assumption)))) | with_reducible exact And.left (And.right (And.right (And.right (And.right (by with_reducible assumption))))) | with_reducible exact And.left (And.right (And.right (And.right (And.right (And.right (by with_reducible assumption)))))) | with_reducible exact And.left (And.right (And.right (And.right (And.right (And.right (And.right (by with_reducible assumption))))))) | with_reducible exact And.left (And.right (And.right (And.right (And.right (And.right (And.right (And.right (by with_reducible assumption)))))))) | with_reducible exact And.left (And.right (And.right (And.right (And.right (And.right (And.right (And.right (And.right (by with_reducible assumption))))))))) | with_reducible exact And.left (And.right (And.right (And.right (And.right (And.right (And.right (And.right (And.right (And.right (by with_reducible assumption)))))))))) | with_reducible exact And.left (And.right (And.right (And.right (And.right (And.right (And.right (And.right (And.right (And.right (And.right (by with_reducible assumption))))))))))) | with_reducible exact And.left (And.right (And.right (And.right (And.right (And.right (And.right (And.right (And.right (And.right (And.right (And.right (by with_reducible assumption)))))))))))) | with_reducible exact And.left (And.right (And.right (And.right (And.right (And.right (And.right (And.right (And.right (And.right (And.right (And.right (And.right (by with_reducible assumption))))))))))))) | with_reducible exact (And.right (by with_reducible assumption)) | with_reducible exact (And.right (And.right (by with_reducible assumption))) | with_reducible exact (And.right (And.right (And.right (by with_reducible assumption)))) | with_reducible exact (And.right (And.right (And.right (And.right (by with_reducible assumption))))) | with_reducible exact (And.right (And.right (And.right (And.right (And.right (by with_reducible assumption)))))) | with_reducible exact (And.right (And.right (And.right (And.right (And.right (And.right (by with_reducible assumption))))))))) | (refine Nat.ne_of_gt ?_; (first | with_reducible assumption | with_reducible exact And.left (by with_reducible assumption) | with_reducible exact And.left (And.right (by with_reducible assumption)) | with_reducible exact And.left (And.right (And.right (by with_reducible assumption))) | with_reducible exact And.left (And.right (And.right (And.right (by with_reducible assumption)))) | with_reducible exact And.left (And.right (And.right (And.right (And.right (by with_reducible assumption))))) | with_reducible exact And.left (And.right (And.right (And.right (And.right (And.right (by with_reducible assumption)))))) | with_reducible exact And.left (And.right (And.right (And.right (And.right (And.right (And.right (by with_reducible assumption))))))) | with_reducible exact And.left (And.right (And.right (And.right (And.right (And.right (And.right (And.right (by with_reducible assumption)))))))) | with_reducible exact And.left (And.right (And.right (And.right (And.right (And.right (And.right (And.right (And.right (by with_reducible assumption))))))))) | with_reducible exact And.left (And.right (And.right (And.right (And.right (And.right (And.right (And.right (And.right (And.right (by with_reducible assumption)))))))))) | with_reducible exact And.left (And.right (And.right (And.right (And.right (And.right (And.right (And.right (And.right (And.right (And.right (by with_reducible assumption))))))))))) | with_reducible exact And.left (And.right (And.right (And.right (And.right (And.right (And.right (And.right (And.right (And.right (And.right (And.right (by with_reducible assumption)))))))))))) | with_reducible exact And.left (And.right (And.right (And.right (And.right (And.right (And.right (And.right (And.right (And.right (And.right (And.right (And.right (by with_reducible assumption))))))))))))) | with_reducible exact (And.right (by with_reducible assumption)) | with_reducible exact (And.right (And.right (by with_reducible assumption))) | with_reducible exact (And.right (And.right (And.right (by with_reducible assumption)))) | with_reducible exact (And.right (And.right (And.right (And.right (by with_reducible assumption))))) | with_reducible exact (And.right (And.right (And.right (And.right (And.right (by with_reducible assumption)))))) | with_reducible exact (And.right (And.right (And.right (And.right (And.right (And.right (by with_reducible assumption))))))))) | omega)
  k_with "mcall" => ((with_reducible show wpAny _ _ (call (Value.ref (nat_lit 84)) [Value.int _ _]) _ _ _); k_dflt (refine' c1_claim ?k1 ?k2 ?k3 ?k4 ?k5 ?k6 ?k7 ?k8 ?kp ?_; (case k1 => k_asm); (case k2 => k_asm); (case k3 => k_asm); (case k4 => k_asm); (case k5 => k_asm); (case k6 => first | exact rfl | assumption); (case k7 => ktr_room); (case k8 => ktr_units); (case kp => omega)); intro t9 h9 tk9 F9 N9; (have hc19 := c1_room (by assumption) (by omega)); (try dsimp only); (try k_fold))
  k_with "mcall" => ((with_reducible show wpAny _ _ (call (Value.ref (nat_lit 91)) [Value.int _ _]) _ _ _); k_dflt (refine' numref_claim ?k1 ?k2 ?k3 ?k4 ?k5 ?k6 ?k7 ?k8 ?kp ?_; (case k1 => k_asm); (case k2 => k_asm); (case k3 => k_asm); (case k4 => k_asm); (case k5 => k_asm); (case k6 => first | exact rfl | assumption); (case k7 => ktr_room); (case k8 => ktr_units); (case kp => omega)); intro D9 o9 h9 tk9 P9 F9 N9 l9; (try k_lt l9); k_dflt (unfold PairIs at P9; rcases P9 with ⟨t19, c19, hf9, he9⟩ | ⟨t19, f9, t29, c19, hf9, he9⟩); all_goals ((subst he9); (try dsimp only); (try k_fold)))
  k_with "mcall" => ((with_reducible show wpAny _ _ (call (Value.ref (nat_lit 531)) [Value.int _ _]) _ _ _); k_dflt (refine' meant_claim ?k1 ?k2 ?k3 ?k4 ?k5 ?k6 ?k7 ?k8 ?kp ?_; (case k1 => k_asm); (case k2 => k_asm); (case k3 => k_asm); (case k4 => k_asm); (case k5 => k_asm); (case k6 => first | exact rfl | assumption); (case k7 => ktr_room); (case k8 => ktr_units); (case kp => omega)); intro D9 o9 h9 tk9 P9 F9 N9 l9; (try k_lt l9); k_dflt (unfold PairIs at P9; rcases P9 with ⟨t19, c19, hf9, he9⟩ | ⟨t19, f9, t29, c19, hf9, he9⟩); all_goals ((subst he9); (try dsimp only); (try k_fold)))
  k_with "mcall" => ((with_reducible show wpAny _ _ (call (Value.ref (nat_lit 524)) [Value.int _ _, Value.int _ _]) _ _ _); k_dflt (refine' lawCode_claim ?k1 ?k2 ?k3 ?k4 ?k5 ?k6 ?k7 ?k8 ?kp ?kq ?_; (case k1 => k_asm); (case k2 => k_asm); (case k3 => k_asm); (case k4 => k_asm); (case k5 => k_asm); (case k6 => first | exact rfl | assumption); (case k7 => ktr_room); (case k8 => ktr_units); (case kp => with_reducible assumption); (case kq => with_reducible assumption)); intro c9 t9 h9 tk9 hlo9 hhi9 F9 N9; (try dsimp only); (try k_fold))
  k_with "mcall" => ((with_reducible show wpAny _ _ (call (Value.ref (nat_lit 538)) [Value.int _ _, Value.int _ _, Value.int _ _]) _ _ _); k_dflt (first | (refine' digits16_claim ?k1 ?k2 ?k3 ?k4 ?k5 ?k6 ?k7 ?k8 ?kp ?kq ?_; (case k1 => k_asm); (case k2 => k_asm); (case k3 => k_asm); (case k4 => k_asm); (case k5 => k_asm); (case k6 => first | exact rfl | assumption); (case k7 => ktr_room); (case k8 => ktr_units); (case kp => with_reducible assumption); (case kq => with_reducible assumption)) | (refine' digits10_claim ?k1 ?k2 ?k3 ?k4 ?k5 ?k6 ?k7 ?k8 ?kp ?kq ?_; (case k1 => k_asm); (case k2 => k_asm); (case k3 => k_asm); (case k4 => k_asm); (case k5 => k_asm); (case k6 => first | exact rfl | assumption); (case k7 => ktr_room); (case k8 => ktr_units); (case kp => with_reducible assumption); (case kq => with_reducible assumption))); intro d9 t9 h9 tk9 I9 E9 hl9 F9 N9; (try dsimp only); (try k_fold))
  k_with "mcall" => ((with_reducible show wpAny _ _ (call (Value.ref (nat_lit 517)) [Value.ref _, Value.int _ _]) _ _ _); k_dflt (refine' pick_claim ?k1 ?k2 ?k3 ?k4 ?k5 ?k6 ?k7 ?k8 ?kt ?ke ?kp ?kq ?_; (case k1 => k_asm); (case k2 => k_asm); (case k3 => k_asm); (case k4 => k_asm); (case k5 => k_asm); (case k6 => first | exact rfl | assumption); (case k7 => ktr_room); (case k8 => ktr_units); (case kt => repeat' (first | exact Take1.head | apply Take1.tail)); (case ke => k_all); (case kp => decide); (case kq => intro v9; exact PyProof.noPylong_of_log2 (by decide +kernel))); intro r9 v9 t9 t99 c9 h9 tk9 hlo9 hhi9 F9 N9; (try dsimp only); (try k_fold))
  k_with "mcall" => ((with_reducible show wpAny _ _ (call (Value.ref (nat_lit 545)) [Value.int _ _, Value.int _ _]) _ _ _); k_dflt (refine' case_claim ?k1 ?k2 ?k3 ?k4 ?k5 ?k6 ?k7 ?k8 ?kp ?kq ?_; (case k1 => k_asm); (case k2 => k_asm); (case k3 => k_asm); (case k4 => k_asm); (case k5 => k_asm); (case k6 => first | exact rfl | assumption); (case k7 => ktr_room); (case k8 => ktr_units); (case kp => omega); (case kq => omega)); intro D9 o9 h9 tk9 P9 F9 N9 l9; (try k_lt l9); k_dflt (unfold CaseObj at P9; obtain ⟨b9, hx9, ds9, tl9, bh9, code9, head9, tail9, behind9, back9, C9, cv9, t91, t92, t93, t94, n9, hcv9, he9⟩ := P9); (subst he9); (have hlen9 := (CaseOk.len C9).1); (have hlen91 := (CaseOk.len C9).2.1); (have hlen92 := (CaseOk.len C9).2.2); k_dflt (rcases hcv9 with ⟨he8, he7⟩ | ⟨c9, t95, he8, he7⟩); all_goals ((subst he8); (subst he7); (try have hc9 := CaseOk.nonneg C9); (try dsimp only); (try k_fold)))
  k_with "mcall" => ((with_reducible show wpAny _ _ (call (Value.ref (nat_lit 552)) [_, Value.str _ _, Value.str _ _]) _ _ _); k_dflt (first | (refine' due_claim_none ?k1 ?k2 ?k3 ?k4 ?k5 ?k6 ?k7 ?k8 ?kp ?_; (case k1 => k_asm); (case k2 => k_asm); (case k3 => k_asm); (case k4 => k_asm); (case k5 => k_asm); (case k6 => first | exact rfl | assumption); (case k7 => ktr_room); (case k8 => ktr_units); (case kp => with_reducible exact Nat.le_trans (by with_reducible assumption) (by decide))) | (refine' due_claim_some ?k1 ?k2 ?k3 ?k4 ?k5 ?k6 ?k7 ?k8 ?kp ?kq ?_; (case k1 => k_asm); (case k2 => k_asm); (case k3 => k_asm); (case k4 => k_asm); (case k5 => k_asm); (case k6 => first | exact rfl | assumption); (case k7 => ktr_room); (case k8 => ktr_units); (case kp => with_reducible exact Nat.le_trans (by with_reducible assumption) (by decide)); (case kq => with_reducible assumption))); intro D9 EL9 o9 e9 X9 h9 tk9 P9 F9 N9 l9; (have l91 := fun p hp => (l9 p hp).1); (have l92 := fun p hp => (l9 p hp).2); (try k_lt l91); (try k_lt l92); k_dflt (unfold DueObj at P9; obtain ⟨t91, t92, n9, vs9, k9, he9, he8, DA9⟩ := P9); (subst he9); (subst he8); (try dsimp only); (try k_fold))
  k_with "mcall" => ((with_reducible show wpAny _ _ (call (Value.ref (nat_lit 327)) _) _ _ _); k_dflt (refine' next_claim ?k1 ?k2 ?k3 ?k4 ?k5 ?k6 ?k7 ?k8 ?kD ?kS ?kL ?k0 ?_; (case k1 => k_asm); (case k2 => k_asm); (case k3 => k_asm); (case k4 => k_asm); (case k5 => k_asm); (case k6 => first | exact rfl | assumption); (case k7 => ktr_room); (case k8 => ktr_units); (case kD => assumption); (case kS => assumption); (case kL => assumption); (case k0 => assumption)); intro t9 ta9 h9 tk9 F9 N9; (try rw [hc]); (try dsimp only); (try k_fold))
  k_with "mcall" => ((with_reducible show wpAny _ _ (call (Value.ref (nat_lit 341)) _) _ _ _); k_dflt (refine' again_claim ?k1 ?k2 ?k3 ?k4 ?k5 ?k6 ?k7 ?k8 ?kD ?_; (case k1 => k_asm); (case k2 => k_asm); (case k3 => k_asm); (case k4 => k_asm); (case k5 => k_asm); (case k6 => first | exact rfl | assumption); (case k7 => ktr_room); (case k8 => ktr_units); (case kD => assumption)); intro ta9 ts9 h9 tk9 F9 N9; (try dsimp only); (try k_fold))
  k_with "mcall" => ((with_reducible show wpAny _ _ (call (Value.ref (nat_lit 348)) _) _ _ _); k_dflt (refine' error2_claim ?k1 ?k2 ?k3 ?k4 ?k5 ?k6 ?k7 ?k8 ?kD ?kS ?kE ?kL ?_; (case k1 => k_asm); (case k2 => k_asm); (case k3 => k_asm); (case k4 => k_asm); (case k5 => k_asm); (case k6 => first | exact rfl | assumption); (case k7 => ktr_room); (case k8 => ktr_units); (case kD => assumption); (case kS => assumption); (case kE => assumption); (case kL => assumption)); intro ev9 rest9 all9 ne9 h9 tk9 SK9 D9 hde9 hsub9 F9 N9; (have hdd9 := D9.d); (try dsimp only); (try k_fold))
  k_with "mcall" => ((with_reducible show wpAny _ _ (call (Value.ref (nat_lit 426)) _) _ _ _); k_dflt (refine' flush_claim ?k1 ?k2 ?k3 ?k4 ?k5 ?k6 ?k7 ?k8 ?kD ?kS ?kE ?kL ?_; (case k1 => k_asm); (case k2 => k_asm); (case k3 => k_asm); (case k4 => k_asm); (case k5 => k_asm); (case k6 => first | exact rfl | assumption); (case k7 => ktr_room); (case k8 => ktr_units); (case kD => assumption); (case kS => assumption); (case kE => assumption); (case kL => assumption)); intro all8 rest8 tf8 h8 tk8 hsub8 D8 SK8 F8 N8; (have hdd8 := D8.d); (try dsimp only); (try k_fold))
  k_with "mcall" => ((with_reducible show wpAny _ _ (call (Value.ref (nat_lit 42)) _) _ _ _); k_dflt (refine' ishex_claim ?k1 ?k2 ?k3 ?k4 ?k5 ?k6 ?k7 ?k8 ?kC ?_; (case k1 => k_asm); (case k2 => k_asm); (case k3 => k_asm); (case k4 => k_asm); (case k5 => k_asm); (case k6 => first | exact rfl | assumption); (case k7 => ktr_room); (case k8 => ktr_units); (case kC => first | assumption | decide)); intro b9 h9 tk9 hb9 F9 N9; rw [hfit] at hb9; subst hb9; (try dsimp only); (try k_fold))
  k_with "mcall" => ((with_reducible show wpAny _ _ (call (Value.ref (nat_lit 35)) _) _ _ _); k_dflt (refine' isdig_claim ?k1 ?k2 ?k3 ?k4 ?k5 ?k6 ?k7 ?k8 ?kC ?_; (case k1 => k_asm); (case k2 => k_asm); (case k3 => k_asm); (case k4 => k_asm); (case k5 => k_asm); (case k6 => first | exact rfl | assumption); (case k7 => ktr_room); (case k8 => ktr_units); (case kC => first | assumption | decide)); intro b9 h9 tk9 hb9 F9 N9; rw [hfit] at hb9; subst hb9; (try dsimp only); (try k_fold))
  k_with "mcall" => ((with_reducible show wpAny _ _ (call (Value.ref (nat_lit 56)) _) _ _ _); k_dflt (refine' dval_claim ?k1 ?k2 ?k3 ?k4 ?k5 ?k6 ?k7 ?k8 ?kC ?_; (case k1 => k_asm); (case k2 => k_asm); (case k3 => k_asm); (case k4 => k_asm); (case k5 => k_asm); (case k6 => first | exact rfl | assumption); (case k7 => ktr_room); (case k8 => ktr_units); (case kC => assumption)); intro t9 h9 tk9 F9 N9; (try dsimp only); (try k_fold))
  k_with "eval Call" => (k_here; k_dflt (refine Call_ ?_))
  k_with "compareOp NotIn str ref" => (k_here; k_dflt (first | refine kdg_notin (knd := PySem.strKind _ _) (by k_asm) (by k_mem) (by k_asm) (by k_asm) (strKind_is _ _ _ _) true (by rfl) ?_ | refine kdg_notin (knd := PySem.strKind _ _) (by k_asm) (by k_mem) (by k_asm) (by k_asm) (strKind_is _ _ _ _) false (by rfl) ?_); (try dsimp only [Bool.not_true, Bool.not_false]))
  k_with "subscriptTail" => (k_here; (with_reducible show wpAny _ _ (subscriptTail _ _ (Value.ref _) (Value.str _ _)) _ _ _); k_dflt (refine kda_item (knd := PySem.strKind _ _) (by k_asm) (by k_mem) (by k_asm) (strKind_is _ _ _ _) (by rfl) ?_))
  k_with "mcall" => ((with_reducible show wpAny _ _ (call (Value.ref (nat_lit 91)) _) _ _ _); k_dflt (refine' numref2_claim ?k1 ?k2 ?k3 ?k4 ?k5 ?k6 ?k7 ?k8 ?kD ?kS ?kE ?kL ?_; (case k1 => k_asm); (case k2 => k_asm); (case k3 => k_asm); (case k4 => k_asm); (case k5 => k_asm); (case k6 => first | exact rfl | assumption); (case k7 => ktr_room); (case k8 => ktr_units); (case kD => assumption); (case kS => assumption); (case kE => assumption); (case kL => assumption)); intro Dn7 o7 all7 h7 tk7 P7 SK7 D7 hde7 F7 N7; (k_extra "mpair"); (have hm7 := Sink.sub SK7 _ List.mem_cons_self); (have hdd7 := D7.d); (try dsimp only); (try k_fold))
  k_with "mtup" => k_dflt (refine pair_item (News.isTup (by k_asm) (mem_led (by first | exact Sink.sub SK9 _ (hsub9 _ List.mem_cons_self) | assumption))) rfl ?_)
  k_with "mcall" => ((with_reducible show wpAny _ _ (call (Value.ref (nat_lit 440)) _) _ _ _); k_dflt (first | (refine' ready_t ?k1 ?k2 ?k3 ?k4 ?k5 ?k6 ?k7 ?k8 ?kD ?kS ?kL ?k0 ?_; (case k1 => k_asm); (case k2 => k_asm); (case k3 => k_asm); (case k4 => k_asm); (case k5 => k_asm); (case k6 => first | exact rfl | assumption); (case k7 => ktr_room); (case k8 => ktr_units); (case kD => assumption); (case kS => assumption); (case kL => assumption); (case k0 => assumption)) | (refine' ready_f ?k1 ?k2 ?k3 ?k4 ?k5 ?k6 ?k7 ?k8 ?kD ?kS ?kL ?k0 ?_; (case k1 => k_asm); (case k2 => k_asm); (case k3 => k_asm); (case k4 => k_asm); (case k5 => k_asm); (case k6 => first | exact rfl | assumption); (case k7 => ktr_room); (case k8 => ktr_units); (case kD => assumption); (case kS => assumption); (case kL => assumption); (case k0 => assumption))); intro h9 tk9 F9 N9; (try dsimp only); (try k_fold))
  k_with "mcall" => ((with_reducible show wpAny _ _ (call (Value.ref (nat_lit 433)) _) _ _ _); k_dflt (refine' step_all ?k1 ?k2 ?k3 ?k4 ?k5 ?k6 ?k7 ?k8 ?kD ?kS ?kE ?kL ?kO ?kP ?kG ?kH ?k0 ?kC ?kI ?kJ ?_; (case k1 => k_asm); (case k2 => k_asm); (case k3 => k_asm); (case k4 => k_asm); (case k5 => k_asm); (case k6 => first | exact rfl | assumption); (case k7 => ktr_room); (case k8 => ktr_units); (case kD => assumption); (case kS => assumption); (case kE => assumption); (case kL => assumption); (case kO => assumption); (case kP => assumption); (case kG => assumption); (case kH => assumption); (case k0 => assumption); (case kC => assumption); (case kI => assumption); (case kJ => assumption)); intro n2 at2 cd2 ta2 ts2 tf2 tc2 st2 bf2 ev2 ne2 all2 rest2 errs2 txt2 h2 tk2 hlt2 P2 h02 SK2 D2 hde2 hel2 hsub2 F2 N2; (try dsimp only); (try k_fold)) 
  trivial
theorem back_is {bk : PySem.Str} (h : bk ∈ backs5) : ([PySem.Str.ofString "data", PySem.Str.ofString "RCDATA"].any fun x => x == bk) = !isVal bk := by
  have : ∀ x ∈ backs5, ([PySem.Str.ofString "data", PySem.Str.ofString "RCDATA"].any fun y => y == x) = !isVal x := by decide +kernel
  exact this bk h
theorem val_of {bk : PySem.Str} (h : bk ∈ backs5) (e : ([PySem.Str.ofString "data", PySem.Str.ofString "RCDATA"].any fun x => x == bk) = false) : isVal bk = true := by
  rw [back_is h] at e; simpa using e
theorem out_of {bk : PySem.Str} (h : bk ∈ backs5) (e : ([PySem.Str.ofString "data", PySem.Str.ofString "RCDATA"].any fun x => x == bk) = true) : isVal bk = false := by
  rw [back_is h] at e; simpa using e
theorem lt_keys {l l' : List (Addr × Obj)} {d : Addr} (h : ∀ p ∈ l, p.1 < d) (e : l'.map (·.1) = l.map (·.1)) : ∀ p ∈ l', p.1 < d := by
  intro p hp
  have : p.1 ∈ l.map (·.1) := e ▸ List.mem_map.mpr ⟨p, hp, rfl⟩
  obtain ⟨r, hr, e2⟩ := List.mem_map.mp this
  exact e2 ▸ h r hr
theorem ne_keys {l l' : List (Addr × Obj)} {d a b : Addr} (h : ∀ p ∈ l, p.1 < d) (e : l'.map (·.1) = l.map (·.1)) (h1 : @LT.lt Nat _ d a) (h2 : @LT.lt Nat _ a b) : ∀ p ∈ l', p.1 ≠ b := by
  intro p hp
  have h3 : @LT.lt Nat _ p.1 d := lt_keys h e p hp
  have : @LT.lt Nat _ p.1 b := by omega
  exact Nat.ne_of_lt this
/-- the law's objects: the addresses' order -/
structure Chain (Td Tk SD S G SE O E ST : Addr) : Prop where
  c0 : @LT.lt Nat _ ST Td
  c1 : @LT.lt Nat _ Td Tk
  c2 : @LT.lt Nat _ Tk SD
  c3 : @LT.lt Nat _ SD S
  c4 : @LT.lt Nat _ S G
  c5 : @LT.lt Nat _ G SE
  c6 : @LT.lt Nat _ SE O
  c7 : @LT.lt Nat _ O E
theorem ne_all {rest : List (Addr × Obj)} {d b : Addr} (h : ∀ p ∈ rest, p.1 < d) (hb : @LE.le Nat _ d b) : ∀ p ∈ rest, p.1 ≠ b := fun p hp => Nat.ne_of_lt (Nat.lt_of_lt_of_le (h p hp) hb)
section
variable {Td Tk SD S G SE O E ST : Addr}
theorem Chain.t2 (C : Chain Td Tk SD S G SE O E ST) : @LT.lt Nat _ Td SD := Nat.lt_trans C.c1 C.c2
theorem Chain.t3 (C : Chain Td Tk SD S G SE O E ST) : @LT.lt Nat _ Td S := Nat.lt_trans C.t2 C.c3
theorem Chain.t4 (C : Chain Td Tk SD S G SE O E ST) : @LT.lt Nat _ Td G := Nat.lt_trans C.t3 C.c4
theorem Chain.t6 (C : Chain Td Tk SD S G SE O E ST) : @LT.lt Nat _ Td O := Nat.lt_trans (Nat.lt_trans C.t4 C.c5) C.c6
theorem Chain.t7 (C : Chain Td Tk SD S G SE O E ST) : @LT.lt Nat _ Td E := Nat.lt_trans C.t6 C.c7
theorem Chain.g6 (C : Chain Td Tk SD S G SE O E ST) : @LT.lt Nat _ G O := Nat.lt_trans C.c5 C.c6
theorem Chain.s6 (C : Chain Td Tk SD S G SE O E ST) : @LT.lt Nat _ S O := Nat.lt_trans C.c4 C.g6
theorem Chain.d6 (C : Chain Td Tk SD S G SE O E ST) : @LT.lt Nat _ SD O := Nat.lt_trans C.c3 C.s6
theorem Chain.k6 (C : Chain Td Tk SD S G SE O E ST) : @LT.lt Nat _ Tk O := Nat.lt_trans C.c2 C.d6
theorem Chain.g7 (C : Chain Td Tk SD S G SE O E ST) : @LT.lt Nat _ G E := Nat.lt_trans C.g6 C.c7
theorem Chain.d7 (C : Chain Td Tk SD S G SE O E ST) : @LT.lt Nat _ SD E := Nat.lt_trans C.d6 C.c7
theorem Chain.s7 (C : Chain Td Tk SD S G SE O E ST) : @LT.lt Nat _ S E := Nat.lt_trans C.s6 C.c7
theorem Chain.k7 (C : Chain Td Tk SD S G SE O E ST) : @LT.lt Nat _ Tk E := Nat.lt_trans C.k6 C.c7
theorem Chain.d4 (C : Chain Td Tk SD S G SE O E ST) : @LT.lt Nat _ SD G := Nat.lt_trans C.c3 C.c4
theorem Chain.k4 (C : Chain Td Tk SD S G SE O E ST) : @LT.lt Nat _ Tk G := Nat.lt_trans C.c2 C.d4
theorem ne_up {a b : Addr} (h : @LT.lt Nat _ a b) : @Ne Nat a b := Nat.ne_of_lt h
theorem ne_dn {a b : Addr} (h : @LT.lt Nat _ a b) : @Ne Nat b a := Nat.ne_of_gt h
theorem dis_all {all : List (Addr × Obj)} (C : Chain Td Tk SD S G SE O E ST) (h1 : ∀ p ∈ all, p.1 ≠ Td) (h2 : ∀ p ∈ all, p.1 ≠ E) : Dis Tk Td S SD G E ST all :=
  ⟨ne_dn C.c1, ne_dn C.t3, ne_dn C.t2, ne_dn C.t4, ne_dn C.t7, ne_up C.c0, ne_up C.k7, ne_up C.s7, ne_up C.d7, ne_up C.g7, ne_up (Nat.lt_trans C.c0 C.t7), h1, h2⟩
theorem disF_all {all : List (Addr × Obj)} (C : Chain Td Tk SD S G SE O E ST) (h1 : ∀ p ∈ all, p.1 ≠ SD) (h2 : ∀ p ∈ all, p.1 ≠ G) : DisF Tk Td S SD G E ST all :=
  ⟨ne_up C.c2, ne_up C.t2, ne_dn C.c3, ne_dn C.d4, ne_dn C.d7, ne_up (Nat.lt_trans C.c0 C.t2), ne_up C.k4, ne_up C.t4, ne_up C.c4, ne_dn C.g7, ne_up (Nat.lt_trans C.c0 C.t4), h1, h2⟩
theorem dis_out {rest : List (Addr × Obj)} {o : Obj} (C : Chain Td Tk SD S G SE O E ST) (hr : ∀ p ∈ rest, p.1 < Td) :
    Dis Tk Td S SD G E ST ((O, o) :: rest) ∧ DisF Tk Td S SD G E ST ((O, o) :: rest) ∧ DisO Tk Td S SD G E O ST rest :=
  ⟨dis_all C (List.forall_mem_cons.mpr ⟨ne_dn C.t6, ne_all hr (Nat.le_refl _)⟩) (List.forall_mem_cons.mpr ⟨ne_up C.c7, ne_all hr (Nat.le_of_lt C.t7)⟩),
    disF_all C (List.forall_mem_cons.mpr ⟨ne_dn C.d6, ne_all hr (Nat.le_of_lt C.t2)⟩) (List.forall_mem_cons.mpr ⟨ne_dn C.g6, ne_all hr (Nat.le_of_lt C.t4)⟩),
    ⟨ne_up C.k6, ne_up C.t6, ne_up C.s6, ne_up C.d6, ne_up C.g6, ne_dn C.c7, ne_up (Nat.lt_trans C.c0 C.t6), ne_all hr (Nat.le_of_lt C.t6)⟩⟩
theorem five_up {D DD AT I b : Addr} {rest : List (Addr × Obj)} {o1 o2 o3 o4 o5 : Obj} (h2 : @LT.lt Nat _ b DD) (d2 : @LT.lt Nat _ DD D) (d3 : @LT.lt Nat _ D AT) (d4 : @LT.lt Nat _ AT I) (hO : @Ne Nat O b) (hr : ∀ p ∈ rest, p.1 ≠ b) :
    ∀ p ∈ (D, o1) :: (DD, o2) :: (AT, o3) :: (I, o4) :: (O, o5) :: rest, p.1 ≠ b :=
  List.forall_mem_cons.mpr ⟨ne_dn (Nat.lt_trans h2 d2), List.forall_mem_cons.mpr ⟨ne_dn h2, List.forall_mem_cons.mpr ⟨ne_dn (Nat.lt_trans (Nat.lt_trans h2 d2) d3), List.forall_mem_cons.mpr ⟨ne_dn (Nat.lt_trans (Nat.lt_trans (Nat.lt_trans h2 d2) d3) d4), List.forall_mem_cons.mpr ⟨hO, hr⟩⟩⟩⟩⟩
theorem dis_val {D DD AT I : Addr} {rest : List (Addr × Obj)} {o1 o2 o3 o4 o5 : Obj} (C : Chain Td Tk SD S G SE O E ST) (d1 : @LT.lt Nat _ E DD) (d2 : @LT.lt Nat _ DD D) (d3 : @LT.lt Nat _ D AT) (d4 : @LT.lt Nat _ AT I) (hr : ∀ p ∈ rest, p.1 < Td) :
    Dis Tk Td S SD G E ST ((D, o1) :: (DD, o2) :: (AT, o3) :: (I, o4) :: (O, o5) :: rest) ∧ DisF Tk Td S SD G E ST ((D, o1) :: (DD, o2) :: (AT, o3) :: (I, o4) :: (O, o5) :: rest) ∧ DisI Tk Td S SD G E ST D DD AT O I rest := by
  have i1 : @LT.lt Nat _ D I := Nat.lt_trans d3 d4
  have i2 : @LT.lt Nat _ DD I := Nat.lt_trans d2 i1
  have i3 : @LT.lt Nat _ E I := Nat.lt_trans d1 i2
  have iT : @LT.lt Nat _ Td I := Nat.lt_trans C.t7 i3
  exact ⟨dis_all C (five_up (Nat.lt_trans C.t7 d1) d2 d3 d4 (ne_dn C.t6) (ne_all hr (Nat.le_refl _))) (five_up d1 d2 d3 d4 (ne_up C.c7) (ne_all hr (Nat.le_of_lt C.t7))),
    disF_all C (five_up (Nat.lt_trans C.d7 d1) d2 d3 d4 (ne_dn C.d6) (ne_all hr (Nat.le_of_lt C.t2))) (five_up (Nat.lt_trans C.g7 d1) d2 d3 d4 (ne_dn C.g6) (ne_all hr (Nat.le_of_lt C.t4))),
    ⟨ne_up (Nat.lt_trans C.k7 i3), ne_up iT, ne_up (Nat.lt_trans C.s7 i3), ne_up (Nat.lt_trans C.d7 i3), ne_up (Nat.lt_trans C.g7 i3), ne_up i3, ne_up (Nat.lt_trans C.c0 iT), ne_up i1, ne_up i2, ne_up d4, ne_up (Nat.lt_trans C.c7 i3), ne_all hr (Nat.le_of_lt iT)⟩⟩
end
section
variable {b : Int} {hx ds tl bh : List Nat} {code : Option Int} {head tail behind back : PySem.Str} (C : CaseOk b hx ds tl bh code head tail behind back)
include C
theorem case_signs : (head ++ tail ++ behind).cps.toList = 35 :: (hx ++ ds) ++ (tl ++ bh) := by
  rw [PySem.Str.cps_append, PySem.Str.cps_append, Array.toList_append, Array.toList_append, C.hhead, C.htail, C.hbeh, List.append_assoc]
theorem case_len : (head ++ tail ++ behind).length ≤ 50 := by
  rw [PySem.Str.length_append, PySem.Str.length_append]
  have := C.len; omega
theorem case_plain : ∀ c ∈ (head ++ tail ++ behind).cps.toList, 32 ≤ c ∧ c ≤ 126 := by
  rw [case_signs C]
  have hb2 : b = 10 ∨ b = 16 := by rcases C.base with ⟨h, _⟩ | ⟨h, _⟩ <;> simp [h]
  intro c hc
  simp only [List.cons_append, List.mem_cons, List.mem_append] at hc
  rcases hc with h | (h | h) | h | h
  · omega
  · rcases C.base with ⟨_, e⟩ | ⟨_, e | e⟩
    · rw [e] at h; cases h
    · rw [e] at h; simp at h; omega
    · rw [e] at h; simp at h; omega
  · have := C.hds c h
    unfold isDig at this
    simp only [Bool.or_eq_true, Bool.and_eq_true, decide_eq_true_eq, beq_iff_eq] at this
    omega
  · have ht := C.htok
    match tl, ht, h with
    | [e], ht, h =>
      simp only [List.mem_singleton] at h
      subst h
      unfold tailOk at ht
      simp only [Bool.and_eq_true, Bool.not_eq_true'] at ht
      exact ⟨Nat.le_of_ble_eq_true ht.1.1.1.2, Nat.le_of_ble_eq_true ht.1.1.2⟩
    | _ :: _ :: _, ht, _ => cases ht
  · have := List.all_eq_true.mp C.hbok c h
    simp only [Bool.and_eq_true] at this
    exact ⟨Nat.le_of_ble_eq_true this.1, Nat.le_of_ble_eq_true this.2⟩
end
theorem errs_ok7 (head tail : PySem.Str) (code : Option Int) : kqdOk 8 (.list (errsOf head tail code)) = true := by
  have ha : PyData.strOk absS = true := by decide +kernel
  have hm : PyData.strOk misS = true := by decide +kernel
  have key : ∀ d ∈ errsOf head tail code, kqdOk 7 d = true := by
    intro d hd
    cases code with
    | none =>
      simp only [errsOf, List.mem_singleton] at hd
      subst hd; simp [kqdOk, errD, ha]
    | some c =>
      simp only [errsOf, List.mem_append] at hd
      rcases hd with hd | hd
      · split at hd
        · simp at hd
        · simp only [List.mem_singleton] at hd; subst hd; simp [kqdOk, errD, hm]
      · unfold faultD at hd
        split at hd
        · simp at hd
        · rename_i f hf
          simp only [List.mem_singleton] at hd; subst hd; simp [kqdOk, errD, fault_ok hf]
  exact List.all_eq_true.mpr key
theorem errs_ne {prog : Program} {w : World} {A : Around} {E : Value → Shared → Prop} {s : Shared} {h₀ : Heap} {L : Addr} {a b c d e g : Addr × Obj} {rest all X : List (Addr × Obj)} {Q : Value → Shared → Prop} {w2 : World} {Tk Td S SD G E' O ST EL : Addr} {bk : PySem.Str} {dv : Value} {txt : List Nat} {ev vs : List Value} {ne k : Nat} {head tail : PySem.Str} {code : Option Int}
    (N : News h₀ L s.heap (a :: b :: c :: d :: e :: (E', listOf ev.toArray ne) :: g :: all)) (SK : Sink w2 Tk Td S SD G E' O ST bk dv txt rest all) (hd : DatAll rest ev (errsOf head tail code))
    (hm : (EL, listOf vs.toArray k) ∈ rest) (hX : ∀ p ∈ X, p ∈ rest) (hv : DatAll X vs (errsOf head tail code)) (hu : A.units + 64 < cLine) (h : Q (.bool false) s) :
    wpAny (model prog w) A (compareOp .NotEq (.ref E') (.ref EL)) Q E s := by
  have sub : ∀ p ∈ rest, p ∈ a :: b :: c :: d :: e :: (E', listOf ev.toArray ne) :: g :: all := fun p hp => mem_led (Sink.sub SK p hp)
  exact dat_ne N (DatIn.list (vs := ev) (n := ne) (by simp) (DatAll.mono sub hd)) (DatIn.list (sub _ hm) (DatAll.mono (fun p hp => sub p (hX p hp)) hv)) (errs_ok7 head tail code) hu h
theorem case_len100 {b : Int} {hx ds tl bh : List Nat} {code : Option Int} {head tail behind back : PySem.Str} (C : CaseOk b hx ds tl bh code head tail behind back) : (head ++ tail ++ behind).cps.toList.length ≤ 100 := by
  have h := case_len C
  have e : (head ++ tail ++ behind).length = (head ++ tail ++ behind).cps.toList.length := by simp [PySem.Str.length]
  omega
theorem feed_out {w : World} {mean : ExcName → Option Value} {mg mb : PySem.Str → Option Value} {dp un : Nat} {gd : Option (List Code)} {cn : PySem.Str} {cs : Scope} {a : Addr} {ccd : Value} {cl : List (PySem.Str × Addr)} {outer : List Env} {A₀ : Around} {base h₀ : Heap} {L : Addr} {m : PySem.Str → Option Value} {s : Shared} {Q E : Value → Shared → Prop} {Tk Td S SD ST G E' O SE : Addr} {gv ev : List Value} {K : KT} {KR : KR} {so : Obj} {ng ne : Nat} {ret : Bool} {at' cd : Int} {ta ts tb tf tc : Tok} {st bk bf : PySem.Str} {dv lv : Value} {rest : List (Addr × Obj)} {xt : PySem.Str} {tx : Tok} {no : Nat}
   (B : Below A₀ base outer h₀) (F : Fr h₀ L s.heap m) (X : (Mine.top.heap_1 w.params).In h₀) (N : News h₀ L s.heap ((Tk, instObj 450 Td) :: (Td, tkD w K ST S O E' at' ta st ts bk tb dv bf tf cd tc lv) :: (S, instObj 287 SD) :: (SD, stD0 w KR G SE false false) :: (G, listOf #[] ng) :: (E', listOf #[] ne) :: (ST, so) :: (O, listOf #[] no) :: rest))
   (T : Top q (looseW q []) mean mg mb h₀) (hk : cs.kind = .function) (hd : dp + 9 < recursionLimit) (hu : un + 72 < cLine) (hc : Chain Td Tk SD S G SE O E' ST) (hr : ∀ p ∈ rest, p.1 < Td) (hv : isVal bk = false)
   (hpl : ∀ c ∈ xt.cps.toList, 32 ≤ c ∧ c ≤ 126) (hxl : xt.length ≤ 50)
   (hret : ∀ (gv : List Value) (ng' : Nat) (all : List (Addr × Obj)) (h' : Heap) (tk' : Nat), SignsAre gv xt.cps.toList → Sink w Tk Td S SD G E' O ST bk dv [] rest all → Dis Tk Td S SD G E' ST all → DisF Tk Td S SD G E' ST all → Fr h₀ L h' m → News h₀ L h' ((Tk, instObj 450 Td) :: (Td, tkD w K ST S O E' at' ta st ts bk tb dv bf tf cd tc lv) :: (S, instObj 287 SD) :: (SD, stD0 w KR G SE false false) :: (G, listOf gv.toArray ng') :: (E', listOf #[] ne) :: (ST, so) :: all) → Q .none { s with heap := h', toks := tk' })
    : wpAny (model rw'.row.toRowW.prog w) (ktrTop dp un gd cn cs L a ccd cl outer) (call (.ref 313) [.ref Tk, .str xt tx]) Q E s := by
  obtain ⟨d1, d2, d3⟩ := dis_out (o := listOf #[] no) hc hr
  exact feed_claim (gv := []) (ev := []) (ret := false) B F X N T hk hd hu d1 d2 hpl hxl fun gv' ng' h' tk' hs F' N' => hret gv' ng' _ h' tk' hs (.out (ovs := []) hv .nil d3) d1 d2 F' N'
theorem feed_val {w : World} {mean : ExcName → Option Value} {mg mb : PySem.Str → Option Value} {dp un : Nat} {gd : Option (List Code)} {cn : PySem.Str} {cs : Scope} {a : Addr} {ccd : Value} {cl : List (PySem.Str × Addr)} {outer : List Env} {A₀ : Around} {base h₀ : Heap} {L : Addr} {m : PySem.Str → Option Value} {s : Shared} {Q E : Value → Shared → Prop} {Tk Td S SD ST G E' O SE : Addr} {gv ev : List Value} {K : KT} {KR : KR} {so : Obj} {ng ne : Nat} {ret : Bool} {at' cd : Int} {ta ts tb tf tc : Tok} {st bk bf : PySem.Str} {dv lv : Value} {rest : List (Addr × Obj)} {xt : PySem.Str} {tx : Tok} {Da DD AT I : Addr} {KD : KD} {vk vn vt : Value} {na ni no : Nat} {e1 v : PySem.Str} {t1 tv : Tok}
   (B : Below A₀ base outer h₀) (F : Fr h₀ L s.heap m) (X : (Mine.top.heap_1 w.params).In h₀) (N : News h₀ L s.heap ((Tk, instObj 450 Td) :: (Td, tkD w K ST S O E' at' ta st ts bk tb (.ref Da) bf tf cd tc lv) :: (S, instObj 287 SD) :: (SD, stD0 w KR G SE false false) :: (G, listOf #[] ng) :: (E', listOf #[] ne) :: (ST, so) :: (Da, instObj 506 DD) :: (DD, dfD w KD vk vn vt AT) :: (AT, listOf #[.ref I] na) :: (I, listOf #[.str e1 t1, .str v tv, .bool true] ni) :: (O, listOf #[] no) :: rest))
   (T : Top q (looseW q []) mean mg mb h₀) (hk : cs.kind = .function) (hd : dp + 9 < recursionLimit) (hu : un + 72 < cLine) (hc : Chain Td Tk SD S G SE O E' ST) (c1 : @LT.lt Nat _ E' DD) (c2 : @LT.lt Nat _ DD Da) (c3 : @LT.lt Nat _ Da AT) (c4 : @LT.lt Nat _ AT I) (hr : ∀ p ∈ rest, p.1 < Td) (hv : isVal bk = true)
   (he : e1 = PySem.Str.ofString "") (hvv : v.cps.toList = [122]) (hpl : ∀ c ∈ xt.cps.toList, 32 ≤ c ∧ c ≤ 126) (hxl : xt.length ≤ 50)
   (hret : ∀ (gv : List Value) (ng' : Nat) (all : List (Addr × Obj)) (h' : Heap) (tk' : Nat), SignsAre gv xt.cps.toList → Sink w Tk Td S SD G E' O ST bk (.ref Da) [] rest all → Dis Tk Td S SD G E' ST all → DisF Tk Td S SD G E' ST all → Fr h₀ L h' m → News h₀ L h' ((Tk, instObj 450 Td) :: (Td, tkD w K ST S O E' at' ta st ts bk tb (.ref Da) bf tf cd tc lv) :: (S, instObj 287 SD) :: (SD, stD0 w KR G SE false false) :: (G, listOf gv.toArray ng') :: (E', listOf #[] ne) :: (ST, so) :: all) → Q .none { s with heap := h', toks := tk' })
    : wpAny (model rw'.row.toRowW.prog w) (ktrTop dp un gd cn cs L a ccd cl outer) (call (.ref 313) [.ref Tk, .str xt tx]) Q E s := by
  obtain ⟨d1, d2, d3⟩ := dis_val (o1 := instObj 506 DD) (o2 := dfD w KD vk vn vt AT) (o3 := listOf #[.ref I] na) (o4 := listOf #[.str e1 t1, .str v tv, .bool true] ni) (o5 := listOf #[] no) hc c1 c2 c3 c4 hr
  exact feed_claim (gv := []) (ev := []) (ret := false) B F X N T hk hd hu d1 d2 hpl hxl fun gv' ng' h' tk' hs F' N' => hret gv' ng' _ h' tk' hs (.val hv rfl he hvv d3) d1 d2 F' N'

theorem rsL2 : True := by
  k_with_none
  k_with "kne" => (refine neN ?_; (try dsimp only); first | with_reducible assumption | with_reducible exact Ne.symm (by with_reducible assumption) | (refine Nat.ne_of_lt ?_; (first | with_reducible assumption | with_reducible exact And.left (by with_reducible assumption) | with_reducible exact And.left (And.right (by with_reducible assumption)) | with_reducible exact And.left (And.right (And.right (by with_reducible assumption))) | with_reducible exact And.left (And.right (And.right (And.right (by with_reducible assumption)))) | with_reducible exact And.left (And.right (And.right (And.right (And.right (by with_reducible assumption))))) | with_reducible exact And.left (And.right (And.right (And.right (And.right (And.right (by with_reducible assumption)))))) | with_reducible exact And.left (And.right (And.right (And.right (And.right (And.right (And.right (by with_reducible assumption))))))) | with_reducible exact And.left (And.right (And.right (And.right (And.right (And.right (And.right (And.right (by with_reducible assumption)))))))) | with_reducible exact And.left (And.right (And.right (And.right (And.right (And.right (And.right (And.right (And.right (by with_reducible assumption))))))))) | with_reducible exact And.left (And.right (And.right (And.right (And.right (And.right (And.right (And.right (And.right (And.right (by with_reducible assumption)))))))))) | with_reducible exact And.left (And.right (And.right (And.right (And.right (And.right (And.right (And.right (And.right (And.right (And.right (by with_reducible assumption))))))))))) | with_reducible exact And.left (And.right (And.right (And.right (And.right (And.right (And.right (And.right (And.right (And.right (And.right (And.right (by with_reducible assumption)))))))))))) | with_reducible exact And.left (And.right (And.right (And.right (And.right (And.right (And.right (And.right (And.right (And.right (And.right (And.right (And.right (by with_reducible assumption))))))))))))) | with_reducible exact (And.right (by with_reducible assumption)) | with_reducible exact (And.right (And.right (by with_reducible assumption))) | with_reducible exact (And.right (And.right (And.right (by with_reducible assumption)))) | with_reducible exact (And.right (And.right (And.right (And.right (by with_reducible assumption))))) | with_reducible exact (And.right (And.right (And.right (And.right (And.right (by with_reducible assumption)))))) | with_reducible exact (And.right (And.right (And.right (And.right (And.right (And.right (by with_reducible assumption))))))))) | (refine Nat.ne_of_gt ?_; (first | with_reducible assumption | with_reducible exact And.left (by with_reducible assumption) | with_reducible exact And.left (And.right (by with_reducible assumption)) | with_reducible exact And.left (And.right (And.right (by with_reducible assumption))) | with_reducible exact And.left (And.right (And.right (And.right (by with_reducible assumption)))) | with_reducible exact And.left (And.right (And.right (And.right (And.right (by with_reducible assumption))))) | with_reducible exact And.left (And.right (And.right (And.right (And.right (And.right (by with_reducible assumption)))))) | with_reducible exact And.left (And.right (And.right (And.right (And.right (And.right (And.right (by with_reducible assumption))))))) | with_reducible exact And.left (And.right (And.right (And.right (And.right (And.right (And.right (And.right (by with_reducible assumption)))))))) | with_reducible exact And.left (And.right (And.right (And.right (And.right (And.right (And.right (And.right (And.right (by with_reducible assumption))))))))) | with_reducible exact And.left (And.right (And.right (And.right (And.right (And.right (And.right (And.right (And.right (And.right (by with_reducible assumption)))))))))) | with_reducible exact And.left (And.right (And.right (And.right (And.right (And.right (And.right (And.right (And.right (And.right (And.right (by with_reducible assumption))))))))))) | with_reducible exact And.left (And.right (And.right (And.right (And.right (And.right (And.right (And.right (And.right (And.right (And.right (And.right (by with_reducible assumption)))))))))))) | with_reducible exact And.left (And.right (And.right (And.right (And.right (And.right (And.right (And.right (And.right (And.right (And.right (And.right (And.right (by with_reducible assumption))))))))))))) | with_reducible exact (And.right (by with_reducible assumption)) | with_reducible exact (And.right (And.right (by with_reducible assumption))) | with_reducible exact (And.right (And.right (And.right (by with_reducible assumption)))) | with_reducible exact (And.right (And.right (And.right (And.right (by with_reducible assumption))))) | with_reducible exact (And.right (And.right (And.right (And.right (And.right (by with_reducible assumption)))))) | with_reducible exact (And.right (And.right (And.right (And.right (And.right (And.right (by with_reducible assumption))))))))) | omega)
  k_with "mcall" => ((with_reducible show wpAny _ _ (call (Value.ref (nat_lit 84)) [Value.int _ _]) _ _ _); k_dflt (refine' c1_claim ?k1 ?k2 ?k3 ?k4 ?k5 ?k6 ?k7 ?k8 ?kp ?_; (case k1 => k_asm); (case k2 => k_asm); (case k3 => k_asm); (case k4 => k_asm); (case k5 => k_asm); (case k6 => first | exact rfl | assumption); (case k7 => ktr_room); (case k8 => ktr_units); (case kp => omega)); intro t9 h9 tk9 F9 N9; (have hc19 := c1_room (by assumption) (by omega)); (try dsimp only); (try k_fold))
  k_with "mcall" => ((with_reducible show wpAny _ _ (call (Value.ref (nat_lit 91)) [Value.int _ _]) _ _ _); k_dflt (refine' numref_claim ?k1 ?k2 ?k3 ?k4 ?k5 ?k6 ?k7 ?k8 ?kp ?_; (case k1 => k_asm); (case k2 => k_asm); (case k3 => k_asm); (case k4 => k_asm); (case k5 => k_asm); (case k6 => first | exact rfl | assumption); (case k7 => ktr_room); (case k8 => ktr_units); (case kp => omega)); intro D9 o9 h9 tk9 P9 F9 N9 l9; (try k_lt l9); k_dflt (unfold PairIs at P9; rcases P9 with ⟨t19, c19, hf9, he9⟩ | ⟨t19, f9, t29, c19, hf9, he9⟩); all_goals ((subst he9); (try dsimp only); (try k_fold)))
  k_with "mcall" => ((with_reducible show wpAny _ _ (call (Value.ref (nat_lit 531)) [Value.int _ _]) _ _ _); k_dflt (refine' meant_claim ?k1 ?k2 ?k3 ?k4 ?k5 ?k6 ?k7 ?k8 ?kp ?_; (case k1 => k_asm); (case k2 => k_asm); (case k3 => k_asm); (case k4 => k_asm); (case k5 => k_asm); (case k6 => first | exact rfl | assumption); (case k7 => ktr_room); (case k8 => ktr_units); (case kp => omega)); intro D9 o9 h9 tk9 P9 F9 N9 l9; (try k_lt l9); k_dflt (unfold PairIs at P9; rcases P9 with ⟨t19, c19, hf9, he9⟩ | ⟨t19, f9, t29, c19, hf9, he9⟩); all_goals ((subst he9); (try dsimp only); (try k_fold)))
  k_with "mcall" => ((with_reducible show wpAny _ _ (call (Value.ref (nat_lit 524)) [Value.int _ _, Value.int _ _]) _ _ _); k_dflt (refine' lawCode_claim ?k1 ?k2 ?k3 ?k4 ?k5 ?k6 ?k7 ?k8 ?kp ?kq ?_; (case k1 => k_asm); (case k2 => k_asm); (case k3 => k_asm); (case k4 => k_asm); (case k5 => k_asm); (case k6 => first | exact rfl | assumption); (case k7 => ktr_room); (case k8 => ktr_units); (case kp => with_reducible assumption); (case kq => with_reducible assumption)); intro c9 t9 h9 tk9 hlo9 hhi9 F9 N9; (try dsimp only); (try k_fold))
  k_with "mcall" => ((with_reducible show wpAny _ _ (call (Value.ref (nat_lit 538)) [Value.int _ _, Value.int _ _, Value.int _ _]) _ _ _); k_dflt (first | (refine' digits16_claim ?k1 ?k2 ?k3 ?k4 ?k5 ?k6 ?k7 ?k8 ?kp ?kq ?_; (case k1 => k_asm); (case k2 => k_asm); (case k3 => k_asm); (case k4 => k_asm); (case k5 => k_asm); (case k6 => first | exact rfl | assumption); (case k7 => ktr_room); (case k8 => ktr_units); (case kp => with_reducible assumption); (case kq => with_reducible assumption)) | (refine' digits10_claim ?k1 ?k2 ?k3 ?k4 ?k5 ?k6 ?k7 ?k8 ?kp ?kq ?_; (case k1 => k_asm); (case k2 => k_asm); (case k3 => k_asm); (case k4 => k_asm); (case k5 => k_asm); (case k6 => first | exact rfl | assumption); (case k7 => ktr_room); (case k8 => ktr_units); (case kp => with_reducible assumption); (case kq => with_reducible assumption))); intro d9 t9 h9 tk9 I9 E9 hl9 F9 N9; (try dsimp only); (try k_fold))
  k_with "mcall" => ((with_reducible show wpAny _ _ (call (Value.ref (nat_lit 517)) [Value.ref _, Value.int _ _]) _ _ _); k_dflt (refine' pick_claim ?k1 ?k2 ?k3 ?k4 ?k5 ?k6 ?k7 ?k8 ?kt ?ke ?kp ?kq ?_; (case k1 => k_asm); (case k2 => k_asm); (case k3 => k_asm); (case k4 => k_asm); (case k5 => k_asm); (case k6 => first | exact rfl | assumption); (case k7 => ktr_room); (case k8 => ktr_units); (case kt => repeat' (first | exact Take1.head | apply Take1.tail)); (case ke => k_all); (case kp => decide); (case kq => intro v9; exact PyProof.noPylong_of_log2 (by decide +kernel))); intro r9 v9 t9 t99 c9 h9 tk9 hlo9 hhi9 F9 N9; (try dsimp only); (try k_fold))
  k_with "mcall" => ((with_reducible show wpAny _ _ (call (Value.ref (nat_lit 545)) [Value.int _ _, Value.int _ _]) _ _ _); k_dflt (refine' case_claim ?k1 ?k2 ?k3 ?k4 ?k5 ?k6 ?k7 ?k8 ?kp ?kq ?_; (case k1 => k_asm); (case k2 => k_asm); (case k3 => k_asm); (case k4 => k_asm); (case k5 => k_asm); (case k6 => first | exact rfl | assumption); (case k7 => ktr_room); (case k8 => ktr_units); (case kp => omega); (case kq => omega)); intro D9 o9 h9 tk9 P9 F9 N9 l9; (try k_lt l9); k_dflt (unfold CaseObj at P9; obtain ⟨b9, hx9, ds9, tl9, bh9, code9, head9, tail9, behind9, back9, C9, cv9, t91, t92, t93, t94, n9, hcv9, he9⟩ := P9); (subst he9); (have hlen9 := (CaseOk.len C9).1); (have hlen91 := (CaseOk.len C9).2.1); (have hlen92 := (CaseOk.len C9).2.2); k_dflt (rcases hcv9 with ⟨he8, he7⟩ | ⟨c9, t95, he8, he7⟩); all_goals ((subst he8); (subst he7); (try have hc9 := CaseOk.nonneg C9); (try dsimp only); (try k_fold)))
  k_with "mcall" => ((with_reducible show wpAny _ _ (call (Value.ref (nat_lit 552)) [_, Value.str _ _, Value.str _ _]) _ _ _); k_dflt (first | (refine' due_claim_none ?k1 ?k2 ?k3 ?k4 ?k5 ?k6 ?k7 ?k8 ?kp ?_; (case k1 => k_asm); (case k2 => k_asm); (case k3 => k_asm); (case k4 => k_asm); (case k5 => k_asm); (case k6 => first | exact rfl | assumption); (case k7 => ktr_room); (case k8 => ktr_units); (case kp => with_reducible exact Nat.le_trans (by with_reducible assumption) (by decide))) | (refine' due_claim_some ?k1 ?k2 ?k3 ?k4 ?k5 ?k6 ?k7 ?k8 ?kp ?kq ?_; (case k1 => k_asm); (case k2 => k_asm); (case k3 => k_asm); (case k4 => k_asm); (case k5 => k_asm); (case k6 => first | exact rfl | assumption); (case k7 => ktr_room); (case k8 => ktr_units); (case kp => with_reducible exact Nat.le_trans (by with_reducible assumption) (by decide)); (case kq => with_reducible assumption))); intro D9 EL9 o9 e9 X9 h9 tk9 P9 F9 N9 l9; (have l91 := fun p hp => (l9 p hp).1); (have l92 := fun p hp => (l9 p hp).2); (try k_lt l91); (try k_lt l92); k_dflt (unfold DueObj at P9; obtain ⟨t91, t92, n9, vs9, k9, he9, he8, DA9⟩ := P9); (subst he9); (subst he8); (try dsimp only); (try k_fold))
  k_with "mcall" => ((with_reducible show wpAny _ _ (call (Value.ref (nat_lit 327)) _) _ _ _); k_dflt (refine' next_claim ?k1 ?k2 ?k3 ?k4 ?k5 ?k6 ?k7 ?k8 ?kD ?kS ?kL ?k0 ?_; (case k1 => k_asm); (case k2 => k_asm); (case k3 => k_asm); (case k4 => k_asm); (case k5 => k_asm); (case k6 => first | exact rfl | assumption); (case k7 => ktr_room); (case k8 => ktr_units); (case kD => assumption); (case kS => assumption); (case kL => assumption); (case k0 => assumption)); intro t9 ta9 h9 tk9 F9 N9; (try rw [hc]); (try dsimp only); (try k_fold))
  k_with "mcall" => ((with_reducible show wpAny _ _ (call (Value.ref (nat_lit 341)) _) _ _ _); k_dflt (refine' again_claim ?k1 ?k2 ?k3 ?k4 ?k5 ?k6 ?k7 ?k8 ?kD ?_; (case k1 => k_asm); (case k2 => k_asm); (case k3 => k_asm); (case k4 => k_asm); (case k5 => k_asm); (case k6 => first | exact rfl | assumption); (case k7 => ktr_room); (case k8 => ktr_units); (case kD => assumption)); intro ta9 ts9 h9 tk9 F9 N9; (try dsimp only); (try k_fold))
  k_with "mcall" => ((with_reducible show wpAny _ _ (call (Value.ref (nat_lit 348)) _) _ _ _); k_dflt (refine' error2_claim ?k1 ?k2 ?k3 ?k4 ?k5 ?k6 ?k7 ?k8 ?kD ?kS ?kE ?kL ?_; (case k1 => k_asm); (case k2 => k_asm); (case k3 => k_asm); (case k4 => k_asm); (case k5 => k_asm); (case k6 => first | exact rfl | assumption); (case k7 => ktr_room); (case k8 => ktr_units); (case kD => assumption); (case kS => assumption); (case kE => assumption); (case kL => assumption)); intro ev9 rest9 all9 ne9 h9 tk9 SK9 D9 hde9 hsub9 F9 N9; (have hdd9 := D9.d); (try dsimp only); (try k_fold))
  k_with "mcall" => ((with_reducible show wpAny _ _ (call (Value.ref (nat_lit 426)) _) _ _ _); k_dflt (refine' flush_claim ?k1 ?k2 ?k3 ?k4 ?k5 ?k6 ?k7 ?k8 ?kD ?kS ?kE ?kL ?_; (case k1 => k_asm); (case k2 => k_asm); (case k3 => k_asm); (case k4 => k_asm); (case k5 => k_asm); (case k6 => first | exact rfl | assumption); (case k7 => ktr_room); (case k8 => ktr_units); (case kD => assumption); (case kS => assumption); (case kE => assumption); (case kL => assumption)); intro all8 rest8 tf8 h8 tk8 hsub8 D8 SK8 F8 N8; (have hdd8 := D8.d); (try dsimp only); (try k_fold))
  k_with "mcall" => ((with_reducible show wpAny _ _ (call (Value.ref (nat_lit 42)) _) _ _ _); k_dflt (refine' ishex_claim ?k1 ?k2 ?k3 ?k4 ?k5 ?k6 ?k7 ?k8 ?kC ?_; (case k1 => k_asm); (case k2 => k_asm); (case k3 => k_asm); (case k4 => k_asm); (case k5 => k_asm); (case k6 => first | exact rfl | assumption); (case k7 => ktr_room); (case k8 => ktr_units); (case kC => first | assumption | decide)); intro b9 h9 tk9 hb9 F9 N9; rw [hfit] at hb9; subst hb9; (try dsimp only); (try k_fold))
  k_with "mcall" => ((with_reducible show wpAny _ _ (call (Value.ref (nat_lit 35)) _) _ _ _); k_dflt (refine' isdig_claim ?k1 ?k2 ?k3 ?k4 ?k5 ?k6 ?k7 ?k8 ?kC ?_; (case k1 => k_asm); (case k2 => k_asm); (case k3 => k_asm); (case k4 => k_asm); (case k5 => k_asm); (case k6 => first | exact rfl | assumption); (case k7 => ktr_room); (case k8 => ktr_units); (case kC => first | assumption | decide)); intro b9 h9 tk9 hb9 F9 N9; rw [hfit] at hb9; subst hb9; (try dsimp only); (try k_fold))
  k_with "mcall" => ((with_reducible show wpAny _ _ (call (Value.ref (nat_lit 56)) _) _ _ _); k_dflt (refine' dval_claim ?k1 ?k2 ?k3 ?k4 ?k5 ?k6 ?k7 ?k8 ?kC ?_; (case k1 => k_asm); (case k2 => k_asm); (case k3 => k_asm); (case k4 => k_asm); (case k5 => k_asm); (case k6 => first | exact rfl | assumption); (case k7 => ktr_room); (case k8 => ktr_units); (case kC => assumption)); intro t9 h9 tk9 F9 N9; (try dsimp only); (try k_fold))
  k_with "eval Call" => (k_here; k_dflt (refine Call_ ?_))
  k_with "compareOp NotIn str ref" => (k_here; k_dflt (first | refine kdg_notin (knd := PySem.strKind _ _) (by k_asm) (by k_mem) (by k_asm) (by k_asm) (strKind_is _ _ _ _) true (by rfl) ?_ | refine kdg_notin (knd := PySem.strKind _ _) (by k_asm) (by k_mem) (by k_asm) (by k_asm) (strKind_is _ _ _ _) false (by rfl) ?_); (try dsimp only [Bool.not_true, Bool.not_false]))
  k_with "subscriptTail" => (k_here; (with_reducible show wpAny _ _ (subscriptTail _ _ (Value.ref _) (Value.str _ _)) _ _ _); k_dflt (refine kda_item (knd := PySem.strKind _ _) (by k_asm) (by k_mem) (by k_asm) (strKind_is _ _ _ _) (by rfl) ?_))
  k_with "mcall" => ((with_reducible show wpAny _ _ (call (Value.ref (nat_lit 91)) _) _ _ _); k_dflt (refine' numref2_claim ?k1 ?k2 ?k3 ?k4 ?k5 ?k6 ?k7 ?k8 ?kD ?kS ?kE ?kL ?_; (case k1 => k_asm); (case k2 => k_asm); (case k3 => k_asm); (case k4 => k_asm); (case k5 => k_asm); (case k6 => first | exact rfl | assumption); (case k7 => ktr_room); (case k8 => ktr_units); (case kD => assumption); (case kS => assumption); (case kE => assumption); (case kL => assumption)); intro Dn7 o7 all7 h7 tk7 P7 SK7 D7 hde7 F7 N7; (k_extra "mpair"); (have hm7 := Sink.sub SK7 _ List.mem_cons_self); (have hdd7 := D7.d); (try dsimp only); (try k_fold))
  k_with "mtup" => k_dflt (refine pair_item (News.isTup (by k_asm) (mem_led (by first | exact Sink.sub SK9 _ (hsub9 _ List.mem_cons_self) | assumption))) rfl ?_)
  k_with "mcall" => ((with_reducible show wpAny _ _ (call (Value.ref (nat_lit 440)) _) _ _ _); k_dflt (first | (refine' ready_t ?k1 ?k2 ?k3 ?k4 ?k5 ?k6 ?k7 ?k8 ?kD ?kS ?kL ?k0 ?_; (case k1 => k_asm); (case k2 => k_asm); (case k3 => k_asm); (case k4 => k_asm); (case k5 => k_asm); (case k6 => first | exact rfl | assumption); (case k7 => ktr_room); (case k8 => ktr_units); (case kD => assumption); (case kS => assumption); (case kL => assumption); (case k0 => assumption)) | (refine' ready_f ?k1 ?k2 ?k3 ?k4 ?k5 ?k6 ?k7 ?k8 ?kD ?kS ?kL ?k0 ?_; (case k1 => k_asm); (case k2 => k_asm); (case k3 => k_asm); (case k4 => k_asm); (case k5 => k_asm); (case k6 => first | exact rfl | assumption); (case k7 => ktr_room); (case k8 => ktr_units); (case kD => assumption); (case kS => assumption); (case kL => assumption); (case k0 => assumption))); intro h9 tk9 F9 N9; (try dsimp only); (try k_fold))
  k_with "mcall" => ((with_reducible show wpAny _ _ (call (Value.ref (nat_lit 433)) _) _ _ _); k_dflt (refine' step_all ?k1 ?k2 ?k3 ?k4 ?k5 ?k6 ?k7 ?k8 ?kD ?kS ?kE ?kL ?kO ?kP ?kG ?kH ?k0 ?kC ?kI ?kJ ?_; (case k1 => k_asm); (case k2 => k_asm); (case k3 => k_asm); (case k4 => k_asm); (case k5 => k_asm); (case k6 => first | exact rfl | assumption); (case k7 => ktr_room); (case k8 => ktr_units); (case kD => assumption); (case kS => assumption); (case kE => assumption); (case kL => assumption); (case kO => assumption); (case kP => assumption); (case kG => assumption); (case kH => assumption); (case k0 => assumption); (case kC => assumption); (case kI => assumption); (case kJ => assumption)); intro n2 at2 cd2 ta2 ts2 tf2 tc2 st2 bf2 ev2 ne2 all2 rest2 errs2 txt2 h2 tk2 hlt2 P2 h02 SK2 D2 hde2 hel2 hsub2 F2 N2; (try dsimp only); (try k_fold)) 
  trivial
section
variable {prog : Program} {w : World} {A : Around} {E : Value → Shared → Prop} {s : Shared} {h₀ : Heap} {L : Addr} {news : List (Addr × Obj)} {Q : Value → Shared → Prop}
theorem t4_ne {a c : Addr} {i : Int} {x y : PySem.Str} {b : Bool} {t1 t2 t3 u1 u2 u3 : Tok} {n1 n2 : Nat} (N : News h₀ L s.heap news)
    (h1 : (a, ({ cls := .type "tuple", data := .seq #[.int i t1, .str x t2, .str y t3, .bool b] n1 } : Obj)) ∈ news) (h2 : (c, ({ cls := .type "tuple", data := .seq #[.int i u1, .str x u2, .str y u3, .bool b] n2 } : Obj)) ∈ news)
    (hx : PyData.strOk x = true) (hy : PyData.strOk y = true) (hu : A.units + 64 < cLine) (h : Q (.bool false) s) : wpAny (model prog w) A (compareOp .NotEq (.ref a) (.ref c)) Q E s := by
  have ra : Reads s.heap (.ref a) (.tuple [.int i, .str x, .str y, .bool b]) _ := Reads.tuple (N _ h1).1 rfl rfl (.cons (.int _ _) (.cons (.str _ _) (.cons (.str _ _) (.cons (.bool _) .nil))))
  have rb : Reads s.heap (.ref c) (.tuple [.int i, .str x, .str y, .bool b]) _ := Reads.tuple (N _ h2).1 rfl rfl (.cons (.int _ _) (.cons (.str _ _) (.cons (.str _ _) (.cons (.bool _) .nil))))
  have sh : SeqAt.shaped (.tuple [.int i, .str x, .str y, .bool b]) = true := by
    have h1 : PyData.canLay0 (.tuple [.int i, .str x, .str y, .bool b]) = true := by simp [PyData.canLay0, PyData.canLayAll0, hx, hy]
    have h2 : (PyData.tuple [.int i, .str x, .str y, .bool b]).depth ≤ 64 := Nat.le_of_ble_eq_true rfl
    unfold SeqAt.shaped; rw [h1, Bool.true_and]; exact decide_eq_true h2
  have e : PyData.eqv (.tuple [.int i, .str x, .str y, .bool b]) (.tuple [.int i, .str x, .str y, .bool b]) = true := by
    simp [PyData.eqv, PyData.eqvAll]
  exact PyProof.Rows.ne_dataH ra rb sh sh hu (by rw [e]; exact h)
theorem attrs_ne {a b c d : Addr} {x y : PySem.Str} {t1 t2 u1 u2 : Tok} {n1 n2 n3 n4 : Nat} (N : News h₀ L s.heap news)
    (h1 : (a, listOf #[.ref b] n1) ∈ news) (h2 : (b, listOf #[.str x t1, .str y t2, .bool true] n2) ∈ news) (h3 : (c, listOf #[.ref d] n3) ∈ news) (h4 : (d, listOf #[.str x u1, .str y u2, .bool true] n4) ∈ news)
    (hx : PyData.strOk x = true) (hy : PyData.strOk y = true) (hu : A.units + 64 < cLine) (h : Q (.bool false) s) : wpAny (model prog w) A (compareOp .NotEq (.ref a) (.ref c)) Q E s := by
  have ra : Reads s.heap (.ref a) (.list [.list [.str x, .str y, .bool true]]) _ := Reads.list (N _ h1).1 rfl rfl (.cons (Reads.list (N _ h2).1 rfl rfl (.cons (.str _ _) (.cons (.str _ _) (.cons (.bool _) .nil)))) .nil)
  have rb : Reads s.heap (.ref c) (.list [.list [.str x, .str y, .bool true]]) _ := Reads.list (N _ h3).1 rfl rfl (.cons (Reads.list (N _ h4).1 rfl rfl (.cons (.str _ _) (.cons (.str _ _) (.cons (.bool _) .nil)))) .nil)
  have sh : SeqAt.shaped (.list [.list [.str x, .str y, .bool true]]) = true := by
    have h1 : PyData.canLay0 (.list [.list [.str x, .str y, .bool true]]) = true := by simp [PyData.canLay0, PyData.canLayAll0, hx, hy]
    have h2 : (PyData.list [.list [.str x, .str y, .bool true]]).depth ≤ 64 := Nat.le_of_ble_eq_true rfl
    unfold SeqAt.shaped; rw [h1, Bool.true_and]; exact decide_eq_true h2
  have e : PyData.eqv (.list [.list [.str x, .str y, .bool true]]) (.list [.list [.str x, .str y, .bool true]]) = true := by
    simp [PyData.eqv, PyData.eqvAll]
  exact PyProof.Rows.ne_dataH ra rb sh sh hu (by rw [e]; exact h)
end
theorem back_ok {bk : PySem.Str} (h : bk ∈ backs5) : PyData.strOk bk = true := by
  have : ∀ x ∈ backs5, PyData.strOk x = true := by decide +kernel
  exact this bk h
theorem none_ok : PyData.strOk (PySem.Str.ofString "") = true := by decide +kernel
theorem sink_out {w : World} {Tk Td S SD G E O ST : Addr} {bk : PySem.Str} {dv : Value} {txt : List Nat} {rest all : List (Addr × Obj)} (SK : Sink w Tk Td S SD G E O ST bk dv txt rest all) (h : isVal bk = false) :
    ∃ (ovs : List Value) (no : Nat), all = (O, listOf ovs.toArray no) :: rest ∧ DatAll rest ovs (txt.map charD) := by
  cases SK with
  | out _ hd _ => exact ⟨_, _, rfl, hd⟩
  | val hv _ _ _ _ => rw [h] at hv; cases hv
theorem sink_val {w : World} {Tk Td S SD G E O ST Da : Addr} {bk : PySem.Str} {txt : List Nat} {rest all : List (Addr × Obj)} (SK : Sink w Tk Td S SD G E O ST bk (.ref Da) txt rest all) (h : isVal bk = true) :
    ∃ (DD AT I : Addr) (K : KD) (vk vn vt : Value) (na ni no : Nat) (v : PySem.Str) (t1 tv : Tok), all = (Da, instObj 506 DD) :: (DD, dfD w K vk vn vt AT) :: (AT, listOf #[.ref I] na) :: (I, listOf #[.str (PySem.Str.ofString "") t1, .str v tv, .bool true] ni) :: (O, listOf #[] no) :: rest ∧ v.cps.toList = 122 :: txt := by
  cases SK with
  | out hv _ _ => rw [h] at hv; cases hv
  | val hv hdv he hvv _ => cases hdv; subst he; exact ⟨_, _, _, _, _, _, _, _, _, _, _, _, _, rfl, hvv⟩

theorem rsL3 : True := by
  k_with_none
  k_with "kne" => (refine neN ?_; (try dsimp only); first | with_reducible assumption | with_reducible exact Ne.symm (by with_reducible assumption) | (refine Nat.ne_of_lt ?_; (first | with_reducible assumption | with_reducible exact And.left (by with_reducible assumption) | with_reducible exact And.left (And.right (by with_reducible assumption)) | with_reducible exact And.left (And.right (And.right (by with_reducible assumption))) | with_reducible exact And.left (And.right (And.right (And.right (by with_reducible assumption)))) | with_reducible exact And.left (And.right (And.right (And.right (And.right (by with_reducible assumption))))) | with_reducible exact And.left (And.right (And.right (And.right (And.right (And.right (by with_reducible assumption)))))) | with_reducible exact And.left (And.right (And.right (And.right (And.right (And.right (And.right (by with_reducible assumption))))))) | with_reducible exact And.left (And.right (And.right (And.right (And.right (And.right (And.right (And.right (by with_reducible assumption)))))))) | with_reducible exact And.left (And.right (And.right (And.right (And.right (And.right (And.right (And.right (And.right (by with_reducible assumption))))))))) | with_reducible exact And.left (And.right (And.right (And.right (And.right (And.right (And.right (And.right (And.right (And.right (by with_reducible assumption)))))))))) | with_reducible exact And.left (And.right (And.right (And.right (And.right (And.right (And.right (And.right (And.right (And.right (And.right (by with_reducible assumption))))))))))) | with_reducible exact And.left (And.right (And.right (And.right (And.right (And.right (And.right (And.right (And.right (And.right (And.right (And.right (by with_reducible assumption)))))))))))) | with_reducible exact And.left (And.right (And.right (And.right (And.right (And.right (And.right (And.right (And.right (And.right (And.right (And.right (And.right (by with_reducible assumption))))))))))))) | with_reducible exact (And.right (by with_reducible assumption)) | with_reducible exact (And.right (And.right (by with_reducible assumption))) | with_reducible exact (And.right (And.right (And.right (by with_reducible assumption)))) | with_reducible exact (And.right (And.right (And.right (And.right (by with_reducible assumption))))) | with_reducible exact (And.right (And.right (And.right (And.right (And.right (by with_reducible assumption)))))) | with_reducible exact (And.right (And.right (And.right (And.right (And.right (And.right (by with_reducible assumption))))))))) | (refine Nat.ne_of_gt ?_; (first | with_reducible assumption | with_reducible exact And.left (by with_reducible assumption) | with_reducible exact And.left (And.right (by with_reducible assumption)) | with_reducible exact And.left (And.right (And.right (by with_reducible assumption))) | with_reducible exact And.left (And.right (And.right (And.right (by with_reducible assumption)))) | with_reducible exact And.left (And.right (And.right (And.right (And.right (by with_reducible assumption))))) | with_reducible exact And.left (And.right (And.right (And.right (And.right (And.right (by with_reducible assumption)))))) | with_reducible exact And.left (And.right (And.right (And.right (And.right (And.right (And.right (by with_reducible assumption))))))) | with_reducible exact And.left (And.right (And.right (And.right (And.right (And.right (And.right (And.right (by with_reducible assumption)))))))) | with_reducible exact And.left (And.right (And.right (And.right (And.right (And.right (And.right (And.right (And.right (by with_reducible assumption))))))))) | with_reducible exact And.left (And.right (And.right (And.right (And.right (And.right (And.right (And.right (And.right (And.right (by with_reducible assumption)))))))))) | with_reducible exact And.left (And.right (And.right (And.right (And.right (And.right (And.right (And.right (And.right (And.right (And.right (by with_reducible assumption))))))))))) | with_reducible exact And.left (And.right (And.right (And.right (And.right (And.right (And.right (And.right (And.right (And.right (And.right (And.right (by with_reducible assumption)))))))))))) | with_reducible exact And.left (And.right (And.right (And.right (And.right (And.right (And.right (And.right (And.right (And.right (And.right (And.right (And.right (by with_reducible assumption))))))))))))) | with_reducible exact (And.right (by with_reducible assumption)) | with_reducible exact (And.right (And.right (by with_reducible assumption))) | with_reducible exact (And.right (And.right (And.right (by with_reducible assumption)))) | with_reducible exact (And.right (And.right (And.right (And.right (by with_reducible assumption))))) | with_reducible exact (And.right (And.right (And.right (And.right (And.right (by with_reducible assumption)))))) | with_reducible exact (And.right (And.right (And.right (And.right (And.right (And.right (by with_reducible assumption))))))))) | omega)
  k_with "mcall" => ((with_reducible show wpAny _ _ (call (Value.ref (nat_lit 84)) [Value.int _ _]) _ _ _); k_dflt (refine' c1_claim ?k1 ?k2 ?k3 ?k4 ?k5 ?k6 ?k7 ?k8 ?kp ?_; (case k1 => k_asm); (case k2 => k_asm); (case k3 => k_asm); (case k4 => k_asm); (case k5 => k_asm); (case k6 => first | exact rfl | assumption); (case k7 => ktr_room); (case k8 => ktr_units); (case kp => omega)); intro t9 h9 tk9 F9 N9; (have hc19 := c1_room (by assumption) (by omega)); (try dsimp only); (try k_fold))
  k_with "mcall" => ((with_reducible show wpAny _ _ (call (Value.ref (nat_lit 91)) [Value.int _ _]) _ _ _); k_dflt (refine' numref_claim ?k1 ?k2 ?k3 ?k4 ?k5 ?k6 ?k7 ?k8 ?kp ?_; (case k1 => k_asm); (case k2 => k_asm); (case k3 => k_asm); (case k4 => k_asm); (case k5 => k_asm); (case k6 => first | exact rfl | assumption); (case k7 => ktr_room); (case k8 => ktr_units); (case kp => omega)); intro D9 o9 h9 tk9 P9 F9 N9 l9; (try k_lt l9); k_dflt (unfold PairIs at P9; rcases P9 with ⟨t19, c19, hf9, he9⟩ | ⟨t19, f9, t29, c19, hf9, he9⟩); all_goals ((subst he9); (try dsimp only); (try k_fold)))
  k_with "mcall" => ((with_reducible show wpAny _ _ (call (Value.ref (nat_lit 531)) [Value.int _ _]) _ _ _); k_dflt (refine' meant_claim ?k1 ?k2 ?k3 ?k4 ?k5 ?k6 ?k7 ?k8 ?kp ?_; (case k1 => k_asm); (case k2 => k_asm); (case k3 => k_asm); (case k4 => k_asm); (case k5 => k_asm); (case k6 => first | exact rfl | assumption); (case k7 => ktr_room); (case k8 => ktr_units); (case kp => omega)); intro D9 o9 h9 tk9 P9 F9 N9 l9; (try k_lt l9); k_dflt (unfold PairIs at P9; rcases P9 with ⟨t19, c19, hf9, he9⟩ | ⟨t19, f9, t29, c19, hf9, he9⟩); all_goals ((subst he9); (try dsimp only); (try k_fold)))
  k_with "mcall" => ((with_reducible show wpAny _ _ (call (Value.ref (nat_lit 524)) [Value.int _ _, Value.int _ _]) _ _ _); k_dflt (refine' lawCode_claim ?k1 ?k2 ?k3 ?k4 ?k5 ?k6 ?k7 ?k8 ?kp ?kq ?_; (case k1 => k_asm); (case k2 => k_asm); (case k3 => k_asm); (case k4 => k_asm); (case k5 => k_asm); (case k6 => first | exact rfl | assumption); (case k7 => ktr_room); (case k8 => ktr_units); (case kp => with_reducible assumption); (case kq => with_reducible assumption)); intro c9 t9 h9 tk9 hlo9 hhi9 F9 N9; (try dsimp only); (try k_fold))
  k_with "mcall" => ((with_reducible show wpAny _ _ (call (Value.ref (nat_lit 538)) [Value.int _ _, Value.int _ _, Value.int _ _]) _ _ _); k_dflt (first | (refine' digits16_claim ?k1 ?k2 ?k3 ?k4 ?k5 ?k6 ?k7 ?k8 ?kp ?kq ?_; (case k1 => k_asm); (case k2 => k_asm); (case k3 => k_asm); (case k4 => k_asm); (case k5 => k_asm); (case k6 => first | exact rfl | assumption); (case k7 => ktr_room); (case k8 => ktr_units); (case kp => with_reducible assumption); (case kq => with_reducible assumption)) | (refine' digits10_claim ?k1 ?k2 ?k3 ?k4 ?k5 ?k6 ?k7 ?k8 ?kp ?kq ?_; (case k1 => k_asm); (case k2 => k_asm); (case k3 => k_asm); (case k4 => k_asm); (case k5 => k_asm); (case k6 => first | exact rfl | assumption); (case k7 => ktr_room); (case k8 => ktr_units); (case kp => with_reducible assumption); (case kq => with_reducible assumption))); intro d9 t9 h9 tk9 I9 E9 hl9 F9 N9; (try dsimp only); (try k_fold))
  k_with "mcall" => ((with_reducible show wpAny _ _ (call (Value.ref (nat_lit 517)) [Value.ref _, Value.int _ _]) _ _ _); k_dflt (refine' pick_claim ?k1 ?k2 ?k3 ?k4 ?k5 ?k6 ?k7 ?k8 ?kt ?ke ?kp ?kq ?_; (case k1 => k_asm); (case k2 => k_asm); (case k3 => k_asm); (case k4 => k_asm); (case k5 => k_asm); (case k6 => first | exact rfl | assumption); (case k7 => ktr_room); (case k8 => ktr_units); (case kt => repeat' (first | exact Take1.head | apply Take1.tail)); (case ke => k_all); (case kp => decide); (case kq => intro v9; exact PyProof.noPylong_of_log2 (by decide +kernel))); intro r9 v9 t9 t99 c9 h9 tk9 hlo9 hhi9 F9 N9; (try dsimp only); (try k_fold))
  k_with "mcall" => ((with_reducible show wpAny _ _ (call (Value.ref (nat_lit 545)) [Value.int _ _, Value.int _ _]) _ _ _); k_dflt (refine' case_claim ?k1 ?k2 ?k3 ?k4 ?k5 ?k6 ?k7 ?k8 ?kp ?kq ?_; (case k1 => k_asm); (case k2 => k_asm); (case k3 => k_asm); (case k4 => k_asm); (case k5 => k_asm); (case k6 => first | exact rfl | assumption); (case k7 => ktr_room); (case k8 => ktr_units); (case kp => omega); (case kq => omega)); intro D9 o9 h9 tk9 P9 F9 N9 l9; (try k_lt l9); k_dflt (unfold CaseObj at P9; obtain ⟨b9, hx9, ds9, tl9, bh9, code9, head9, tail9, behind9, back9, C9, cv9, t91, t92, t93, t94, n9, hcv9, he9⟩ := P9); (subst he9); (have hlen9 := (CaseOk.len C9).1); (have hlen91 := (CaseOk.len C9).2.1); (have hlen92 := (CaseOk.len C9).2.2); k_dflt (rcases hcv9 with ⟨he8, he7⟩ | ⟨c9, t95, he8, he7⟩); all_goals ((subst he8); (subst he7); (try have hc9 := CaseOk.nonneg C9); (try dsimp only); (try k_fold)))
  k_with "mcall" => ((with_reducible show wpAny _ _ (call (Value.ref (nat_lit 552)) [_, Value.str _ _, Value.str _ _]) _ _ _); k_dflt (first | (refine' due_claim_none ?k1 ?k2 ?k3 ?k4 ?k5 ?k6 ?k7 ?k8 ?kp ?_; (case k1 => k_asm); (case k2 => k_asm); (case k3 => k_asm); (case k4 => k_asm); (case k5 => k_asm); (case k6 => first | exact rfl | assumption); (case k7 => ktr_room); (case k8 => ktr_units); (case kp => with_reducible exact Nat.le_trans (by with_reducible assumption) (by decide))) | (refine' due_claim_some ?k1 ?k2 ?k3 ?k4 ?k5 ?k6 ?k7 ?k8 ?kp ?kq ?_; (case k1 => k_asm); (case k2 => k_asm); (case k3 => k_asm); (case k4 => k_asm); (case k5 => k_asm); (case k6 => first | exact rfl | assumption); (case k7 => ktr_room); (case k8 => ktr_units); (case kp => with_reducible exact Nat.le_trans (by with_reducible assumption) (by decide)); (case kq => with_reducible assumption))); intro D9 EL9 o9 e9 X9 h9 tk9 P9 F9 N9 l9; (have l91 := fun p hp => (l9 p hp).1); (have l92 := fun p hp => (l9 p hp).2); (try k_lt l91); (try k_lt l92); k_dflt (unfold DueObj at P9; obtain ⟨t91, t92, n9, vs9, k9, he9, he8, DA9⟩ := P9); (subst he9); (subst he8); (try dsimp only); (try k_fold))
  k_with "mcall" => ((with_reducible show wpAny _ _ (call (Value.ref (nat_lit 327)) _) _ _ _); k_dflt (refine' next_claim ?k1 ?k2 ?k3 ?k4 ?k5 ?k6 ?k7 ?k8 ?kD ?kS ?kL ?k0 ?_; (case k1 => k_asm); (case k2 => k_asm); (case k3 => k_asm); (case k4 => k_asm); (case k5 => k_asm); (case k6 => first | exact rfl | assumption); (case k7 => ktr_room); (case k8 => ktr_units); (case kD => assumption); (case kS => assumption); (case kL => assumption); (case k0 => assumption)); intro t9 ta9 h9 tk9 F9 N9; (try rw [hc]); (try dsimp only); (try k_fold))
  k_with "mcall" => ((with_reducible show wpAny _ _ (call (Value.ref (nat_lit 341)) _) _ _ _); k_dflt (refine' again_claim ?k1 ?k2 ?k3 ?k4 ?k5 ?k6 ?k7 ?k8 ?kD ?_; (case k1 => k_asm); (case k2 => k_asm); (case k3 => k_asm); (case k4 => k_asm); (case k5 => k_asm); (case k6 => first | exact rfl | assumption); (case k7 => ktr_room); (case k8 => ktr_units); (case kD => assumption)); intro ta9 ts9 h9 tk9 F9 N9; (try dsimp only); (try k_fold))
  k_with "mcall" => ((with_reducible show wpAny _ _ (call (Value.ref (nat_lit 348)) _) _ _ _); k_dflt (refine' error2_claim ?k1 ?k2 ?k3 ?k4 ?k5 ?k6 ?k7 ?k8 ?kD ?kS ?kE ?kL ?_; (case k1 => k_asm); (case k2 => k_asm); (case k3 => k_asm); (case k4 => k_asm); (case k5 => k_asm); (case k6 => first | exact rfl | assumption); (case k7 => ktr_room); (case k8 => ktr_units); (case kD => assumption); (case kS => assumption); (case kE => assumption); (case kL => assumption)); intro ev9 rest9 all9 ne9 h9 tk9 SK9 D9 hde9 hsub9 F9 N9; (have hdd9 := D9.d); (try dsimp only); (try k_fold))
  k_with "mcall" => ((with_reducible show wpAny _ _ (call (Value.ref (nat_lit 426)) _) _ _ _); k_dflt (refine' flush_claim ?k1 ?k2 ?k3 ?k4 ?k5 ?k6 ?k7 ?k8 ?kD ?kS ?kE ?kL ?_; (case k1 => k_asm); (case k2 => k_asm); (case k3 => k_asm); (case k4 => k_asm); (case k5 => k_asm); (case k6 => first | exact rfl | assumption); (case k7 => ktr_room); (case k8 => ktr_units); (case kD => assumption); (case kS => assumption); (case kE => assumption); (case kL => assumption)); intro all8 rest8 tf8 h8 tk8 hsub8 D8 SK8 F8 N8; (have hdd8 := D8.d); (try dsimp only); (try k_fold))
  k_with "mcall" => ((with_reducible show wpAny _ _ (call (Value.ref (nat_lit 42)) _) _ _ _); k_dflt (refine' ishex_claim ?k1 ?k2 ?k3 ?k4 ?k5 ?k6 ?k7 ?k8 ?kC ?_; (case k1 => k_asm); (case k2 => k_asm); (case k3 => k_asm); (case k4 => k_asm); (case k5 => k_asm); (case k6 => first | exact rfl | assumption); (case k7 => ktr_room); (case k8 => ktr_units); (case kC => first | assumption | decide)); intro b9 h9 tk9 hb9 F9 N9; rw [hfit] at hb9; subst hb9; (try dsimp only); (try k_fold))
  k_with "mcall" => ((with_reducible show wpAny _ _ (call (Value.ref (nat_lit 35)) _) _ _ _); k_dflt (refine' isdig_claim ?k1 ?k2 ?k3 ?k4 ?k5 ?k6 ?k7 ?k8 ?kC ?_; (case k1 => k_asm); (case k2 => k_asm); (case k3 => k_asm); (case k4 => k_asm); (case k5 => k_asm); (case k6 => first | exact rfl | assumption); (case k7 => ktr_room); (case k8 => ktr_units); (case kC => first | assumption | decide)); intro b9 h9 tk9 hb9 F9 N9; rw [hfit] at hb9; subst hb9; (try dsimp only); (try k_fold))
  k_with "mcall" => ((with_reducible show wpAny _ _ (call (Value.ref (nat_lit 56)) _) _ _ _); k_dflt (refine' dval_claim ?k1 ?k2 ?k3 ?k4 ?k5 ?k6 ?k7 ?k8 ?kC ?_; (case k1 => k_asm); (case k2 => k_asm); (case k3 => k_asm); (case k4 => k_asm); (case k5 => k_asm); (case k6 => first | exact rfl | assumption); (case k7 => ktr_room); (case k8 => ktr_units); (case kC => assumption)); intro t9 h9 tk9 F9 N9; (try dsimp only); (try k_fold))
  k_with "eval Call" => (k_here; k_dflt (refine Call_ ?_))
  k_with "compareOp NotIn str ref" => (k_here; k_dflt (first | refine kdg_notin (knd := PySem.strKind _ _) (by k_asm) (by k_mem) (by k_asm) (by k_asm) (strKind_is _ _ _ _) true (by rfl) ?_ | refine kdg_notin (knd := PySem.strKind _ _) (by k_asm) (by k_mem) (by k_asm) (by k_asm) (strKind_is _ _ _ _) false (by rfl) ?_); (try dsimp only [Bool.not_true, Bool.not_false]))
  k_with "subscriptTail" => (k_here; (with_reducible show wpAny _ _ (subscriptTail _ _ (Value.ref _) (Value.str _ _)) _ _ _); k_dflt (refine kda_item (knd := PySem.strKind _ _) (by k_asm) (by k_mem) (by k_asm) (strKind_is _ _ _ _) (by rfl) ?_))
  k_with "mcall" => ((with_reducible show wpAny _ _ (call (Value.ref (nat_lit 91)) _) _ _ _); k_dflt (refine' numref2_claim ?k1 ?k2 ?k3 ?k4 ?k5 ?k6 ?k7 ?k8 ?kD ?kS ?kE ?kL ?_; (case k1 => k_asm); (case k2 => k_asm); (case k3 => k_asm); (case k4 => k_asm); (case k5 => k_asm); (case k6 => first | exact rfl | assumption); (case k7 => ktr_room); (case k8 => ktr_units); (case kD => assumption); (case kS => assumption); (case kE => assumption); (case kL => assumption)); intro Dn7 o7 all7 h7 tk7 P7 SK7 D7 hde7 F7 N7; (k_extra "mpair"); (have hm7 := Sink.sub SK7 _ List.mem_cons_self); (have hdd7 := D7.d); (try dsimp only); (try k_fold))
  k_with "mtup" => k_dflt (refine pair_item (News.isTup (by k_asm) (mem_led (by first | exact Sink.sub SK9 _ (hsub9 _ List.mem_cons_self) | assumption))) rfl ?_)
  k_with "mcall" => ((with_reducible show wpAny _ _ (call (Value.ref (nat_lit 440)) _) _ _ _); k_dflt (first | (refine' ready_t ?k1 ?k2 ?k3 ?k4 ?k5 ?k6 ?k7 ?k8 ?kD ?kS ?kL ?k0 ?_; (case k1 => k_asm); (case k2 => k_asm); (case k3 => k_asm); (case k4 => k_asm); (case k5 => k_asm); (case k6 => first | exact rfl | assumption); (case k7 => ktr_room); (case k8 => ktr_units); (case kD => assumption); (case kS => assumption); (case kL => assumption); (case k0 => assumption)) | (refine' ready_f ?k1 ?k2 ?k3 ?k4 ?k5 ?k6 ?k7 ?k8 ?kD ?kS ?kL ?k0 ?_; (case k1 => k_asm); (case k2 => k_asm); (case k3 => k_asm); (case k4 => k_asm); (case k5 => k_asm); (case k6 => first | exact rfl | assumption); (case k7 => ktr_room); (case k8 => ktr_units); (case kD => assumption); (case kS => assumption); (case kL => assumption); (case k0 => assumption))); intro h9 tk9 F9 N9; (try dsimp only); (try k_fold))
  k_with "mcall" => ((with_reducible show wpAny _ _ (call (Value.ref (nat_lit 433)) _) _ _ _); k_dflt (refine' step_all ?k1 ?k2 ?k3 ?k4 ?k5 ?k6 ?k7 ?k8 ?kD ?kS ?kE ?kL ?kO ?kP ?kG ?kH ?k0 ?kC ?kI ?kJ ?_; (case k1 => k_asm); (case k2 => k_asm); (case k3 => k_asm); (case k4 => k_asm); (case k5 => k_asm); (case k6 => first | exact rfl | assumption); (case k7 => ktr_room); (case k8 => ktr_units); (case kD => assumption); (case kS => assumption); (case kE => assumption); (case kL => assumption); (case kO => assumption); (case kP => assumption); (case kG => assumption); (case kH => assumption); (case k0 => assumption); (case kC => assumption); (case kI => assumption); (case kJ => assumption)); intro n2 at2 cd2 ta2 ts2 tf2 tc2 st2 bf2 ev2 ne2 all2 rest2 errs2 txt2 h2 tk2 hlt2 P2 h02 SK2 D2 hde2 hel2 hsub2 F2 N2; (try dsimp only); (try k_fold)) 
  trivial
section
variable {prog : Program} {w : World} {A : Around} {E : Value → Shared → Prop} {s : Shared} {h₀ : Heap} {L : Addr} {m : PySem.Str → Option Value} {env : Env}
theorem ListComp_text {elt iter : PySem.Expr} {x : PySem.Str} {px : Pos} {scope : Scope} {cl : List (PySem.Str × Addr)} {pos : Pos} {Q : Value → Shared → Prop} (_F₀ : Fr h₀ L s.heap m)
    (hclos : closureFor scope env = pure cl) (hcell : ∀ y ∈ scope.names, y.2 ≠ .cell) (hkind : scope.kind = .function)
    (hnames : ∀ y ∈ scope.names, y.2 = .local → scope.names.lookup y.1 = some .local) (hx : scope.names.lookup x = some .local)
    (h : wpAny (model prog w) A (eval iter env) (fun xv s₁ => ∃ xt tx news, xv = .str xt tx ∧ A.handled = none ∧ Fr h₀ L s₁.heap m ∧ News h₀ L s₁.heap news ∧ xt.cps.size ≤ sizeLine ∧
      ∀ s₂ : Shared, (∃ h, s₂ = { s₁ with heap := h }) → LCg.CompRest prog w A h₀ L m env elt x scope cl s₂ (fun _ => True) (SignAt xt) (LCg.FinE h₀ L m s₂ Q) xt.cps.size 0 [] news) E s)
    (hs : ∀ x, foldedSetIterable iter env x = pure x := by intro _; rfl) :
    wpAny (model prog w) A (eval (.ListComp elt [⟨.Name x px, iter, [], 0⟩] scope pos) env) Q E s := by
  rw [eval_ListComp]
  refine wpAny_comprehension_free (use := none) rfl hs hclos hkind hnames (wpAny_mono h (fun xv s₁ h₁ => ?_) fun _ _ e => e)
  obtain ⟨xt, tx, news, rfl, hh, F, N, hsz, R⟩ := h₁
  have st : ∀ (ty : String) (i : Nat) (h h' : Heap) (o : Obj) (nw : List (Addr × Obj)), h.IsStrIter s₁.heap.objs.size ty xt tx i → h.get? s₁.heap.objs.size = some o → h'.get? s₁.heap.objs.size = some o → (∀ b o, h₀.get? b = some o → h'.get? b = some o) → News h₀ L h' nw → True → h'.IsStrIter s₁.heap.objs.size ty xt tx i := by
    rintro ty i h h' o nw ⟨o', e1, r⟩ e e' _ _ _
    rw [e] at e1; cases e1
    exact ⟨o, e', r⟩
  have fin : ∀ (o : Obj), ∀ D C h tk m' ys news', Fr h₀ L h m → News h₀ L h ((D, LCg.lst ys) :: news') → LCg.Off1 D news' → h.Ns C m' → h₀.get? C = none → h₀.get? D = none → C ≠ L → D ≠ L → C ≠ D → (∀ p ∈ news', p.1 ≠ C) → LCg.FinE h₀ L m { s₁ with heap := s₁.heap.push o } Q ys news' →
      ∃ m', h.Ns C m' ∧ ∀ h'', Heap.SameBut C h h'' → Q (.ref D) { s₁ with heap := h'', toks := tk } := by
    intro o D C h tk m' ys news' F' N' o1 hn hC₀ hD₀ hCL hDL hCD offC fin
    refine ⟨m', hn, fun h'' hs'' => fin D h'' tk (F'.change hs'' hCL hC₀) (fun p hp => ?_) o1⟩
    refine ⟨hs''.extBut _ _ ?_ (N' p hp).1, (N' p hp).2⟩
    rcases List.mem_cons.mp hp with rfl | hp
    · exact Ne.symm hCD
    · exact offC p hp
  cases ha : xt.cps.all (· < 128)
  · refine wpAny_pyIter_wide ha ?_
    refine LCg.block_U (PySem.Walks.strWide hh _ xt tx) hsz (fun i h hi => let ⟨o, ho, _⟩ := hi; ⟨o, ho⟩) (st _) hcell hkind hx ⟨_, Heap.get?_push_size _ rfl, rfl, rfl⟩ (fun b hb => ?_)
      (F.keeps fun _ _ e => Heap.get?_push_of_some _ e) (N.grown fun _ _ e => Heap.get?_push_of_some _ e) (Nat.ne_of_lt F.ns.lt) (next_is_new F) (fun p hp => Nat.ne_of_lt (Heap.lt_size (N p hp).1)) trivial (R _ ⟨_, rfl⟩) ?_
    · rw [List.mem_singleton.mp hb]
      show s₁.heap.objs.size < (s₁.heap.push _).objs.size
      rw [Heap.size_push]; exact Nat.lt_succ_self _
    · intro D C h tk m' ys news' F' N' o1 hn hC₀ hD₀ hCL hDL hCD offC fn
      exact fin _ D C h tk m' ys news' F' N' o1 hn hC₀ hD₀ hCL hDL hCD offC fn
  · refine wpAny_pyIter_ascii ha ?_
    refine LCg.block_U (PySem.Walks.strAscii hh _ xt tx) hsz (fun i h hi => let ⟨o, ho, _⟩ := hi; ⟨o, ho⟩) (st _) hcell hkind hx ⟨_, Heap.get?_push_size _ rfl, rfl, rfl⟩ (fun b hb => ?_)
      (F.keeps fun _ _ e => Heap.get?_push_of_some _ e) (N.grown fun _ _ e => Heap.get?_push_of_some _ e) (Nat.ne_of_lt F.ns.lt) (next_is_new F) (fun p hp => Nat.ne_of_lt (Heap.lt_size (N p hp).1)) trivial (R _ ⟨_, rfl⟩) ?_
    · rw [List.mem_singleton.mp hb]
      show s₁.heap.objs.size < (s₁.heap.push _).objs.size
      rw [Heap.size_push]; exact Nat.lt_succ_self _
    · intro D C h tk m' ys news' F' N' o1 hn hC₀ hD₀ hCL hDL hCD offC fn
      exact fin _ D C h tk m' ys news' F' N' o1 hn hC₀ hD₀ hCL hDL hCD offC fn
end

theorem rsL4 : True := by
  k_with_none
  k_with "kne" => (refine neN ?_; (try dsimp only); first | with_reducible assumption | with_reducible exact Ne.symm (by with_reducible assumption) | (refine Nat.ne_of_lt ?_; (first | with_reducible assumption | with_reducible exact And.left (by with_reducible assumption) | with_reducible exact And.left (And.right (by with_reducible assumption)) | with_reducible exact And.left (And.right (And.right (by with_reducible assumption))) | with_reducible exact And.left (And.right (And.right (And.right (by with_reducible assumption)))) | with_reducible exact And.left (And.right (And.right (And.right (And.right (by with_reducible assumption))))) | with_reducible exact And.left (And.right (And.right (And.right (And.right (And.right (by with_reducible assumption)))))) | with_reducible exact And.left (And.right (And.right (And.right (And.right (And.right (And.right (by with_reducible assumption))))))) | with_reducible exact And.left (And.right (And.right (And.right (And.right (And.right (And.right (And.right (by with_reducible assumption)))))))) | with_reducible exact And.left (And.right (And.right (And.right (And.right (And.right (And.right (And.right (And.right (by with_reducible assumption))))))))) | with_reducible exact And.left (And.right (And.right (And.right (And.right (And.right (And.right (And.right (And.right (And.right (by with_reducible assumption)))))))))) | with_reducible exact And.left (And.right (And.right (And.right (And.right (And.right (And.right (And.right (And.right (And.right (And.right (by with_reducible assumption))))))))))) | with_reducible exact And.left (And.right (And.right (And.right (And.right (And.right (And.right (And.right (And.right (And.right (And.right (And.right (by with_reducible assumption)))))))))))) | with_reducible exact And.left (And.right (And.right (And.right (And.right (And.right (And.right (And.right (And.right (And.right (And.right (And.right (And.right (by with_reducible assumption))))))))))))) | with_reducible exact (And.right (by with_reducible assumption)) | with_reducible exact (And.right (And.right (by with_reducible assumption))) | with_reducible exact (And.right (And.right (And.right (by with_reducible assumption)))) | with_reducible exact (And.right (And.right (And.right (And.right (by with_reducible assumption))))) | with_reducible exact (And.right (And.right (And.right (And.right (And.right (by with_reducible assumption)))))) | with_reducible exact (And.right (And.right (And.right (And.right (And.right (And.right (by with_reducible assumption))))))))) | (refine Nat.ne_of_gt ?_; (first | with_reducible assumption | with_reducible exact And.left (by with_reducible assumption) | with_reducible exact And.left (And.right (by with_reducible assumption)) | with_reducible exact And.left (And.right (And.right (by with_reducible assumption))) | with_reducible exact And.left (And.right (And.right (And.right (by with_reducible assumption)))) | with_reducible exact And.left (And.right (And.right (And.right (And.right (by with_reducible assumption))))) | with_reducible exact And.left (And.right (And.right (And.right (And.right (And.right (by with_reducible assumption)))))) | with_reducible exact And.left (And.right (And.right (And.right (And.right (And.right (And.right (by with_reducible assumption))))))) | with_reducible exact And.left (And.right (And.right (And.right (And.right (And.right (And.right (And.right (by with_reducible assumption)))))))) | with_reducible exact And.left (And.right (And.right (And.right (And.right (And.right (And.right (And.right (And.right (by with_reducible assumption))))))))) | with_reducible exact And.left (And.right (And.right (And.right (And.right (And.right (And.right (And.right (And.right (And.right (by with_reducible assumption)))))))))) | with_reducible exact And.left (And.right (And.right (And.right (And.right (And.right (And.right (And.right (And.right (And.right (And.right (by with_reducible assumption))))))))))) | with_reducible exact And.left (And.right (And.right (And.right (And.right (And.right (And.right (And.right (And.right (And.right (And.right (And.right (by with_reducible assumption)))))))))))) | with_reducible exact And.left (And.right (And.right (And.right (And.right (And.right (And.right (And.right (And.right (And.right (And.right (And.right (And.right (by with_reducible assumption))))))))))))) | with_reducible exact (And.right (by with_reducible assumption)) | with_reducible exact (And.right (And.right (by with_reducible assumption))) | with_reducible exact (And.right (And.right (And.right (by with_reducible assumption)))) | with_reducible exact (And.right (And.right (And.right (And.right (by with_reducible assumption))))) | with_reducible exact (And.right (And.right (And.right (And.right (And.right (by with_reducible assumption)))))) | with_reducible exact (And.right (And.right (And.right (And.right (And.right (And.right (by with_reducible assumption))))))))) | omega)
  k_with "mcall" => ((with_reducible show wpAny _ _ (call (Value.ref (nat_lit 84)) [Value.int _ _]) _ _ _); k_dflt (refine' c1_claim ?k1 ?k2 ?k3 ?k4 ?k5 ?k6 ?k7 ?k8 ?kp ?_; (case k1 => k_asm); (case k2 => k_asm); (case k3 => k_asm); (case k4 => k_asm); (case k5 => k_asm); (case k6 => first | exact rfl | assumption); (case k7 => ktr_room); (case k8 => ktr_units); (case kp => omega)); intro t9 h9 tk9 F9 N9; (have hc19 := c1_room (by assumption) (by omega)); (try dsimp only); (try k_fold))
  k_with "mcall" => ((with_reducible show wpAny _ _ (call (Value.ref (nat_lit 91)) [Value.int _ _]) _ _ _); k_dflt (refine' numref_claim ?k1 ?k2 ?k3 ?k4 ?k5 ?k6 ?k7 ?k8 ?kp ?_; (case k1 => k_asm); (case k2 => k_asm); (case k3 => k_asm); (case k4 => k_asm); (case k5 => k_asm); (case k6 => first | exact rfl | assumption); (case k7 => ktr_room); (case k8 => ktr_units); (case kp => omega)); intro D9 o9 h9 tk9 P9 F9 N9 l9; (try k_lt l9); k_dflt (unfold PairIs at P9; rcases P9 with ⟨t19, c19, hf9, he9⟩ | ⟨t19, f9, t29, c19, hf9, he9⟩); all_goals ((subst he9); (try dsimp only); (try k_fold)))
  k_with "mcall" => ((with_reducible show wpAny _ _ (call (Value.ref (nat_lit 531)) [Value.int _ _]) _ _ _); k_dflt (refine' meant_claim ?k1 ?k2 ?k3 ?k4 ?k5 ?k6 ?k7 ?k8 ?kp ?_; (case k1 => k_asm); (case k2 => k_asm); (case k3 => k_asm); (case k4 => k_asm); (case k5 => k_asm); (case k6 => first | exact rfl | assumption); (case k7 => ktr_room); (case k8 => ktr_units); (case kp => omega)); intro D9 o9 h9 tk9 P9 F9 N9 l9; (try k_lt l9); k_dflt (unfold PairIs at P9; rcases P9 with ⟨t19, c19, hf9, he9⟩ | ⟨t19, f9, t29, c19, hf9, he9⟩); all_goals ((subst he9); (try dsimp only); (try k_fold)))
  k_with "mcall" => ((with_reducible show wpAny _ _ (call (Value.ref (nat_lit 524)) [Value.int _ _, Value.int _ _]) _ _ _); k_dflt (refine' lawCode_claim ?k1 ?k2 ?k3 ?k4 ?k5 ?k6 ?k7 ?k8 ?kp ?kq ?_; (case k1 => k_asm); (case k2 => k_asm); (case k3 => k_asm); (case k4 => k_asm); (case k5 => k_asm); (case k6 => first | exact rfl | assumption); (case k7 => ktr_room); (case k8 => ktr_units); (case kp => with_reducible assumption); (case kq => with_reducible assumption)); intro c9 t9 h9 tk9 hlo9 hhi9 F9 N9; (try dsimp only); (try k_fold))
  k_with "mcall" => ((with_reducible show wpAny _ _ (call (Value.ref (nat_lit 538)) [Value.int _ _, Value.int _ _, Value.int _ _]) _ _ _); k_dflt (first | (refine' digits16_claim ?k1 ?k2 ?k3 ?k4 ?k5 ?k6 ?k7 ?k8 ?kp ?kq ?_; (case k1 => k_asm); (case k2 => k_asm); (case k3 => k_asm); (case k4 => k_asm); (case k5 => k_asm); (case k6 => first | exact rfl | assumption); (case k7 => ktr_room); (case k8 => ktr_units); (case kp => with_reducible assumption); (case kq => with_reducible assumption)) | (refine' digits10_claim ?k1 ?k2 ?k3 ?k4 ?k5 ?k6 ?k7 ?k8 ?kp ?kq ?_; (case k1 => k_asm); (case k2 => k_asm); (case k3 => k_asm); (case k4 => k_asm); (case k5 => k_asm); (case k6 => first | exact rfl | assumption); (case k7 => ktr_room); (case k8 => ktr_units); (case kp => with_reducible assumption); (case kq => with_reducible assumption))); intro d9 t9 h9 tk9 I9 E9 hl9 F9 N9; (try dsimp only); (try k_fold))
  k_with "mcall" => ((with_reducible show wpAny _ _ (call (Value.ref (nat_lit 517)) [Value.ref _, Value.int _ _]) _ _ _); k_dflt (refine' pick_claim ?k1 ?k2 ?k3 ?k4 ?k5 ?k6 ?k7 ?k8 ?kt ?ke ?kp ?kq ?_; (case k1 => k_asm); (case k2 => k_asm); (case k3 => k_asm); (case k4 => k_asm); (case k5 => k_asm); (case k6 => first | exact rfl | assumption); (case k7 => ktr_room); (case k8 => ktr_units); (case kt => repeat' (first | exact Take1.head | apply Take1.tail)); (case ke => k_all); (case kp => decide); (case kq => intro v9; exact PyProof.noPylong_of_log2 (by decide +kernel))); intro r9 v9 t9 t99 c9 h9 tk9 hlo9 hhi9 F9 N9; (try dsimp only); (try k_fold))
  k_with "mcall" => ((with_reducible show wpAny _ _ (call (Value.ref (nat_lit 545)) [Value.int _ _, Value.int _ _]) _ _ _); k_dflt (refine' case_claim ?k1 ?k2 ?k3 ?k4 ?k5 ?k6 ?k7 ?k8 ?kp ?kq ?_; (case k1 => k_asm); (case k2 => k_asm); (case k3 => k_asm); (case k4 => k_asm); (case k5 => k_asm); (case k6 => first | exact rfl | assumption); (case k7 => ktr_room); (case k8 => ktr_units); (case kp => omega); (case kq => omega)); intro D9 o9 h9 tk9 P9 F9 N9 l9; (try k_lt l9); k_dflt (unfold CaseObj at P9; obtain ⟨b9, hx9, ds9, tl9, bh9, code9, head9, tail9, behind9, back9, C9, cv9, t91, t92, t93, t94, n9, hcv9, he9⟩ := P9); (subst he9); (have hlen9 := (CaseOk.len C9).1); (have hlen91 := (CaseOk.len C9).2.1); (have hlen92 := (CaseOk.len C9).2.2); k_dflt (rcases hcv9 with ⟨he8, he7⟩ | ⟨c9, t95, he8, he7⟩); all_goals ((subst he8); (subst he7); (try have hc9 := CaseOk.nonneg C9); (try dsimp only); (try k_fold)))
  k_with "mcall" => ((with_reducible show wpAny _ _ (call (Value.ref (nat_lit 552)) [_, Value.str _ _, Value.str _ _]) _ _ _); k_dflt (first | (refine' due_claim_none ?k1 ?k2 ?k3 ?k4 ?k5 ?k6 ?k7 ?k8 ?kp ?_; (case k1 => k_asm); (case k2 => k_asm); (case k3 => k_asm); (case k4 => k_asm); (case k5 => k_asm); (case k6 => first | exact rfl | assumption); (case k7 => ktr_room); (case k8 => ktr_units); (case kp => with_reducible exact Nat.le_trans (by with_reducible assumption) (by decide))) | (refine' due_claim_some ?k1 ?k2 ?k3 ?k4 ?k5 ?k6 ?k7 ?k8 ?kp ?kq ?_; (case k1 => k_asm); (case k2 => k_asm); (case k3 => k_asm); (case k4 => k_asm); (case k5 => k_asm); (case k6 => first | exact rfl | assumption); (case k7 => ktr_room); (case k8 => ktr_units); (case kp => with_reducible exact Nat.le_trans (by with_reducible assumption) (by decide)); (case kq => with_reducible assumption))); intro D9 EL9 o9 e9 X9 h9 tk9 P9 F9 N9 l9; (have l91 := fun p hp => (l9 p hp).1); (have l92 := fun p hp => (l9 p hp).2); (try k_lt l91); (try k_lt l92); k_dflt (unfold DueObj at P9; obtain ⟨t91, t92, n9, vs9, k9, he9, he8, DA9⟩ := P9); (subst he9); (subst he8); (try dsimp only); (try k_fold))
  k_with "mcall" => ((with_reducible show wpAny _ _ (call (Value.ref (nat_lit 327)) _) _ _ _); k_dflt (refine' next_claim ?k1 ?k2 ?k3 ?k4 ?k5 ?k6 ?k7 ?k8 ?kD ?kS ?kL ?k0 ?_; (case k1 => k_asm); (case k2 => k_asm); (case k3 => k_asm); (case k4 => k_asm); (case k5 => k_asm); (case k6 => first | exact rfl | assumption); (case k7 => ktr_room); (case k8 => ktr_units); (case kD => assumption); (case kS => assumption); (case kL => assumption); (case k0 => assumption)); intro t9 ta9 h9 tk9 F9 N9; (try rw [hc]); (try dsimp only); (try k_fold))
  k_with "mcall" => ((with_reducible show wpAny _ _ (call (Value.ref (nat_lit 341)) _) _ _ _); k_dflt (refine' again_claim ?k1 ?k2 ?k3 ?k4 ?k5 ?k6 ?k7 ?k8 ?kD ?_; (case k1 => k_asm); (case k2 => k_asm); (case k3 => k_asm); (case k4 => k_asm); (case k5 => k_asm); (case k6 => first | exact rfl | assumption); (case k7 => ktr_room); (case k8 => ktr_units); (case kD => assumption)); intro ta9 ts9 h9 tk9 F9 N9; (try dsimp only); (try k_fold))
  k_with "mcall" => ((with_reducible show wpAny _ _ (call (Value.ref (nat_lit 348)) _) _ _ _); k_dflt (refine' error2_claim ?k1 ?k2 ?k3 ?k4 ?k5 ?k6 ?k7 ?k8 ?kD ?kS ?kE ?kL ?_; (case k1 => k_asm); (case k2 => k_asm); (case k3 => k_asm); (case k4 => k_asm); (case k5 => k_asm); (case k6 => first | exact rfl | assumption); (case k7 => ktr_room); (case k8 => ktr_units); (case kD => assumption); (case kS => assumption); (case kE => assumption); (case kL => assumption)); intro ev9 rest9 all9 ne9 h9 tk9 SK9 D9 hde9 hsub9 F9 N9; (have hdd9 := D9.d); (try dsimp only); (try k_fold))
  k_with "mcall" => ((with_reducible show wpAny _ _ (call (Value.ref (nat_lit 426)) _) _ _ _); k_dflt (refine' flush_claim ?k1 ?k2 ?k3 ?k4 ?k5 ?k6 ?k7 ?k8 ?kD ?kS ?kE ?kL ?_; (case k1 => k_asm); (case k2 => k_asm); (case k3 => k_asm); (case k4 => k_asm); (case k5 => k_asm); (case k6 => first | exact rfl | assumption); (case k7 => ktr_room); (case k8 => ktr_units); (case kD => assumption); (case kS => assumption); (case kE => assumption); (case kL => assumption)); intro all8 rest8 tf8 h8 tk8 hsub8 D8 SK8 F8 N8; (have hdd8 := D8.d); (try dsimp only); (try k_fold))
  k_with "mcall" => ((with_reducible show wpAny _ _ (call (Value.ref (nat_lit 42)) _) _ _ _); k_dflt (refine' ishex_claim ?k1 ?k2 ?k3 ?k4 ?k5 ?k6 ?k7 ?k8 ?kC ?_; (case k1 => k_asm); (case k2 => k_asm); (case k3 => k_asm); (case k4 => k_asm); (case k5 => k_asm); (case k6 => first | exact rfl | assumption); (case k7 => ktr_room); (case k8 => ktr_units); (case kC => first | assumption | decide)); intro b9 h9 tk9 hb9 F9 N9; rw [hfit] at hb9; subst hb9; (try dsimp only); (try k_fold))
  k_with "mcall" => ((with_reducible show wpAny _ _ (call (Value.ref (nat_lit 35)) _) _ _ _); k_dflt (refine' isdig_claim ?k1 ?k2 ?k3 ?k4 ?k5 ?k6 ?k7 ?k8 ?kC ?_; (case k1 => k_asm); (case k2 => k_asm); (case k3 => k_asm); (case k4 => k_asm); (case k5 => k_asm); (case k6 => first | exact rfl | assumption); (case k7 => ktr_room); (case k8 => ktr_units); (case kC => first | assumption | decide)); intro b9 h9 tk9 hb9 F9 N9; rw [hfit] at hb9; subst hb9; (try dsimp only); (try k_fold))
  k_with "mcall" => ((with_reducible show wpAny _ _ (call (Value.ref (nat_lit 56)) _) _ _ _); k_dflt (refine' dval_claim ?k1 ?k2 ?k3 ?k4 ?k5 ?k6 ?k7 ?k8 ?kC ?_; (case k1 => k_asm); (case k2 => k_asm); (case k3 => k_asm); (case k4 => k_asm); (case k5 => k_asm); (case k6 => first | exact rfl | assumption); (case k7 => ktr_room); (case k8 => ktr_units); (case kC => assumption)); intro t9 h9 tk9 F9 N9; (try dsimp only); (try k_fold))
  k_with "eval Call" => (k_here; k_dflt (refine Call_ ?_))
  k_with "compareOp NotIn str ref" => (k_here; k_dflt (first | refine kdg_notin (knd := PySem.strKind _ _) (by k_asm) (by k_mem) (by k_asm) (by k_asm) (strKind_is _ _ _ _) true (by rfl) ?_ | refine kdg_notin (knd := PySem.strKind _ _) (by k_asm) (by k_mem) (by k_asm) (by k_asm) (strKind_is _ _ _ _) false (by rfl) ?_); (try dsimp only [Bool.not_true, Bool.not_false]))
  k_with "subscriptTail" => (k_here; (with_reducible show wpAny _ _ (subscriptTail _ _ (Value.ref _) (Value.str _ _)) _ _ _); k_dflt (refine kda_item (knd := PySem.strKind _ _) (by k_asm) (by k_mem) (by k_asm) (strKind_is _ _ _ _) (by rfl) ?_))
  k_with "mcall" => ((with_reducible show wpAny _ _ (call (Value.ref (nat_lit 91)) _) _ _ _); k_dflt (refine' numref2_claim ?k1 ?k2 ?k3 ?k4 ?k5 ?k6 ?k7 ?k8 ?kD ?kS ?kE ?kL ?_; (case k1 => k_asm); (case k2 => k_asm); (case k3 => k_asm); (case k4 => k_asm); (case k5 => k_asm); (case k6 => first | exact rfl | assumption); (case k7 => ktr_room); (case k8 => ktr_units); (case kD => assumption); (case kS => assumption); (case kE => assumption); (case kL => assumption)); intro Dn7 o7 all7 h7 tk7 P7 SK7 D7 hde7 F7 N7; (k_extra "mpair"); (have hm7 := Sink.sub SK7 _ List.mem_cons_self); (have hdd7 := D7.d); (try dsimp only); (try k_fold))
  k_with "mtup" => k_dflt (refine pair_item (News.isTup (by k_asm) (mem_led (by first | exact Sink.sub SK9 _ (hsub9 _ List.mem_cons_self) | assumption))) rfl ?_)
  k_with "mcall" => ((with_reducible show wpAny _ _ (call (Value.ref (nat_lit 440)) _) _ _ _); k_dflt (first | (refine' ready_t ?k1 ?k2 ?k3 ?k4 ?k5 ?k6 ?k7 ?k8 ?kD ?kS ?kL ?k0 ?_; (case k1 => k_asm); (case k2 => k_asm); (case k3 => k_asm); (case k4 => k_asm); (case k5 => k_asm); (case k6 => first | exact rfl | assumption); (case k7 => ktr_room); (case k8 => ktr_units); (case kD => assumption); (case kS => assumption); (case kL => assumption); (case k0 => assumption)) | (refine' ready_f ?k1 ?k2 ?k3 ?k4 ?k5 ?k6 ?k7 ?k8 ?kD ?kS ?kL ?k0 ?_; (case k1 => k_asm); (case k2 => k_asm); (case k3 => k_asm); (case k4 => k_asm); (case k5 => k_asm); (case k6 => first | exact rfl | assumption); (case k7 => ktr_room); (case k8 => ktr_units); (case kD => assumption); (case kS => assumption); (case kL => assumption); (case k0 => assumption))); intro h9 tk9 F9 N9; (try dsimp only); (try k_fold))
  k_with "mcall" => ((with_reducible show wpAny _ _ (call (Value.ref (nat_lit 433)) _) _ _ _); k_dflt (refine' step_all ?k1 ?k2 ?k3 ?k4 ?k5 ?k6 ?k7 ?k8 ?kD ?kS ?kE ?kL ?kO ?kP ?kG ?kH ?k0 ?kC ?kI ?kJ ?_; (case k1 => k_asm); (case k2 => k_asm); (case k3 => k_asm); (case k4 => k_asm); (case k5 => k_asm); (case k6 => first | exact rfl | assumption); (case k7 => ktr_room); (case k8 => ktr_units); (case kD => assumption); (case kS => assumption); (case kE => assumption); (case kL => assumption); (case kO => assumption); (case kP => assumption); (case kG => assumption); (case kH => assumption); (case k0 => assumption); (case kC => assumption); (case kI => assumption); (case kJ => assumption)); intro n2 at2 cd2 ta2 ts2 tf2 tc2 st2 bf2 ev2 ne2 all2 rest2 errs2 txt2 h2 tk2 hlt2 P2 h02 SK2 D2 hde2 hel2 hsub2 F2 N2; (try dsimp only); (try k_fold)) 
  trivial
noncomputable def CharEnd (h₀ : Heap) (L : Addr) (m : PySem.Str → Option Value) (s : Shared) (all : List (Addr × Obj)) (c : Nat) (y : Value) (s₂ : Shared) : Prop :=
  ∃ (Dn : Addr) (t1 t2 : Tok) (n : Nat) (h' : Heap) (tk' : Nat), y = .ref Dn ∧ s₂ = { s with heap := h', toks := tk' } ∧ Fr h₀ L h' m ∧ News h₀ L h' ((Dn, ({ cls := .type "tuple", data := .seq #[.str (PySem.Str.ofString "char") t1, .str ⟨#[c]⟩ t2] n } : Obj)) :: all) ∧ (∀ p ∈ all, p.1 < Dn)
section
variable {prog : Program} {w : World} {A : Around} {E : Value → Shared → Prop} {s : Shared} {h₀ : Heap} {L : Addr} {m : PySem.Str → Option Value} {env : Env}
theorem comp_chars {elt : PySem.Expr} {x : PySem.Str} {scope : Scope} {cl : List (PySem.Str × Addr)} {xt : PySem.Str} {news0 : List (Addr × Obj)} {Fin : List Value → List (Addr × Obj) → Prop}
    (fin : ∀ ys nws, DatAll nws ys (xt.cps.toList.map charD) → (∀ p ∈ news0, p ∈ nws) → Fin ys nws)
    (el : ∀ (c : Nat) (t : Tok) (I C D : Addr) (oI oC : Obj) (m₂ : PySem.Str → Option Value) (h : Heap) (tk : Nat) (ys : List Value) (nws : List (Addr × Obj)) (E' : Value → Shared → Prop), LCg.NsObj oC m₂ → m₂ x = some (.str ⟨#[c]⟩ t) → Fr h₀ L h m → News h₀ L h ((I, oI) :: (C, oC) :: (D, LCg.lst ys) :: nws) → (∀ p ∈ news0, p ∈ nws) →
      wpAny (model prog w) A (eval elt (compEnvC scope cl C env)) (CharEnd h₀ L m { s with heap := h, toks := tk } ((I, oI) :: (C, oC) :: (D, LCg.lst ys) :: nws) c) E' { s with heap := h, toks := tk }) :
    ∀ (k i : Nat) (ys : List Value) (nws : List (Addr × Obj)), i + k = xt.cps.size → DatAll nws ys ((xt.cps.toList.take i).map charD) → (∀ p ∈ news0, p ∈ nws) →
      LCg.CompRest prog w A h₀ L m env elt x scope cl s (fun _ => True) (SignAt xt) Fin k i ys nws
  | 0, i, ys, nws, hi, hd, hs => by
    refine LCg.CompRest.zero (fin ys nws ?_ hs)
    have : xt.cps.toList.take i = xt.cps.toList := List.take_of_length_le (by simp; omega)
    rw [this] at hd; exact hd
  | k + 1, i, ys, nws, hi, hd, hs => by
    refine LCg.CompRest.succ ?_
    rintro v I oI C oC D m₂ h tk E' ⟨c, u, hc, rfl⟩ hC hx F N off ne
    refine wpAny_mono (el c u I C D oI oC m₂ h tk ys nws E' hC hx F N hs) (fun y s₂ q => ?_) fun _ _ e => e
    obtain ⟨Dn, t1, t2, n, h', tk', rfl, rfl, F', N', hlt⟩ := q
    have hI : @LT.lt Nat _ I Dn := hlt (I, oI) (by simp)
    have hCn : @LT.lt Nat _ C Dn := hlt (C, oC) (by simp)
    have hD : @LT.lt Nat _ D Dn := hlt (D, LCg.lst ys) (by simp)
    refine LCg.CompEnd.intro F' N' ((Dn, ({ cls := .type "tuple", data := .seq #[.str (PySem.Str.ofString "char") t1, .str ⟨#[c]⟩ t2] n } : Obj)) :: nws) (fun p hp => ?_) ⟨⟨Ne.symm (Nat.ne_of_lt hI), Ne.symm (Nat.ne_of_lt hCn), Ne.symm (Nat.ne_of_lt hD)⟩, off⟩ trivial
      (comp_chars fin el k (i + 1) _ _ (by omega) ?_ (fun p hp => .tail _ (hs p hp)))
    · simp only [List.mem_cons] at hp ⊢
      rcases hp with h | h | h | h | h <;> simp [h]
    · have hn' : xt.cps.toList[i]? = some c := by simpa using hc
      have e : xt.cps.toList.take (i + 1) = xt.cps.toList.take i ++ [c] := by simp [List.take_add_one, hn']
      rw [e, List.map_append]
      refine DatAll.append (DatAll.mono (fun p hp => .tail _ hp) hd) (.cons ?_ .nil)
      exact DatIn.tuple (vs := [.str (PySem.Str.ofString "char") t1, .str ⟨#[c]⟩ t2]) (.head _) (.cons (.str _ _) (.cons (.str _ _) .nil))
theorem chars_ok {l : List Nat} (h : ∀ c ∈ l, c < 0x110000) : kqdOk 8 (.list (l.map charD)) = true := by
  have hc : PyData.strOk (PySem.Str.ofString "char") = true := by decide +kernel
  refine List.all_eq_true.mpr fun d hd => ?_
  obtain ⟨c, hcl, rfl⟩ := List.mem_map.mp hd
  have := h c hcl
  have h2 : PyData.strOk (⟨#[c]⟩ : PySem.Str) = true := by simp [PyData.strOk, this]
  simp only [kqdOk, charD, List.all_cons, List.all_nil, hc, h2, Bool.and_true]
theorem outs_ne {a b : Addr} {nws news rest : List (Addr × Obj)} {ys ovs : List Value} {no : Nat} {l : List Nat} {Q : Value → Shared → Prop}
    (N : News h₀ L s.heap ((b, LCg.lst ys) :: nws)) (hd : DatAll nws ys (l.map charD)) (hs : ∀ p ∈ news, p ∈ nws) (hm : (a, listOf ovs.toArray no) ∈ news) (hr : ∀ p ∈ rest, p ∈ news) (ho : DatAll rest ovs (l.map charD)) (hl : ∀ c ∈ l, c < 0x110000)
    (hu : A.units + 64 < cLine) (h : Q (.bool false) s) : wpAny (model prog w) A (compareOp .NotEq (.ref a) (.ref b)) Q E s := by
  have sub : ∀ p ∈ nws, p ∈ (b, LCg.lst ys) :: nws := fun p hp => .tail _ hp
  exact dat_ne N (DatIn.list (vs := ovs) (n := no) (sub _ (hs _ hm)) (DatAll.mono (fun p hp => sub p (hs p (hr p hp))) ho)) (DatIn.list (vs := ys) (n := ys.length) (.head _) (DatAll.mono sub hd)) (chars_ok hl) hu h
end
theorem text_low {b : Int} {hx ds tl bh : List Nat} {code : Option Int} {head tail behind back : PySem.Str} (C : CaseOk b hx ds tl bh code head tail behind back) : ∀ c ∈ (textOf head code).cps.toList, c < 0x110000 := by
  intro c hc
  cases code with
  | none =>
    rw [text_none C] at hc
    have : c = 38 ∨ c = 35 ∨ c ∈ hx := by simpa using hc
    rcases this with h | h | h
    · omega
    · omega
    · rcases C.base with ⟨_, e⟩ | ⟨_, e | e⟩
      · rw [e] at h; cases h
      · rw [e] at h; simp at h; omega
      · rw [e] at h; simp at h; omega
  | some n =>
    have h0 := CaseOk.nonneg C
    have : c = mChar n := by
      have hh : c ∈ [mChar n] := hc
      simpa using hh
    rw [this]; exact mChar_ok h0
theorem text_size {b : Int} {hx ds tl bh : List Nat} {code : Option Int} {head tail behind back : PySem.Str} (C : CaseOk b hx ds tl bh code head tail behind back) : (textOf head code).cps.size ≤ sizeLine := by
  rw [sizeLine_eq]
  have e : (textOf head code).cps.size = (textOf head code).cps.toList.length := by simp
  rw [e]
  cases code with
  | none =>
    rw [text_none C]
    rcases C.base with ⟨_, e⟩ | ⟨_, e | e⟩ <;> rw [e] <;> decide
  | some n => exact Nat.le_of_ble_eq_true rfl
theorem news_under {h₀ h : Heap} {L : Addr} {x : Addr × Obj} {news nws : List (Addr × Obj)} (N : News h₀ L h (x :: nws)) (hs : ∀ p ∈ news, p ∈ nws) : News h₀ L h (x :: news) := by
  intro p hp
  rcases List.mem_cons.mp hp with rfl | hp
  · exact N _ (.head _)
  · exact N _ (.tail _ (hs _ hp))
theorem nils_ne {prog : Program} {w : World} {A : Around} {E : Value → Shared → Prop} {s : Shared} {h₀ : Heap} {L a b : Addr} {news : List (Addr × Obj)} {n1 n2 : Nat} {Q : Value → Shared → Prop} (N : News h₀ L s.heap news) (h1 : (a, listOf #[] n1) ∈ news) (h2 : (b, listOf #[] n2) ∈ news)
    (hu : A.units + 64 < cLine) (h : Q (.bool false) s) : wpAny (model prog w) A (compareOp .NotEq (.ref a) (.ref b)) Q E s :=
  dat_ne N (DatIn.list (vs := []) (n := n1) h1 .nil) (DatIn.list (vs := []) (n := n2) h2 .nil) rfl hu h
theorem sink_val2 {w : World} {Tk Td S SD G E O ST Da : Addr} {bk x : PySem.Str} {rest all : List (Addr × Obj)} (SK : Sink w Tk Td S SD G E O ST bk (.ref Da) x.cps.toList rest all) (h : isVal bk = true) :
    ∃ (DD AT I : Addr) (K : KD) (vk vn vt : Value) (na ni no : Nat) (t1 tv : Tok), all = (Da, instObj 506 DD) :: (DD, dfD w K vk vn vt AT) :: (AT, listOf #[.ref I] na) :: (I, listOf #[.str (PySem.Str.ofString "") t1, .str (PySem.Str.ofString "z" ++ x) tv, .bool true] ni) :: (O, listOf #[] no) :: rest := by
  obtain ⟨DD, AT, I, K, vk, vn, vt, na, ni, no, v, t1, tv, e, hv⟩ := sink_val SK h
  have hz : (PySem.Str.ofString "z").cps.toList = [122] := by decide +kernel
  have ev : v = PySem.Str.ofString "z" ++ x := by
    apply PySem.Str.ext'
    apply Array.toList_inj.mp
    rw [hv, PySem.Str.cps_append, Array.toList_append, hz]; rfl
  subst ev
  exact ⟨DD, AT, I, K, vk, vn, vt, na, ni, no, t1, tv, e⟩
theorem text_len {b : Int} {hx ds tl bh : List Nat} {code : Option Int} {head tail behind back : PySem.Str} (C : CaseOk b hx ds tl bh code head tail behind back) : (textOf head code).length ≤ 30 := by
  cases code with
  | none =>
    have e : (textOf head none).length = (textOf head none).cps.toList.length := by simp [PySem.Str.length]
    rw [e, text_none C]
    rcases C.base with ⟨_, e⟩ | ⟨_, e | e⟩ <;> rw [e] <;> decide
  | some n => exact Nat.le_of_ble_eq_true rfl
theorem ztext_ok {b : Int} {hx ds tl bh : List Nat} {code : Option Int} {head tail behind back : PySem.Str} (C : CaseOk b hx ds tl bh code head tail behind back) : PyData.strOk (PySem.Str.ofString "z" ++ textOf head code) = true := by
  have h := text_low C
  have hz : (PySem.Str.ofString "z").cps.toList = [122] := by decide +kernel
  have e : (PySem.Str.ofString "z" ++ textOf head code).cps.toList = 122 :: (textOf head code).cps.toList := by
    rw [PySem.Str.cps_append, Array.toList_append, hz]; rfl
  unfold PyData.strOk
  rw [← Array.all_toList, e, List.all_eq_true]
  intro c hc
  rcases List.mem_cons.mp hc with rfl | hc
  · decide
  · exact decide_eq_true (h c hc)

theorem rsW6 : True := by
  k_with_none
  k_with "kne" => (refine neN ?_; (try dsimp only); first | with_reducible assumption | with_reducible exact Ne.symm (by with_reducible assumption) | (refine Nat.ne_of_lt ?_; (first | with_reducible assumption | with_reducible exact And.left (by with_reducible assumption) | with_reducible exact And.left (And.right (by with_reducible assumption)) | with_reducible exact And.left (And.right (And.right (by with_reducible assumption))) | with_reducible exact And.left (And.right (And.right (And.right (by with_reducible assumption)))) | with_reducible exact And.left (And.right (And.right (And.right (And.right (by with_reducible assumption))))) | with_reducible exact And.left (And.right (And.right (And.right (And.right (And.right (by with_reducible assumption)))))) | with_reducible exact And.left (And.right (And.right (And.right (And.right (And.right (And.right (by with_reducible assumption))))))) | with_reducible exact And.left (And.right (And.right (And.right (And.right (And.right (And.right (And.right (by with_reducible assumption)))))))) | with_reducible exact And.left (And.right (And.right (And.right (And.right (And.right (And.right (And.right (And.right (by with_reducible assumption))))))))) | with_reducible exact And.left (And.right (And.right (And.right (And.right (And.right (And.right (And.right (And.right (And.right (by with_reducible assumption)))))))))) | with_reducible exact And.left (And.right (And.right (And.right (And.right (And.right (And.right (And.right (And.right (And.right (And.right (by with_reducible assumption))))))))))) | with_reducible exact And.left (And.right (And.right (And.right (And.right (And.right (And.right (And.right (And.right (And.right (And.right (And.right (by with_reducible assumption)))))))))))) | with_reducible exact And.left (And.right (And.right (And.right (And.right (And.right (And.right (And.right (And.right (And.right (And.right (And.right (And.right (by with_reducible assumption))))))))))))) | with_reducible exact (And.right (by with_reducible assumption)) | with_reducible exact (And.right (And.right (by with_reducible assumption))) | with_reducible exact (And.right (And.right (And.right (by with_reducible assumption)))) | with_reducible exact (And.right (And.right (And.right (And.right (by with_reducible assumption))))) | with_reducible exact (And.right (And.right (And.right (And.right (And.right (by with_reducible assumption)))))) | with_reducible exact (And.right (And.right (And.right (And.right (And.right (And.right (by with_reducible assumption))))))))) | (refine Nat.ne_of_gt ?_; (first | with_reducible assumption | with_reducible exact And.left (by with_reducible assumption) | with_reducible exact And.left (And.right (by with_reducible assumption)) | with_reducible exact And.left (And.right (And.right (by with_reducible assumption))) | with_reducible exact And.left (And.right (And.right (And.right (by with_reducible assumption)))) | with_reducible exact And.left (And.right (And.right (And.right (And.right (by with_reducible assumption))))) | with_reducible exact And.left (And.right (And.right (And.right (And.right (And.right (by with_reducible assumption)))))) | with_reducible exact And.left (And.right (And.right (And.right (And.right (And.right (And.right (by with_reducible assumption))))))) | with_reducible exact And.left (And.right (And.right (And.right (And.right (And.right (And.right (And.right (by with_reducible assumption)))))))) | with_reducible exact And.left (And.right (And.right (And.right (And.right (And.right (And.right (And.right (And.right (by with_reducible assumption))))))))) | with_reducible exact And.left (And.right (And.right (And.right (And.right (And.right (And.right (And.right (And.right (And.right (by with_reducible assumption)))))))))) | with_reducible exact And.left (And.right (And.right (And.right (And.right (And.right (And.right (And.right (And.right (And.right (And.right (by with_reducible assumption))))))))))) | with_reducible exact And.left (And.right (And.right (And.right (And.right (And.right (And.right (And.right (And.right (And.right (And.right (And.right (by with_reducible assumption)))))))))))) | with_reducible exact And.left (And.right (And.right (And.right (And.right (And.right (And.right (And.right (And.right (And.right (And.right (And.right (And.right (by with_reducible assumption))))))))))))) | with_reducible exact (And.right (by with_reducible assumption)) | with_reducible exact (And.right (And.right (by with_reducible assumption))) | with_reducible exact (And.right (And.right (And.right (by with_reducible assumption)))) | with_reducible exact (And.right (And.right (And.right (And.right (by with_reducible assumption))))) | with_reducible exact (And.right (And.right (And.right (And.right (And.right (by with_reducible assumption)))))) | with_reducible exact (And.right (And.right (And.right (And.right (And.right (And.right (by with_reducible assumption))))))))) | omega)
  k_with "mcall" => ((with_reducible show wpAny _ _ (call (Value.ref (nat_lit 84)) [Value.int _ _]) _ _ _); k_dflt (refine' c1_claim ?k1 ?k2 ?k3 ?k4 ?k5 ?k6 ?k7 ?k8 ?kp ?_; (case k1 => k_asm); (case k2 => k_asm); (case k3 => k_asm); (case k4 => k_asm); (case k5 => k_asm); (case k6 => first | exact rfl | assumption); (case k7 => ktr_room); (case k8 => ktr_units); (case kp => omega)); intro t9 h9 tk9 F9 N9; (have hc19 := c1_room (by assumption) (by omega)); (try dsimp only); (try k_fold))
  k_with "mcall" => ((with_reducible show wpAny _ _ (call (Value.ref (nat_lit 91)) [Value.int _ _]) _ _ _); k_dflt (refine' numref_claim ?k1 ?k2 ?k3 ?k4 ?k5 ?k6 ?k7 ?k8 ?kp ?_; (case k1 => k_asm); (case k2 => k_asm); (case k3 => k_asm); (case k4 => k_asm); (case k5 => k_asm); (case k6 => first | exact rfl | assumption); (case k7 => ktr_room); (case k8 => ktr_units); (case kp => omega)); intro D9 o9 h9 tk9 P9 F9 N9 l9; (try k_lt l9); k_dflt (unfold PairIs at P9; rcases P9 with ⟨t19, c19, hf9, he9⟩ | ⟨t19, f9, t29, c19, hf9, he9⟩); all_goals ((subst he9); (try dsimp only); (try k_fold)))
  k_with "mcall" => ((with_reducible show wpAny _ _ (call (Value.ref (nat_lit 531)) [Value.int _ _]) _ _ _); k_dflt (refine' meant_claim ?k1 ?k2 ?k3 ?k4 ?k5 ?k6 ?k7 ?k8 ?kp ?_; (case k1 => k_asm); (case k2 => k_asm); (case k3 => k_asm); (case k4 => k_asm); (case k5 => k_asm); (case k6 => first | exact rfl | assumption); (case k7 => ktr_room); (case k8 => ktr_units); (case kp => omega)); intro D9 o9 h9 tk9 P9 F9 N9 l9; (try k_lt l9); k_dflt (unfold PairIs at P9; rcases P9 with ⟨t19, c19, hf9, he9⟩ | ⟨t19, f9, t29, c19, hf9, he9⟩); all_goals ((subst he9); (try dsimp only); (try k_fold)))
  k_with "mcall" => ((with_reducible show wpAny _ _ (call (Value.ref (nat_lit 524)) [Value.int _ _, Value.int _ _]) _ _ _); k_dflt (refine' lawCode_claim ?k1 ?k2 ?k3 ?k4 ?k5 ?k6 ?k7 ?k8 ?kp ?kq ?_; (case k1 => k_asm); (case k2 => k_asm); (case k3 => k_asm); (case k4 => k_asm); (case k5 => k_asm); (case k6 => first | exact rfl | assumption); (case k7 => ktr_room); (case k8 => ktr_units); (case kp => with_reducible assumption); (case kq => with_reducible assumption)); intro c9 t9 h9 tk9 hlo9 hhi9 F9 N9; (try dsimp only); (try k_fold))
  k_with "mcall" => ((with_reducible show wpAny _ _ (call (Value.ref (nat_lit 538)) [Value.int _ _, Value.int _ _, Value.int _ _]) _ _ _); k_dflt (first | (refine' digits16_claim ?k1 ?k2 ?k3 ?k4 ?k5 ?k6 ?k7 ?k8 ?kp ?kq ?_; (case k1 => k_asm); (case k2 => k_asm); (case k3 => k_asm); (case k4 => k_asm); (case k5 => k_asm); (case k6 => first | exact rfl | assumption); (case k7 => ktr_room); (case k8 => ktr_units); (case kp => with_reducible assumption); (case kq => with_reducible assumption)) | (refine' digits10_claim ?k1 ?k2 ?k3 ?k4 ?k5 ?k6 ?k7 ?k8 ?kp ?kq ?_; (case k1 => k_asm); (case k2 => k_asm); (case k3 => k_asm); (case k4 => k_asm); (case k5 => k_asm); (case k6 => first | exact rfl | assumption); (case k7 => ktr_room); (case k8 => ktr_units); (case kp => with_reducible assumption); (case kq => with_reducible assumption))); intro d9 t9 h9 tk9 I9 E9 hl9 F9 N9; (try dsimp only); (try k_fold))
  k_with "mcall" => ((with_reducible show wpAny _ _ (call (Value.ref (nat_lit 517)) [Value.ref _, Value.int _ _]) _ _ _); k_dflt (refine' pick_claim ?k1 ?k2 ?k3 ?k4 ?k5 ?k6 ?k7 ?k8 ?kt ?ke ?kp ?kq ?_; (case k1 => k_asm); (case k2 => k_asm); (case k3 => k_asm); (case k4 => k_asm); (case k5 => k_asm); (case k6 => first | exact rfl | assumption); (case k7 => ktr_room); (case k8 => ktr_units); (case kt => repeat' (first | exact Take1.head | apply Take1.tail)); (case ke => k_all); (case kp => decide); (case kq => intro v9; exact PyProof.noPylong_of_log2 (by decide +kernel))); intro r9 v9 t9 t99 c9 h9 tk9 hlo9 hhi9 F9 N9; (try dsimp only); (try k_fold))
  k_with "mcall" => ((with_reducible show wpAny _ _ (call (Value.ref (nat_lit 545)) [Value.int _ _, Value.int _ _]) _ _ _); k_dflt (refine' case_claim ?k1 ?k2 ?k3 ?k4 ?k5 ?k6 ?k7 ?k8 ?kp ?kq ?_; (case k1 => k_asm); (case k2 => k_asm); (case k3 => k_asm); (case k4 => k_asm); (case k5 => k_asm); (case k6 => first | exact rfl | assumption); (case k7 => ktr_room); (case k8 => ktr_units); (case kp => omega); (case kq => omega)); intro D9 o9 h9 tk9 P9 F9 N9 l9; (try k_lt l9); k_dflt (unfold CaseObj at P9; obtain ⟨b9, hx9, ds9, tl9, bh9, code9, head9, tail9, behind9, back9, C9, cv9, t91, t92, t93, t94, n9, hcv9, he9⟩ := P9); (subst he9); (have hlen9 := (CaseOk.len C9).1); (have hlen91 := (CaseOk.len C9).2.1); (have hlen92 := (CaseOk.len C9).2.2); k_dflt (rcases hcv9 with ⟨he8, he7⟩ | ⟨c9, t95, he8, he7⟩); all_goals ((subst he8); (subst he7); (try have hc9 := CaseOk.nonneg C9); (try dsimp only); (try k_fold)))
  k_with "mcall" => ((with_reducible show wpAny _ _ (call (Value.ref (nat_lit 552)) [_, Value.str _ _, Value.str _ _]) _ _ _); k_dflt (first | (refine' due_claim_none ?k1 ?k2 ?k3 ?k4 ?k5 ?k6 ?k7 ?k8 ?kp ?_; (case k1 => k_asm); (case k2 => k_asm); (case k3 => k_asm); (case k4 => k_asm); (case k5 => k_asm); (case k6 => first | exact rfl | assumption); (case k7 => ktr_room); (case k8 => ktr_units); (case kp => with_reducible exact Nat.le_trans (by with_reducible assumption) (by decide))) | (refine' due_claim_some ?k1 ?k2 ?k3 ?k4 ?k5 ?k6 ?k7 ?k8 ?kp ?kq ?_; (case k1 => k_asm); (case k2 => k_asm); (case k3 => k_asm); (case k4 => k_asm); (case k5 => k_asm); (case k6 => first | exact rfl | assumption); (case k7 => ktr_room); (case k8 => ktr_units); (case kp => with_reducible exact Nat.le_trans (by with_reducible assumption) (by decide)); (case kq => with_reducible assumption))); intro D9 EL9 o9 e9 X9 h9 tk9 P9 F9 N9 l9; (have l91 := fun p hp => (l9 p hp).1); (have l92 := fun p hp => (l9 p hp).2); (try k_lt l91); (try k_lt l92); k_dflt (unfold DueObj at P9; obtain ⟨t91, t92, n9, vs9, k9, he9, he8, DA9⟩ := P9); (subst he9); (subst he8); (try dsimp only); (try k_fold))
  k_with "mcall" => ((with_reducible show wpAny _ _ (call (Value.ref (nat_lit 327)) _) _ _ _); k_dflt (refine' next_claim ?k1 ?k2 ?k3 ?k4 ?k5 ?k6 ?k7 ?k8 ?kD ?kS ?kL ?k0 ?_; (case k1 => k_asm); (case k2 => k_asm); (case k3 => k_asm); (case k4 => k_asm); (case k5 => k_asm); (case k6 => first | exact rfl | assumption); (case k7 => ktr_room); (case k8 => ktr_units); (case kD => assumption); (case kS => assumption); (case kL => assumption); (case k0 => assumption)); intro t9 ta9 h9 tk9 F9 N9; (try rw [hc]); (try dsimp only); (try k_fold))
  k_with "mcall" => ((with_reducible show wpAny _ _ (call (Value.ref (nat_lit 341)) _) _ _ _); k_dflt (refine' again_claim ?k1 ?k2 ?k3 ?k4 ?k5 ?k6 ?k7 ?k8 ?kD ?_; (case k1 => k_asm); (case k2 => k_asm); (case k3 => k_asm); (case k4 => k_asm); (case k5 => k_asm); (case k6 => first | exact rfl | assumption); (case k7 => ktr_room); (case k8 => ktr_units); (case kD => assumption)); intro ta9 ts9 h9 tk9 F9 N9; (try dsimp only); (try k_fold))
  k_with "mcall" => ((with_reducible show wpAny _ _ (call (Value.ref (nat_lit 348)) _) _ _ _); k_dflt (refine' error2_claim ?k1 ?k2 ?k3 ?k4 ?k5 ?k6 ?k7 ?k8 ?kD ?kS ?kE ?kL ?_; (case k1 => k_asm); (case k2 => k_asm); (case k3 => k_asm); (case k4 => k_asm); (case k5 => k_asm); (case k6 => first | exact rfl | assumption); (case k7 => ktr_room); (case k8 => ktr_units); (case kD => assumption); (case kS => assumption); (case kE => assumption); (case kL => assumption)); intro ev9 rest9 all9 ne9 h9 tk9 SK9 D9 hde9 hsub9 F9 N9; (have hdd9 := D9.d); (try dsimp only); (try k_fold))
  k_with "mcall" => ((with_reducible show wpAny _ _ (call (Value.ref (nat_lit 426)) _) _ _ _); k_dflt (refine' flush_claim ?k1 ?k2 ?k3 ?k4 ?k5 ?k6 ?k7 ?k8 ?kD ?kS ?kE ?kL ?_; (case k1 => k_asm); (case k2 => k_asm); (case k3 => k_asm); (case k4 => k_asm); (case k5 => k_asm); (case k6 => first | exact rfl | assumption); (case k7 => ktr_room); (case k8 => ktr_units); (case kD => assumption); (case kS => assumption); (case kE => assumption); (case kL => assumption)); intro all8 rest8 tf8 h8 tk8 hsub8 D8 SK8 F8 N8; (have hdd8 := D8.d); (try dsimp only); (try k_fold))
  k_with "mcall" => ((with_reducible show wpAny _ _ (call (Value.ref (nat_lit 42)) _) _ _ _); k_dflt (refine' ishex_claim ?k1 ?k2 ?k3 ?k4 ?k5 ?k6 ?k7 ?k8 ?kC ?_; (case k1 => k_asm); (case k2 => k_asm); (case k3 => k_asm); (case k4 => k_asm); (case k5 => k_asm); (case k6 => first | exact rfl | assumption); (case k7 => ktr_room); (case k8 => ktr_units); (case kC => first | assumption | decide)); intro b9 h9 tk9 hb9 F9 N9; rw [hfit] at hb9; subst hb9; (try dsimp only); (try k_fold))
  k_with "mcall" => ((with_reducible show wpAny _ _ (call (Value.ref (nat_lit 35)) _) _ _ _); k_dflt (refine' isdig_claim ?k1 ?k2 ?k3 ?k4 ?k5 ?k6 ?k7 ?k8 ?kC ?_; (case k1 => k_asm); (case k2 => k_asm); (case k3 => k_asm); (case k4 => k_asm); (case k5 => k_asm); (case k6 => first | exact rfl | assumption); (case k7 => ktr_room); (case k8 => ktr_units); (case kC => first | assumption | decide)); intro b9 h9 tk9 hb9 F9 N9; rw [hfit] at hb9; subst hb9; (try dsimp only); (try k_fold))
  k_with "mcall" => ((with_reducible show wpAny _ _ (call (Value.ref (nat_lit 56)) _) _ _ _); k_dflt (refine' dval_claim ?k1 ?k2 ?k3 ?k4 ?k5 ?k6 ?k7 ?k8 ?kC ?_; (case k1 => k_asm); (case k2 => k_asm); (case k3 => k_asm); (case k4 => k_asm); (case k5 => k_asm); (case k6 => first | exact rfl | assumption); (case k7 => ktr_room); (case k8 => ktr_units); (case kC => assumption)); intro t9 h9 tk9 F9 N9; (try dsimp only); (try k_fold))
  k_with "eval Call" => (k_here; k_dflt (refine Call_ ?_))
  k_with "compareOp NotIn str ref" => (k_here; k_dflt (first | refine kdg_notin (knd := PySem.strKind _ _) (by k_asm) (by k_mem) (by k_asm) (by k_asm) (strKind_is _ _ _ _) true (by rfl) ?_ | refine kdg_notin (knd := PySem.strKind _ _) (by k_asm) (by k_mem) (by k_asm) (by k_asm) (strKind_is _ _ _ _) false (by rfl) ?_); (try dsimp only [Bool.not_true, Bool.not_false]))
  k_with "subscriptTail" => (k_here; (with_reducible show wpAny _ _ (subscriptTail _ _ (Value.ref _) (Value.str _ _)) _ _ _); k_dflt (refine kda_item (knd := PySem.strKind _ _) (by k_asm) (by k_mem) (by k_asm) (strKind_is _ _ _ _) (by rfl) ?_))
  k_with "mcall" => ((with_reducible show wpAny _ _ (call (Value.ref (nat_lit 91)) _) _ _ _); k_dflt (refine' numref2_claim ?k1 ?k2 ?k3 ?k4 ?k5 ?k6 ?k7 ?k8 ?kD ?kS ?kE ?kL ?_; (case k1 => k_asm); (case k2 => k_asm); (case k3 => k_asm); (case k4 => k_asm); (case k5 => k_asm); (case k6 => first | exact rfl | assumption); (case k7 => ktr_room); (case k8 => ktr_units); (case kD => assumption); (case kS => assumption); (case kE => assumption); (case kL => assumption)); intro Dn7 o7 all7 h7 tk7 P7 SK7 D7 hde7 F7 N7; (k_extra "mpair"); (have hm7 := Sink.sub SK7 _ List.mem_cons_self); (have hdd7 := D7.d); (try dsimp only); (try k_fold))
  k_with "mtup" => k_dflt (refine pair_item (News.isTup (by k_asm) (mem_led (by first | exact Sink.sub SK9 _ (hsub9 _ List.mem_cons_self) | assumption))) rfl ?_)
  k_with "mcall" => ((with_reducible show wpAny _ _ (call (Value.ref (nat_lit 440)) _) _ _ _); k_dflt (first | (refine' ready_t ?k1 ?k2 ?k3 ?k4 ?k5 ?k6 ?k7 ?k8 ?kD ?kS ?kL ?k0 ?_; (case k1 => k_asm); (case k2 => k_asm); (case k3 => k_asm); (case k4 => k_asm); (case k5 => k_asm); (case k6 => first | exact rfl | assumption); (case k7 => ktr_room); (case k8 => ktr_units); (case kD => assumption); (case kS => assumption); (case kL => assumption); (case k0 => assumption)) | (refine' ready_f ?k1 ?k2 ?k3 ?k4 ?k5 ?k6 ?k7 ?k8 ?kD ?kS ?kL ?k0 ?_; (case k1 => k_asm); (case k2 => k_asm); (case k3 => k_asm); (case k4 => k_asm); (case k5 => k_asm); (case k6 => first | exact rfl | assumption); (case k7 => ktr_room); (case k8 => ktr_units); (case kD => assumption); (case kS => assumption); (case kL => assumption); (case k0 => assumption))); intro h9 tk9 F9 N9; (try dsimp only); (try k_fold))
  k_with "mcall" => ((with_reducible show wpAny _ _ (call (Value.ref (nat_lit 433)) _) _ _ _); k_dflt (refine' step_all ?k1 ?k2 ?k3 ?k4 ?k5 ?k6 ?k7 ?k8 ?kD ?kS ?kE ?kL ?kO ?kP ?kG ?kH ?k0 ?kC ?kI ?kJ ?_; (case k1 => k_asm); (case k2 => k_asm); (case k3 => k_asm); (case k4 => k_asm); (case k5 => k_asm); (case k6 => first | exact rfl | assumption); (case k7 => ktr_room); (case k8 => ktr_units); (case kD => assumption); (case kS => assumption); (case kE => assumption); (case kL => assumption); (case kO => assumption); (case kP => assumption); (case kG => assumption); (case kH => assumption); (case k0 => assumption); (case kC => assumption); (case kI => assumption); (case kJ => assumption)); intro n2 at2 cd2 ta2 ts2 tf2 tc2 st2 bf2 ev2 ne2 all2 rest2 errs2 txt2 h2 tk2 hlt2 P2 h02 SK2 D2 hde2 hel2 hsub2 F2 N2; (try dsimp only); (try k_fold)) 
  trivial
theorem cut_int {prog : Program} {w : World} {A : Around} {e : Sem Value} {Q : Value → Shared → Prop} {E : Value → Shared → Prop} {s : Shared}
    (h1 : ∀ (d : Int) (t : Tok) (tk : Nat), Q (.int d t) { s with toks := tk })
    (h2 : ∀ Q' : Value → Shared → Prop, (∀ (d : Int) (t : Tok) (tk : Nat), Q' (.int d t) { s with toks := tk }) → wpAny (model prog w) A e Q' E s) : wpAny (model prog w) A e Q E s := h2 Q h1
theorem wdW6x1 : True := by
  k_with "eval IfExp" => (k_here; (fail_if_success (have hQ7 := hQ8)); (with_reducible show wpAny _ _ (eval (PySem.Expr.IfExp _ (PySem.Expr.Subscript _ _ _) _ _) _) _ _ _); refine cut_int ?_ ?_; rotate_left; intro Q8 hQ8; rotate_left; intro d8 t8 tk8; (all_goals try dsimp only); (all_goals try k_fold))
  k_with "mcall" => ((with_reducible show wpAny _ _ (call (Value.ref (nat_lit 91)) [Value.int _ _]) _ _ _); k_dflt (refine' numref_claim ?k1 ?k2 ?k3 ?k4 ?k5 ?k6 ?k7 ?k8 ?kp ?_; (case k1 => k_asm); (case k2 => k_asm); (case k3 => k_asm); (case k4 => k_asm); (case k5 => k_asm); (case k6 => first | exact rfl | assumption); (case k7 => ktr_room); (case k8 => ktr_units); (case kp => with_reducible assumption)); intro D9 o9 h9 tk9 P9 F9 N9 l9; (try k_lt l9); (have DP9 := pair_dpx (D := D9) P9); (clear P9); (try dsimp only); (try k_fold))
  k_with "mcall" => ((with_reducible show wpAny _ _ (call (Value.ref (nat_lit 531)) [Value.int _ _]) _ _ _); k_dflt (refine' meant_claim ?k1 ?k2 ?k3 ?k4 ?k5 ?k6 ?k7 ?k8 ?kp ?_; (case k1 => k_asm); (case k2 => k_asm); (case k3 => k_asm); (case k4 => k_asm); (case k5 => k_asm); (case k6 => first | exact rfl | assumption); (case k7 => ktr_room); (case k8 => ktr_units); (case kp => with_reducible assumption)); intro D9 o9 h9 tk9 P9 F9 N9 l9; (try k_lt l9); (have DP9 := pair_dpx (D := D9) P9); (clear P9); (try dsimp only); (try k_fold))
  k_with "mcall" => ((with_reducible show wpAny _ _ (call (Value.ref (nat_lit 450)) _) _ _ _); k_dflt (refine' newtok_claim ?k1 ?k2 ?k3 ?k4 ?k5 ?k6 ?k7 ?k8 ?_; (case k1 => k_asm); (case k2 => k_asm); (case k3 => k_asm); (case k4 => k_asm); (case k5 => k_asm); (case k6 => first | exact rfl | assumption); (case k7 => ktr_room); (case k8 => ktr_units)); intro Tk9 Td9 S9 SD9 G9 SE9 O9 E9 K9 KR9 ta9 ts9 tb9 tf9 tc9 tlv9 h9 tk9 lt9 ltT9 F9 N9; (have ltn9 := ltT9); (obtain ⟨lt1, lt2, lt3, lt4, lt5, lt6, lt7⟩ := lt9); (have lq2 := Nat.lt_trans lt1 lt2); (have lq3 := Nat.lt_trans lq2 lt3); (have lq4 := Nat.lt_trans lq3 lt4); (have lq5 := Nat.lt_trans lq4 lt5); (have lq6 := Nat.lt_trans lq5 lt6); (have lq7 := Nat.lt_trans lq6 lt7); (try k_lt ltn9); (try dsimp only); (try k_fold))
  k_with "mcall" => ((with_reducible show wpAny _ _ (call (Value.ref (nat_lit 506)) _) _ _ _); k_dflt (refine' newdraft_claim ?k1 ?k2 ?k3 ?k4 ?k5 ?k6 ?k7 ?k8 ?_; (case k1 => k_asm); (case k2 => k_asm); (case k3 => k_asm); (case k4 => k_asm); (case k5 => k_asm); (case k6 => first | exact rfl | assumption); (case k7 => ktr_room); (case k8 => ktr_units)); intro Da9 DD9 AT9 KD9 tt9 h9 tk9 lt9 ltD9 F9 N9; (have ltn9 := ltD9); (obtain ⟨lt8, lt99⟩ := lt9); (try k_lt ltn9); (try dsimp only); (try k_fold))
  k_with "mcall" => ((with_reducible show wpAny _ _ (call (Value.ref (nat_lit 475)) _) _ _ _); k_dflt (refine' begin_claim ?k1 ?k2 ?k3 ?k4 ?k5 ?k6 ?k7 ?k8 ?kA ?kB ?kC ?_; (case k1 => k_asm); (case k2 => k_asm); (case k3 => k_asm); (case k4 => k_asm); (case k5 => k_asm); (case k6 => first | exact rfl | assumption); (case k7 => ktr_room); (case k8 => ktr_units); (case kA => omega); (case kB => omega); (case kC => exact ne_keys ltD9 rfl lt8 lt99)); intro I9 ti1 ti2 h9 tk9 ltI9 F9 N9; (have ltn9 := ltI9); (try k_lt ltn9); (try dsimp only); (try k_fold))
  k_with "mcall" => ((with_reducible show wpAny _ _ (call (Value.ref (nat_lit 489)) _) _ _ _); k_dflt (refine' addv_claim ?k1 ?k2 ?k3 ?k4 ?k5 ?k6 ?k7 ?k8 ?kA ?kB ?kC ?kD ?kE ?kF ?_; (case k1 => k_asm); (case k2 => k_asm); (case k3 => k_asm); (case k4 => k_asm); (case k5 => k_asm); (case k6 => first | exact rfl | assumption); (case k7 => ktr_room); (case k8 => ktr_units); (case kA => omega); (case kB => omega); (case kC => omega); (case kD => exact fun p hp => Nat.ne_of_lt (ltI9 p (List.mem_cons_of_mem _ (List.mem_cons_of_mem _ (List.mem_cons_of_mem _ hp))))); (case kE => decide +kernel); (case kF => decide +kernel)); intro tv9 h9 tk9 F9 N9; (try dsimp only); (try k_fold))
  k_with "mcall" => ((with_reducible show wpAny _ _ (call (Value.ref (nat_lit 313)) _) _ _ _); first | (k_extra "mfeed1") | (k_extra "mfeed2"))
  k_with "mfeed1" => ((have hval9 := out_of C9.hback (by with_reducible assumption)); (have hrest9 : ∀ p ∈ (EL9, listOf (List.toArray vs9) k9) :: (X9 ++ kOwn), p.1 < Td9 := fun p hp => ltT9 p (by rcases List.mem_cons.mp hp with rfl | hp; (focus (repeat (first | with_reducible exact List.mem_cons_self | with_reducible exact hp | with_reducible exact List.mem_append_left _ hp | with_reducible refine List.mem_cons_of_mem _ ?_ | with_reducible refine List.mem_append_right _ ?_))); rcases List.mem_append.mp hp with hp | hp <;> (repeat (first | with_reducible exact List.mem_cons_self | with_reducible exact hp | with_reducible exact List.mem_append_left _ hp | with_reducible refine List.mem_cons_of_mem _ ?_ | with_reducible refine List.mem_append_right _ ?_)))); k_dflt (refine' feed_out (Tk := Tk9) (Td := Td9) (S := S9) (SD := SD9) (SE := SE9) (G := G9) (E' := E9) (O := O9) (K := K9) (KR := KR9) (gv := []) (ev := []) (ret := false) (rest := (EL9, listOf (List.toArray vs9) k9) :: (X9 ++ kOwn)) (by k_asm) (by k_asm) (by k_asm) (news_sub (by k_asm) (List.forall_mem_cons.mpr ⟨(by k_mem), List.forall_mem_cons.mpr ⟨(by k_mem), List.forall_mem_cons.mpr ⟨(by k_mem), List.forall_mem_cons.mpr ⟨(by k_mem), List.forall_mem_cons.mpr ⟨(by k_mem), List.forall_mem_cons.mpr ⟨(by k_mem), List.forall_mem_cons.mpr ⟨(by (repeat (first | exact List.mem_cons_self | refine List.mem_cons_of_mem _ ?_ | refine List.mem_append.mpr (Or.inr ?_)))), (by refine List.forall_mem_cons.mpr ⟨?_, ?_⟩; (focus (repeat (first | with_reducible exact List.mem_cons_self | with_reducible exact hp | with_reducible exact List.mem_append_left _ hp | with_reducible refine List.mem_cons_of_mem _ ?_ | with_reducible refine List.mem_append_right _ ?_))); refine List.forall_mem_cons.mpr ⟨?_, ?_⟩; (focus (repeat (first | with_reducible exact List.mem_cons_self | with_reducible exact hp | with_reducible exact List.mem_append_left _ hp | with_reducible refine List.mem_cons_of_mem _ ?_ | with_reducible refine List.mem_append_right _ ?_))); (intro p hp; rcases List.mem_append.mp hp with hp | hp <;> (repeat (first | with_reducible exact List.mem_cons_self | with_reducible exact hp | with_reducible exact List.mem_append_left _ hp | with_reducible refine List.mem_cons_of_mem _ ?_ | with_reducible refine List.mem_append_right _ ?_))))⟩⟩⟩⟩⟩⟩⟩)) (by k_asm) (by first | exact rfl | assumption) (by ktr_room) (by ktr_units) ⟨ltT9 (_, _) (by (repeat (first | exact List.mem_cons_self | refine List.mem_cons_of_mem _ ?_ | refine List.mem_append.mpr (Or.inr ?_)))), lt1, lt2, lt3, lt4, lt5, lt6, lt7⟩ hrest9 hval9 (case_plain C9) (case_len C9) ?_); intro gvF ngF allF hF tkF hsF SKF DF DFF FF NF; (try dsimp only); (try k_fold))
  k_with "mfeed2" => ((have hval9 := val_of C9.hback (by with_reducible assumption)); (have hrest9 : ∀ p ∈ (EL9, listOf (List.toArray vs9) k9) :: (X9 ++ kOwn), p.1 < Td9 := fun p hp => ltT9 p (by rcases List.mem_cons.mp hp with rfl | hp; (focus (repeat (first | with_reducible exact List.mem_cons_self | with_reducible exact hp | with_reducible exact List.mem_append_left _ hp | with_reducible refine List.mem_cons_of_mem _ ?_ | with_reducible refine List.mem_append_right _ ?_))); rcases List.mem_append.mp hp with hp | hp <;> (repeat (first | with_reducible exact List.mem_cons_self | with_reducible exact hp | with_reducible exact List.mem_append_left _ hp | with_reducible refine List.mem_cons_of_mem _ ?_ | with_reducible refine List.mem_append_right _ ?_)))); k_dflt (refine' feed_val (Tk := Tk9) (Td := Td9) (S := S9) (SD := SD9) (SE := SE9) (G := G9) (E' := E9) (O := O9) (K := K9) (KR := KR9) (gv := []) (ev := []) (ret := false) (rest := (EL9, listOf (List.toArray vs9) k9) :: (X9 ++ kOwn)) (dv := Value.none) (Da := Da9) (DD := DD9) (AT := AT9) (I := I9) (KD := KD9) (by k_asm) (by k_asm) (by k_asm) (news_sub (by k_asm) (List.forall_mem_cons.mpr ⟨(by k_mem), List.forall_mem_cons.mpr ⟨(by k_mem), List.forall_mem_cons.mpr ⟨(by k_mem), List.forall_mem_cons.mpr ⟨(by k_mem), List.forall_mem_cons.mpr ⟨(by k_mem), List.forall_mem_cons.mpr ⟨(by k_mem), List.forall_mem_cons.mpr ⟨(by (repeat (first | exact List.mem_cons_self | refine List.mem_cons_of_mem _ ?_ | refine List.mem_append.mpr (Or.inr ?_)))), (by refine List.forall_mem_cons.mpr ⟨?_, ?_⟩; (focus (repeat (first | with_reducible exact List.mem_cons_self | with_reducible exact hp | with_reducible exact List.mem_append_left _ hp | with_reducible refine List.mem_cons_of_mem _ ?_ | with_reducible refine List.mem_append_right _ ?_))); refine List.forall_mem_cons.mpr ⟨?_, ?_⟩; (focus (repeat (first | with_reducible exact List.mem_cons_self | with_reducible exact hp | with_reducible exact List.mem_append_left _ hp | with_reducible refine List.mem_cons_of_mem _ ?_ | with_reducible refine List.mem_append_right _ ?_))); refine List.forall_mem_cons.mpr ⟨?_, ?_⟩; (focus (repeat (first | with_reducible exact List.mem_cons_self | with_reducible exact hp | with_reducible exact List.mem_append_left _ hp | with_reducible refine List.mem_cons_of_mem _ ?_ | with_reducible refine List.mem_append_right _ ?_))); refine List.forall_mem_cons.mpr ⟨?_, ?_⟩; (focus (repeat (first | with_reducible exact List.mem_cons_self | with_reducible exact hp | with_reducible exact List.mem_append_left _ hp | with_reducible refine List.mem_cons_of_mem _ ?_ | with_reducible refine List.mem_append_right _ ?_))); refine List.forall_mem_cons.mpr ⟨?_, ?_⟩; (focus (repeat (first | with_reducible exact List.mem_cons_self | with_reducible exact hp | with_reducible exact List.mem_append_left _ hp | with_reducible refine List.mem_cons_of_mem _ ?_ | with_reducible refine List.mem_append_right _ ?_))); refine List.forall_mem_cons.mpr ⟨?_, ?_⟩; (focus (repeat (first | with_reducible exact List.mem_cons_self | with_reducible exact hp | with_reducible exact List.mem_append_left _ hp | with_reducible refine List.mem_cons_of_mem _ ?_ | with_reducible refine List.mem_append_right _ ?_))); (intro p hp; rcases List.mem_append.mp hp with hp | hp <;> (repeat (first | with_reducible exact List.mem_cons_self | with_reducible exact hp | with_reducible exact List.mem_append_left _ hp | with_reducible refine List.mem_cons_of_mem _ ?_ | with_reducible refine List.mem_append_right _ ?_))))⟩⟩⟩⟩⟩⟩⟩)) (by k_asm) (by first | exact rfl | assumption) (by ktr_room) (by ktr_units) ⟨ltT9 (_, _) (by (repeat (first | exact List.mem_cons_self | refine List.mem_cons_of_mem _ ?_ | refine List.mem_append.mpr (Or.inr ?_)))), lt1, lt2, lt3, lt4, lt5, lt6, lt7⟩ (ltD9 (_, _) (by k_mem)) lt8 lt99 (ltI9 (_, _) (by k_mem)) hrest9 hval9 rfl (by decide +kernel) (case_plain C9) (case_len C9) ?_); intro gvF ngF allF hF tkF hsF SKF DF DFF FF NF; (try dsimp only); (try k_fold))
  k_with "mcall" => ((with_reducible show wpAny _ _ (call (Value.ref (nat_lit 320)) _) _ _ _); (k_dflt (refine' end_claim (ev := []) (ret := false) ?k1 ?k2 ?k3 ?k4 ?k5 ?k6 ?k7 ?k8 DF DFF ?_; (case k1 => k_asm); (case k2 => k_asm); (case k3 => k_asm); (case k4 => k_asm); (case k5 => k_asm); (case k6 => first | exact rfl | assumption); (case k7 => ktr_room); (case k8 => ktr_units)); intro hG tkG FG NG; (try dsimp only); (try k_fold)))
  k_with "mcall" => ((with_reducible show wpAny _ _ (call (Value.ref (nat_lit 447)) _) _ _ _); (k_dflt (refine' run_claim (ev := []) (at' := 0) (st := PySem.Str.ofString "") ?k1 ?k2 ?k3 ?k4 ?k5 ?k6 ?k7 ?k8 DF SKF ?ko ?kl hsF (case_len100 C9) C9 (case_signs C9) ?_; (case k1 => k_asm); (case k2 => k_asm); (case k3 => k_asm); (case k4 => k_asm); (case k5 => k_asm); (case k6 => first | exact rfl | assumption); (case k7 => ktr_room); (case k8 => ktr_units); (case ko => assumption); (case kl => assumption)); intro ta2 ts2 tf2 tc2 cd2 bf2 ev2 ne2 all2 rest2 h2 tk2 hbf2 SK2 D2 hde2 hsub2 F2 N2; (subst hbf2); first | ((have hv8 : isVal back9 = false := by with_reducible exact hval9); k_dflt (obtain ⟨ovs2, no2, e2, dov2⟩ := sink_out SK2 hv8; subst e2)) | ((have hv8 : isVal back9 = true := by with_reducible exact hval9); (have htl9 := text_len C9); k_dflt (obtain ⟨DD2, AT2, I2, KD2, vk2, vn2, vt2, na2, ni2, no2, t12, tv2, e2⟩ := sink_val2 SK2 hv8; subst e2)); (try dsimp only); (try k_fold)))
  k_with "mne" => ((with_reducible show wpAny _ _ (compareOp CmpOp.NotEq (Value.ref _) (Value.ref _)) _ _ _); (k_dflt (refine' outs_ne NL9 hd9 hs9 (by k_mem) (fun p hp => by (repeat (first | with_reducible exact List.mem_cons_self | with_reducible exact hp | with_reducible exact List.mem_append_left _ hp | with_reducible refine List.mem_cons_of_mem _ ?_ | with_reducible refine List.mem_append_right _ ?_))) dov2 (text_low C9) (by ke_room) ?_; k_whole)))
  k_with "mne" => ((with_reducible show wpAny _ _ (compareOp CmpOp.NotEq (Value.ref _) (Value.ref _)) _ _ _); (k_dflt (refine' nils_ne (by k_asm) (by k_mem) (by k_mem) (by ke_room) ?_; k_whole)))
  k_with "mne" => ((with_reducible show wpAny _ _ (compareOp CmpOp.NotEq (Value.ref _) (Value.ref _)) _ _ _); (k_dflt (refine' attrs_ne (by k_asm) (by k_mem) (by k_mem) (by k_mem) (by k_mem) none_ok (ztext_ok C9) (by ke_room) ?_; k_whole)))
  k_with "mend" => ((k_dflt ((rename News _ _ _ _ => nE'); (rename Fr _ _ _ _ => fE'); (refine kst_end () fE' nE' (by intro p hp; rcases List.mem_cons.mp hp with rfl | hp; (focus (repeat (first | exact List.mem_cons_self | refine List.mem_cons_of_mem _ ?_ | refine List.mem_append.mpr (Or.inr ?_)))); cases hp) (by intro p hp; (have hp := hsub2 p (List.mem_cons_of_mem _ (List.mem_append_right _ hp))); (repeat (first | with_reducible exact List.mem_cons_self | with_reducible exact hp | with_reducible exact List.mem_append_left _ hp | with_reducible refine List.mem_cons_of_mem _ ?_ | with_reducible refine List.mem_append_right _ ?_))) (by rfl) True.intro (List.forall_mem_nil _) (by kst_same) True.intro))))
  k_with "mcomp" => (k_dflt (refine ListComp_text (by k_asm) (by with_unfolding_all rfl) (by decide) (by rfl) (by decide) (by rfl) ?_))
  k_with "mex" => (k_dflt (refine ⟨_, _, _, rfl, by rfl, by k_asm, by k_asm, text_size C9, ?_⟩; rintro s₂ ⟨hh9, rfl⟩; refine comp_chars ?_ ?_ _ 0 [] _ (Nat.zero_add _) .nil (fun _ h => h); rotate_left; intro c8 t8 I8 C8 DC8 oI8 oC8 m8 h8 tk8 ys8 nws8 E8 hC8 hx8 F8 N8 hs8; rotate_left; intro ys9 nws9 hd9 hs9 DL9 hL9 tkL9 FL9 NL9 o19; (have NL8 := news_under NL9 hs9)); (all_goals try dsimp only); (all_goals try k_fold))
  k_with "mchar" => (((rename News _ _ _ _ => kN8); (rename Fr _ _ _ _ => kF8); exact ⟨_, _, _, _, _, _, rfl, rfl, kF8, kN8, lt_all (by simp only [AllLt]; assumption)⟩))
  k_with "mne" => ((with_reducible show wpAny _ _ (compareOp CmpOp.NotEq (Value.ref _) (Value.ref _)) _ _ _); (k_dflt (refine' t4_ne (by k_asm) (by k_mem) (by k_mem) (back_ok C9.hback) none_ok (by ke_room) ?_; k_whole)))
  k_with "mne" => ((with_reducible show wpAny _ _ (compareOp CmpOp.NotEq (Value.ref _) (Value.ref _)) _ _ _); (k_dflt (refine' errs_ne ?y1 SK2 hde2 (hsub2 _ List.mem_cons_self) (fun p hp => hsub2 p (List.mem_cons_of_mem _ (List.mem_append_left _ hp))) DA9 ?y7 ?_; (case y1 => k_asm); (case y7 => ke_room); k_whole)))
  k_with "mne" => ((with_reducible show wpAny _ _ (compareOp CmpOp.NotEq (Value.ref _) (Value.ref _)) _ _ _); k_dflt (refine' dat_ne2 ?y1 ?y2 ?y3 ?y4 ?y5 ?y6 ?y7 ?_; (case y1 => k_asm); (case y2 => with_reducible assumption); (case y4 => with_reducible assumption); (case y3 => k_mem); (case y5 => k_mem); (case y6 => exact pair_ok (by with_reducible assumption)); (case y7 => ke_room); k_whole))
  trivial
theorem wdW6x2 : True := by
  k_with "compareOp NotEq ref ref" => (k_here; k_extra "mne")
  trivial
theorem wdW6x3 : True := by
  k_with "callWith ref" => (k_here; k_dflt (refine' callWith_K0 ?k1 ?k2 ?_; (case k1 => exact Frag.In.keeps (by with_reducible assumption) (Fr.keep (by with_reducible assumption))); (case k2 => k_is); k_whole))
  trivial
theorem wdW6x4 : True := by
  k_with "eval ListComp" => (k_here; k_extra "mcomp")
  trivial
theorem wdW6x5 : True := by
  k_with "Exists" => (k_here; k_extra "mex")
  trivial
theorem wdW6x6 : True := by
  k_with "CharEnd" => (k_here; k_extra "mchar")
  trivial
theorem wdW6x7 : True := by
  k_with "InvEndN" => (k_here; k_extra "mend")
  trivial
theorem wdW6x8 : True := by
  skip
  trivial
theorem walks : Walks := by
  intro d kwd hd
  have e : defOf Mine.q rw'.row.name = some _ := rfl
  cases hd.symm.trans e
  clear hd e
  k_with "pyIter ref" => k_search (fun (pre : List Int) => True)
  set_option rowWalk.seconds 0 in
  w_strict (k_go0; (all_goals try k_fold); k_steps; (all_goals exact hQ8 _ _ _))

theorem hd.tw6818987989461384207 : True := trivial
theorem hd.tw11389604556438737324 : True := trivial
theorem hd.tw17087091549796120035 : True := trivial
theorem hd.tw6924109203229866365 : True := trivial
theorem hd.tw8587404781116728655 : True := trivial
theorem hd.tw7519716089354478335 : True := trivial
theorem hd.tw14892549342360969540 : True := trivial
theorem hd.tw978945382295711627 : True := trivial
theorem hd.tw7523672394736509286 : True := trivial
theorem hd.tw6293948785866598258 : True := trivial
theorem hd.tw5961118342813265553 : True := trivial
theorem hd.tw9641152695372364146 : True := trivial
theorem hd.tw11128854368766332075 : True := trivial
theorem hd.tw4138081844389336918 : True := trivial
theorem hd.tw12591134339009171964 : True := trivial
theorem hd.tw4377701919642642989 : True := trivial
theorem hd.tw8068729725432388964 : True := trivial
theorem hd.tw10216474801634566288 : True := trivial
theorem hd.tw17711083657039698284 : True := trivial
theorem hd.tw5732804406350252772 : True := trivial
theorem hd.tw1452849714261714991 : True := trivial
theorem hd.tw16302227732802510677 : True := trivial
theorem hd.tw14620637471214046174 : True := trivial
theorem hd.tw12631932088317031055 : True := trivial
theorem hd.tw14176624398918483544 : True := trivial
theorem hd.tw15043168886218598503 : True := trivial
theorem hd.tw2867327485932766208 : True := trivial
theorem hd.tw10752148897807903841 : True := trivial
theorem hd.tw16649331688326792143 : True := trivial
theorem hd.tw15103106377680225435 : True := trivial
theorem hd.tw11652457597714270106 : True := trivial
theorem hd.tw3259873300814134281 : True := trivial
theorem hd.tw7793673504863384051 : True := trivial
theorem hd.tw13372043803930879067 : True := trivial
theorem hd.tw4856431653887292112 : True := trivial
theorem hd.tw307737655149646647 : True := trivial
theorem hd.tw3953601041324332601 : True := trivial
theorem hd.tw17397052962432165270 : True := trivial
theorem hd.tw2216850387143573719 : True := trivial
theorem hd.tw8684328023851190084 : True := trivial
theorem hd.tw12769127236821124696 : True := trivial
theorem hd.tw10507497572311344420 : True := trivial
theorem hd.tw18322514126500204803 : True := trivial
theorem hd.tw18241275227582772068 : True := trivial
theorem hd.tw5592360268479517082 : True := trivial
theorem hd.tw17061077104543960549 : True := trivial
theorem hd.tw1847840615245081061 : True := trivial
theorem hd.tw8047900516022102942 : True := trivial
theorem hd.tw8671608845466749128 : True := trivial
theorem hd.tw14896477498954680388 : True := trivial
theorem hd.tw8343274005884668182 : True := trivial
theorem hd.tw6998783941825042932 : True := trivial
theorem hd.tw16772102934027710169 : True := trivial
theorem hd.tw12936449754285732098 : True := trivial
theorem hd.tw8414420238210853183 : True := trivial
theorem hd.tw4845836938831722396 : True := trivial
theorem hd.tw16332348944364537037 : True := trivial
theorem hd.tw13330244855972007585 : True := trivial
theorem hd.tw17599816209265215132 : True := trivial
theorem hd.tw2114630138375439770 : True := trivial
theorem hd.tw10012880186880212623 : True := trivial
theorem hd.tw7752767780024739350 : True := trivial
theorem hd.tw17650839729002327288 : True := trivial
theorem hd.tw7540741092611519060 : True := trivial
theorem hd.tw12092154237167983948 : True := trivial
theorem hd.tw8053944837975664402 : True := trivial
theorem hd.tw6528754448969337418 : True := trivial
theorem hd.tw14598272352848978880 : True := trivial
theorem hd.tw5373601922739893978 : True := trivial
theorem hd.tw7540655947842036084 : True := trivial
theorem hd.tw10296555574160606952 : True := trivial
theorem hd.tw13130339120466069327 : True := trivial
theorem hd.tw7746578258024575070 : True := trivial
theorem hd.tw12588582704262371052 : True := trivial
theorem hd.tw5282504435634884242 : True := trivial
theorem hd.tw11953376511379268794 : True := trivial
theorem hd.tw1382963296337349011 : True := trivial
theorem hd.tw3182187488490625086 : True := trivial
theorem hd.tw15368132723985388332 : True := trivial
theorem hd.tw13518370688599389936 : True := trivial
theorem hd.tw13342606739435360313 : True := trivial
theorem hd.tw5363564295841288755 : True := trivial
theorem hd.tw5562173858411828344 : True := trivial
theorem hd.tw2167537188350426706 : True := trivial
theorem hd.tw13919464512627920130 : True := trivial
theorem hd.tw5278057926702712004 : True := trivial
theorem hd.tw13903934854276604550 : True := trivial
theorem hd.tw3443669649825651883 : True := trivial
theorem hd.tw6423634429210846174 : True := trivial
theorem hd.tw3915529967508079626 : True := trivial
theorem hd.tw6545403380812914513 : True := trivial
theorem hd.tw6482722132109649516 : True := trivial
theorem hd.tw3480954088277226078 : True := trivial
theorem hd.tw13609717118414637909 : True := trivial
theorem hd.tw8081886968326746073 : True := trivial
theorem hd.tw12173100003817136821 : True := trivial
theorem hd.tw7082855905992002993 : True := trivial
theorem hd.tw11631869004601391166 : True := trivial
theorem hd.tw4478964076566166474 : True := trivial
theorem hd.tw4115565904173853331 : True := trivial
theorem hd.tw6982297934935202809 : True := trivial
theorem hd.tw1798425829259240090 : True := trivial
theorem hd.tw7721951785955056133 : True := trivial
theorem hd.tw14294001040229213422 : True := trivial
theorem hd.tw13280443560766958183 : True := trivial
theorem hd.tw10525666975642140466 : True := trivial
theorem hd.tw7510230149288206974 : True := trivial
theorem hd.tw8832402302947667407 : True := trivial
theorem hd.tw2502866573005156581 : True := trivial
theorem hd.tw12901994302517312135 : True := trivial
theorem hd.tw6819123309680001836 : True := trivial
theorem hd.tw1299046323782801668 : True := trivial
theorem hd.tw5987830557187376847 : True := trivial
theorem hd.tw17901334829092211166 : True := trivial
theorem hd.tw2195365466389143174 : True := trivial
theorem hd.tw13225837485096350037 : True := trivial
theorem hd.tw16037735763661986305 : True := trivial
theorem hd.tw6598312636042714100 : True := trivial
theorem hd.tw16155205043701107222 : True := trivial
theorem hd.tw8117029840178788049 : True := trivial
theorem hd.tw9427301549700849589 : True := trivial
theorem hd.tw9421340871869096474 : True := trivial
theorem hd.tw7610815399733428385 : True := trivial
theorem hd.tw4136554803537287180 : True := trivial
theorem hd.tw701787995468756871 : True := trivial
theorem hd.tw7914949630228597729 : True := trivial
theorem hd.tw12050417470231563642 : True := trivial
theorem hd.tw7676003278276379012 : True := trivial
theorem hd.tw190519026028168232 : True := trivial
theorem hd.tw16056359734778111409 : True := trivial
theorem hd.tw920214292312260371 : True := trivial
theorem hd.tw9277588360372424766 : True := trivial
theorem hd.tw15463257786427224491 : True := trivial
theorem hd.tw17047115858639842297 : True := trivial
theorem hd.tw17420951861521290806 : True := trivial
theorem hd.tw5978321128707920903 : True := trivial
theorem hd.tw2457190517430149469 : True := trivial
theorem hd.tw1118553966540926140 : True := trivial
theorem hd.tw9783614193127449063 : True := trivial
theorem hd.tw8965841893048198262 : True := trivial
theorem hd.tw5635641802508607975 : True := trivial
theorem hd.tw13483081372092288885 : True := trivial
theorem hd.tw8977307856219701671 : True := trivial
theorem hd.tw14060154772996877548 : True := trivial
theorem hd.tw4706079058837389440 : True := trivial
theorem hd.tw8727321023445011275 : True := trivial
theorem hd.tw7654286748164834634 : True := trivial
theorem hd.tw2274498078352570744 : True := trivial
theorem hd.tw8538877666451538035 : True := trivial
theorem hd.tw4993660671451451078 : True := trivial
theorem hd.tw5716766192118558609 : True := trivial
theorem hd.tw16006246977917349235 : True := trivial
theorem hd.tw13855946660403688772 : True := trivial
theorem hd.tw5245234834050458271 : True := trivial
theorem hd.tw10258999931320997221 : True := trivial
theorem hd.tw10170382586518783626 : True := trivial
theorem hd.tw2284436838669742495 : True := trivial
theorem hd.tw15166520500009309586 : True := trivial
theorem hd.tw17574625026820762457 : True := trivial
theorem hd.tw16794629799341752650 : True := trivial
theorem hd.tw11011131195910976488 : True := trivial
theorem hd.tw16412773359747925120 : True := trivial
theorem hd.tw10403243965636340961 : True := trivial
theorem hd.tw4225703048834024713 : True := trivial
theorem hd.tw9557236495431379559 : True := trivial
theorem hd.tw4172343393113369950 : True := trivial
theorem hd.tw7366208706002141716 : True := trivial
theorem hd.tw4015398097383911347 : True := trivial
theorem hd.tw16945582573551092051 : True := trivial
theorem hd.tw3828038474966422129 : True := trivial
theorem hd.tw9430268157657104642 : True := trivial
theorem hd.tw8004679753235328684 : True := trivial
theorem hd.tw15987713032478767096 : True := trivial
theorem hd.tw881544763273948857 : True := trivial
theorem hd.tw17130151131035750659 : True := trivial
theorem hd.tw16853341256802265648 : True := trivial
theorem hd.tw9386895884608548742 : True := trivial
theorem hd.tw11213053971927718326 : True := trivial
theorem hd.tw1588505670450824345 : True := trivial
theorem hd.tw15527848837575444561 : True := trivial
theorem hd.tw14768889098011018680 : True := trivial
theorem hd.tw13638418597567726942 : True := trivial
theorem hd.tw14772383043592177042 : True := trivial
theorem hd.tw3381375190539634487 : True := trivial
theorem hd.tw17986969038992634876 : True := trivial
theorem hd.tw13828106393651249627 : True := trivial
theorem hd.tw17588044629489971554 : True := trivial
theorem hd.tw6906073325868019850 : True := trivial
theorem hd.tw4851647983119433812 : True := trivial
theorem hd.tw16473244170626142550 : True := trivial
theorem hd.tw226724450230711188 : True := trivial
theorem hd.tw14960593345356199642 : True := trivial
theorem hd.tw6186238094035137676 : True := trivial
theorem hd.tw10743916045514856203 : True := trivial
theorem hd.tw10784824025267889561 : True := trivial
theorem hd.tw14705683404202351889 : True := trivial
theorem hd.tw15508949281206285077 : True := trivial
theorem hd.tw3404104791013757517 : True := trivial
theorem hd.tw12487502673411948298 : True := trivial
theorem hd.tw3109861748172591687 : True := trivial
theorem hd.tw16828841361933241965 : True := trivial
theorem hd.tw15595854959937240912 : True := trivial
theorem hd.tw15083628210047938546 : True := trivial
theorem hd.tw6196171512934965099 : True := trivial
theorem hd.tw3026753882482905222 : True := trivial
theorem hd.tw17950676927832955104 : True := trivial
theorem hd.tw7109450275434161582 : True := trivial
theorem hd.tw6898005170327248138 : True := trivial
theorem hd.tw10458740792067480800 : True := trivial
theorem hd.tw1506431575118746342 : True := trivial
theorem hd.tw17183224562656869120 : True := trivial
theorem hd.tw15833661619300960221 : True := trivial
theorem hd.tw12112201142124510154 : True := trivial
theorem hd.tw17678243848840562019 : True := trivial
theorem hd.tw12394076208661396346 : True := trivial
theorem hd.tw13038990169509382042 : True := trivial
theorem hd.tw16091413853298234908 : True := trivial
theorem hd.tw3530705653197291679 : True := trivial
theorem hd.tw7634515778581822779 : True := trivial
theorem hd.tw1623716613649749871 : True := trivial
theorem hd.tw54727356038600574 : True := trivial
theorem hd.tw6820862383352777685 : True := trivial
theorem hd.tw402640490398009360 : True := trivial
theorem hd.tw8716120427605611371 : True := trivial
theorem hd.tw15837987909243819085 : True := trivial
theorem hd.tw8960069828448710407 : True := trivial
theorem hd.tw7120233287515763914 : True := trivial
theorem hd.tw7763873220885509757 : True := trivial
theorem hd.tw6882427118574961969 : True := trivial
theorem hd.tw15642763164714097627 : True := trivial
theorem hd.tw2845679848157327705 : True := trivial
theorem hd.tw6276725880618359904 : True := trivial
theorem hd.tw991583007596301734 : True := trivial
theorem hd.tw5505005885091257285 : True := trivial
theorem hd.tw3789350110615891812 : True := trivial
theorem hd.tw18293851220164018083 : True := trivial
theorem hd.tw13466754112058979494 : True := trivial
theorem hd.tw15048261121198461528 : True := trivial
theorem hd.tw1589133516308662214 : True := trivial
theorem hd.tw17491280204586788870 : True := trivial
theorem hd.tw15643275761693703936 : True := trivial
theorem hd.tw1781861727890032366 : True := trivial
theorem hd.tw5174551420813472067 : True := trivial
theorem hd.tw1610171440888473627 : True := trivial
theorem hd.tw9170477692918782315 : True := trivial
theorem hd.tw18103342009636024947 : True := trivial
theorem hd.tw6136932545381038964 : True := trivial
theorem hd.tw15967140613478806237 : True := trivial
theorem hd.tw16194383521188589630 : True := trivial
theorem hd.tw1699103778626983548 : True := trivial
theorem hd.tw432457690288141553 : True := trivial
theorem hd.tw189712035060473897 : True := trivial
theorem hd.tw12598724348716800887 : True := trivial
theorem hd.tw11210553801493137410 : True := trivial
theorem hd.tw13220430256171166289 : True := trivial
theorem hd.tw17387473266821786944 : True := trivial
theorem hd.tw18129098259903571784 : True := trivial
theorem hd.tw6123773746684550334 : True := trivial
theorem hd.tw13531480815435691940 : True := trivial
theorem hd.tw13285133528070534704 : True := trivial
theorem hd.tw7068711184596962023 : True := trivial
theorem hd.tw1413172679324656950 : True := trivial
theorem hd.tw9719896912496429819 : True := trivial
theorem hd.tw5902613922787404954 : True := trivial
theorem hd.tw11713075325732132258 : True := trivial
theorem hd.tw8428860471423672150 : True := trivial
theorem hd.tw9731375825926819010 : True := trivial
theorem hd.tw1580110805410547442 : True := trivial
theorem hd.tw2493985911018215709 : True := trivial
theorem hd.tw6154236146145331571 : True := trivial
theorem hd.tw10583446816852156582 : True := trivial
theorem hd.tw10030107230732127627 : True := trivial
theorem hd.tw12949589719889679912 : True := trivial
theorem hd.tw8879563391730754479 : True := trivial
theorem hd.tw8268277133935991078 : True := trivial
theorem hd.tw250903467453971090 : True := trivial
theorem hd.tw14955159897011116063 : True := trivial
theorem hd.tw8242931771332617035 : True := trivial
theorem hd.tw10024716035694756283 : True := trivial
theorem hd.tw3941438180925939637 : True := trivial
theorem hd.tw180250358704556663 : True := trivial
theorem hd.tw10246146449241189800 : True := trivial
theorem hd.tw5130813555471234732 : True := trivial
theorem hd.tw7512474625130614241 : True := trivial
theorem hd.tw8001178428526945343 : True := trivial
theorem hd.tw15089522573102190283 : True := trivial
theorem hd.tw11917015161858427179 : True := trivial
theorem hd.tw7382370116671421104 : True := trivial
theorem hd.tw9748044761591592747 : True := trivial
theorem hd.tw16154546982801380032 : True := trivial
theorem hd.tw18166333605607142505 : True := trivial
theorem hd.tw16299908979028503884 : True := trivial
theorem hd.tw15114108414909977919 : True := trivial
theorem hd.tw12451258846644117672 : True := trivial
theorem hd.tw1359830224848277088 : True := trivial
theorem hd.tw12744807935193187038 : True := trivial
theorem hd.tw11079593142295127227 : True := trivial
theorem hd.tw11054480109507316185 : True := trivial
theorem hd.tw11631947586910100387 : True := trivial
theorem hd.tw13825509269061658866 : True := trivial
theorem hd.tw2327210489368252092 : True := trivial
theorem hd.tw2386827423013361158 : True := trivial
theorem hd.tw14560493823538711346 : True := trivial
theorem hd.tw100483095206116625 : True := trivial
theorem hd.tw5480042469492414594 : True := trivial
theorem hd.tw16634568088961857937 : True := trivial
theorem hd.tw9398405308114057262 : True := trivial
theorem hd.tw5629675986466331604 : True := trivial
theorem hd.tw13790719812936386609 : True := trivial
theorem hd.tw6164396464334811476 : True := trivial
theorem hd.tw18245042118932799458 : True := trivial
theorem hd.tw10919297434634762262 : True := trivial
theorem hd.tw17919194246423945575 : True := trivial
theorem hd.tw2315301623876862497 : True := trivial
theorem hd.tw9702936160620672325 : True := trivial
theorem hd.tw15615537253650120727 : True := trivial
theorem hd.tw6469175993241445255 : True := trivial
theorem hd.tw8934143017859847078 : True := trivial
theorem hd.tw8025032847418708242 : True := trivial
theorem hd.tw15422856539912107476 : True := trivial
theorem hd.tw1013155817946168525 : True := trivial
theorem hd.tw17330945745186091897 : True := trivial
theorem hd.tw16970440968685349367 : True := trivial
theorem hd.tw1409312971732116557 : True := trivial
theorem hd.tw4870687313549177768 : True := trivial
theorem hd.tw1011335219593555734 : True := trivial
theorem hd.tw5292301768408028288 : True := trivial
theorem hd.tw1608453256928411877 : True := trivial
theorem hd.tw6683769817339685419 : True := trivial
theorem hd.tw162610821266807592 : True := trivial
theorem hd.tw1954109241102656831 : True := trivial
theorem hd.tw8609351116199087170 : True := trivial
theorem hd.tw6965799899956892507 : True := trivial
theorem hd.tw18093812233618175256 : True := trivial
theorem hd.tw12399718760709695909 : True := trivial
theorem hd.tw1222794163293265305 : True := trivial
theorem hd.tw5054737718236178183 : True := trivial
theorem hd.tw13409441903868389331 : True := trivial
theorem hd.tw9763420282994701918 : True := trivial
theorem hd.tw4360684699965382250 : True := trivial
theorem hd.tw17672654358674132775 : True := trivial
theorem hd.tw4521311704260346916 : True := trivial
theorem hd.tw8735263284916673568 : True := trivial
theorem hd.tw17893044597097874663 : True := trivial
theorem hd.tw13267510147771200024 : True := trivial
theorem hd.tw11032806212648032379 : True := trivial
theorem hd.tw15042006015671813226 : True := trivial
theorem hd.tw6931407450589930559 : True := trivial
theorem hd.tw15910714762333108613 : True := trivial
theorem hd.tw16640546478005224243 : True := trivial
theorem hd.tw17491317419825422843 : True := trivial
theorem hd.tw18343703819029505601 : True := trivial
theorem hd.tw17681399029576232318 : True := trivial
theorem hd.tw8959176491354863721 : True := trivial
theorem hd.tw2930668341846507884 : True := trivial
theorem hd.tw5559951931751713254 : True := trivial
theorem hd.tw13783031573616600631 : True := trivial
theorem hd.tw3178231758103763310 : True := trivial
theorem hd.tw15220180469806662145 : True := trivial
theorem hd.tw280609765759037681 : True := trivial
theorem hd.tw5511420028821071320 : True := trivial
theorem hd.tw13315533130655954831 : True := trivial
theorem hd.tw7880807054014371918 : True := trivial
theorem hd.tw7270182246851987180 : True := trivial
theorem hd.tw3309697970292668127 : True := trivial
theorem hd.tw15153279154761372571 : True := trivial
theorem hd.tw12614811148066621264 : True := trivial
theorem hd.tw13289513938125300765 : True := trivial
theorem hd.tw6140570298594658328 : True := trivial
theorem hd.tw7797450820258998105 : True := trivial
theorem hd.tw14553816603554493358 : True := trivial
theorem hd.tw5009564483982726761 : True := trivial
theorem hd.tw4383666589626881386 : True := trivial
theorem hd.tw17234923516513369237 : True := trivial
theorem hd.tw10949625832625181284 : True := trivial
theorem hd.tw11709330566771433103 : True := trivial
theorem hd.tw2480057099694739299 : True := trivial
theorem hd.tw15813434630575017362 : True := trivial
theorem hd.tw16722109127936396110 : True := trivial
theorem hd.tw6555240042291301478 : True := trivial
theorem hd.tw6411954120941647267 : True := trivial
theorem hd.tw16713699803418581334 : True := trivial
theorem hd.tw8516288146210602744 : True := trivial
theorem hd.tw11435306503888081074 : True := trivial
theorem hd.tw922143313871775805 : True := trivial
theorem hd.tw10792051664901133789 : True := trivial
theorem hd.tw2391449824757734642 : True := trivial
theorem hd.tw6785817131721698500 : True := trivial
theorem hd.tw17258206423299326598 : True := trivial
theorem hd.tw15416985209724490359 : True := trivial
theorem hd.tw3442329435671937591 : True := trivial
theorem hd.tw9298403506768410418 : True := trivial
theorem hd.tw12070051907170230399 : True := trivial
theorem hd.tw9499510787657705874 : True := trivial
theorem hd.tw11232374478483605306 : True := trivial
theorem hd.tw17562767543260142214 : True := trivial
theorem hd.tw10860895700388868024 : True := trivial
theorem hd.tw9345676750909349944 : True := trivial
theorem hd.tw2442259710966052079 : True := trivial
theorem hd.tw16211521421427940678 : True := trivial
theorem hd.tw2999033326186475339 : True := trivial
theorem hd.tw185848376630758926 : True := trivial
theorem hd.tw7369741819223213686 : True := trivial
theorem hd.tw17714235663813219645 : True := trivial
theorem hd.tw5366084841770067474 : True := trivial
theorem hd.tw11959044307898795358 : True := trivial
theorem hd.tw8789358453043137523 : True := trivial
theorem hd.tw14745743045033390146 : True := trivial
theorem hd.tw10614716105012338702 : True := trivial
theorem hd.tw9960721518486171458 : True := trivial
theorem hd.tw8990313861142287110 : True := trivial
theorem hd.tw7153062008950511462 : True := trivial
theorem hd.tw1097998534492414930 : True := trivial
theorem hd.tw16007149819294483003 : True := trivial
theorem hd.tw8134915037123179040 : True := trivial
theorem hd.tw845060206244984605 : True := trivial
theorem hd.tw17903497710992402801 : True := trivial
theorem hd.tw9345929723534960622 : True := trivial
theorem hd.tw3919010098100093602 : True := trivial
theorem hd.tw1997569388931296116 : True := trivial
theorem hd.tw17948085552500728524 : True := trivial
theorem hd.tw17054507655720011243 : True := trivial
theorem hd.tw5416991563250132298 : True := trivial
theorem hd.tw11389486352061984695 : True := trivial
theorem hd.tw1760603350576429475 : True := trivial
theorem hd.tw3008623586974134963 : True := trivial
theorem hd.tw16920754564084929960 : True := trivial
theorem hd.tw519851828213033955 : True := trivial
theorem hd.tw10491609206876299696 : True := trivial
theorem hd.tw17975533764899295144 : True := trivial
theorem hd.tw6804821044290156842 : True := trivial
theorem hd.tw8364274539379898114 : True := trivial
theorem hd.tw13893168526513508166 : True := trivial
theorem hd.tw9184186324627900627 : True := trivial
theorem hd.tw17336936450418997793 : True := trivial
theorem hd.tw1848646778235469078 : True := trivial
theorem hd.tw6759412095888398321 : True := trivial
theorem hd.tw4402725079659364252 : True := trivial
theorem hd.tw15213948185873263833 : True := trivial
theorem hd.tw8458067239894703972 : True := trivial
theorem hd.tw8226494294326810461 : True := trivial
theorem hd.tw11251137523995926341 : True := trivial
theorem hd.tw16858285156579221889 : True := trivial
theorem hd.tw17739348878880393726 : True := trivial
theorem hd.tw15790720579355451973 : True := trivial
theorem hd.tw11319892378374348655 : True := trivial
theorem hd.tw3452082135128663414 : True := trivial
theorem hd.tw728884934406724761 : True := trivial
theorem hd.tw17606422857730326317 : True := trivial
theorem hd.tw14574188249326674665 : True := trivial
theorem hd.tw9555612238305686254 : True := trivial
theorem hd.tw2051048951616859547 : True := trivial
theorem hd.tw13368278939475635651 : True := trivial
theorem hd.tw11465210709893060100 : True := trivial
theorem hd.tw3451239065008710300 : True := trivial
theorem hd.tw15344866539931968096 : True := trivial
theorem hd.tw18291419657060728153 : True := trivial
theorem hd.tw10738003575532504788 : True := trivial
theorem hd.tw15759970867653108152 : True := trivial
theorem hd.tw6407587892757256292 : True := trivial
theorem hd.tw15411387601460861337 : True := trivial
theorem hd.tw8184699220007379433 : True := trivial
theorem hd.tw4086058157674990017 : True := trivial
theorem hd.tw395138700845864316 : True := trivial
theorem hd.tw10905682514733158466 : True := trivial
theorem hd.tw7494724483528729301 : True := trivial
theorem hd.tw4159134105002834734 : True := trivial
theorem hd.tw9228397985900620932 : True := trivial
theorem hd.tw8457440626546761165 : True := trivial
theorem hd.tw9673543361469618366 : True := trivial
theorem hd.tw2799067240506288376 : True := trivial
theorem hd.tw9566141503761928105 : True := trivial
theorem hd.tw9945753312205779467 : True := trivial
theorem hd.tw3571134770919094901 : True := trivial
theorem hd.tw4642405928176397000 : True := trivial
theorem hd.tw13338143212406534295 : True := trivial
theorem hd.tw15946388913382835224 : True := trivial
theorem hd.tw13181700845877081190 : True := trivial
theorem hd.tw16345102440705955213 : True := trivial
theorem hd.tw9237616624170024493 : True := trivial
theorem hd.tw7754304195085646258 : True := trivial
theorem hd.tw3435673168844421263 : True := trivial
theorem hd.tw1197925565968671727 : True := trivial
theorem hd.tw15673258824015622330 : True := trivial
theorem hd.tw10258225898301398825 : True := trivial
theorem hd.tw18103420901670897651 : True := trivial
theorem hd.tw13753220567063992666 : True := trivial
theorem hd.tw3493717111155160527 : True := trivial
theorem hd.tw18350433093344046624 : True := trivial
theorem hd.tw2783992281797965187 : True := trivial
theorem hd.tw22551697357593593 : True := trivial
theorem hd.tw3795277891434052102 : True := trivial
theorem hd.tw6291416237084387574 : True := trivial
theorem hd.tw2380272775587480882 : True := trivial
theorem hd.tw6868836192036940282 : True := trivial
theorem hd.tw11801993109049149486 : True := trivial
theorem hd.tw7534799579077118603 : True := trivial
theorem hd.tw9533747618267967006 : True := trivial
theorem hd.tw6892424819385984264 : True := trivial
theorem hd.tw3694398316872202419 : True := trivial
theorem hd.tw6767318904944593275 : True := trivial
theorem hd.tw10601615944963115059 : True := trivial
theorem hd.tw7296583596125217682 : True := trivial
theorem hd.tw10678649693572172417 : True := trivial
theorem hd.tw11778180911958503814 : True := trivial
theorem hd.tw5461583852855630226 : True := trivial
theorem hd.tw14478148883734587675 : True := trivial
theorem hd.tw8086110750863094267 : True := trivial
theorem hd.tw12271959270614036898 : True := trivial
theorem hd.tw2608437505485318709 : True := trivial
theorem hd.tw8381844023166312768 : True := trivial
theorem hd.tw541196102884509978 : True := trivial
theorem hd.tw15852365999677673905 : True := trivial
theorem hd.tw18264374347568628810 : True := trivial
theorem hd.tw17177331786930743035 : True := trivial
theorem hd.tw758273949599710562 : True := trivial
theorem hd.tw7289634563603522867 : True := trivial
theorem hd.tw4325921153153474475 : True := trivial
theorem hd.tw17252143746492648416 : True := trivial
theorem hd.tw17001982702790524580 : True := trivial
theorem hd.tw6184460063843016694 : True := trivial
theorem hd.tw14457593812595234344 : True := trivial
theorem hd.tw5343241284826551009 : True := trivial
theorem hd.tw7155415327029175403 : True := trivial
theorem hd.tw13435371860627755909 : True := trivial
theorem hd.tw1147470481896660410 : True := trivial
theorem hd.tw6264232113106981867 : True := trivial
theorem hd.tw18219297243305740317 : True := trivial
theorem hd.tw15367242080415987702 : True := trivial
theorem hd.tw4278124947684190350 : True := trivial
theorem hd.tw11136197038861592535 : True := trivial
theorem hd.tw5247051413645994129 : True := trivial
theorem hd.tw6442067068224118133 : True := trivial
theorem hd.tw16477043939570097188 : True := trivial
theorem hd.tw16171809288044610508 : True := trivial
theorem hd.tw15615420239508185596 : True := trivial
theorem hd.tw3229955645248102723 : True := trivial
theorem hd.tw10603584201595350602 : True := trivial
theorem hd.tw6663896369628448293 : True := trivial
theorem hd.tw15948780112781908787 : True := trivial
theorem hd.tw14980023328507725902 : True := trivial
theorem hd.tw12602439190401603521 : True := trivial
theorem hd.tw11151547217846952531 : True := trivial
theorem hd.tw9657781627882305391 : True := trivial
theorem hd.tw2068664650715991707 : True := trivial
theorem hd.tw4788038989552484473 : True := trivial
theorem hd.tw1241404454085649124 : True := trivial
theorem hd.tw2329189449893159454 : True := trivial
theorem hd.tw2788664435532181463 : True := trivial
theorem hd.tw5190246844813560578 : True := trivial
theorem hd.tw14852329139284432860 : True := trivial
theorem hd.tw14103535550066685397 : True := trivial
theorem hd.tw8356816923877370021 : True := trivial
theorem hd.tw15683763237869141255 : True := trivial
theorem hd.tw12038449962744721747 : True := trivial
theorem hd.tw16432713993328977331 : True := trivial
theorem hd.tw4297731678662094536 : True := trivial
theorem hd.tw5283464899586487735 : True := trivial
theorem hd.tw876933089483189297 : True := trivial
theorem hd.tw14246236162039180721 : True := trivial
theorem hd.tw16011055738799735888 : True := trivial
theorem hd.tw1194904439430580092 : True := trivial
theorem hd.tw6329026251626060993 : True := trivial
theorem hd.tw11006295307154197183 : True := trivial
theorem hd.tw12113243949977362033 : True := trivial
theorem hd.tw8228950375871286339 : True := trivial
theorem hd.tw10879034167726328663 : True := trivial
theorem hd.tw16064382804478563927 : True := trivial
theorem hd.tw6394381022753523788 : True := trivial
theorem hd.tw17062030032774818151 : True := trivial
theorem hd.tw2252305205657439004 : True := trivial
theorem hd.tw4494801613693538912 : True := trivial
theorem hd.tw7526368328331116154 : True := trivial
theorem hd.tw10424393626065333798 : True := trivial
theorem hd.tw11551083187376567056 : True := trivial
theorem hd.tw1439246655266547700 : True := trivial
theorem hd.tw6438293893037913957 : True := trivial
theorem hd.tw3429492842335990350 : True := trivial
theorem hd.tw12023040214023829324 : True := trivial
set_option Elab.async true in
theorem hd : rw'.Holds := by
  refine holds_law Mine.well fun said => ?_
  o_head (kHook Mine.top.heap_1 Mine.as asOk)
  case hw => w_witness2
  exact walks _ _ rfl
end Mine
theorem PySem.Challenge.cw_nz0097_01_holds : PySem.Challenge.rw_nz0097_01.Holds :=
  Mine.hd
