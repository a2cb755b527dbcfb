import PyProof.Rows.All
import Wide.All
import OpenK.AllK
import Wide.FinOn
import PySem.Challenge.RW_nm0114_01
open PySem PySem.W PySem.Spec PySem.Calls PyProof.Rows
set_option Elab.async false
set_option maxRecDepth 100000
namespace Mine
section
noncomputable def lookI {α : Type} (c : Int) : List (Int × α) → Option α
  | [] => none
  | (k, d) :: r => if k = c then some d else lookI c r
theorem lookI_map {α β : Type} (g : α → β) (c : Int) : ∀ l : List (Int × α), lookI c (l.map fun p => (p.1, g p.2)) = (lookI c l).map g
  | [] => rfl
  | (k, d) :: r => by
    show (if k = c then some (g d) else lookI c (r.map fun p => (p.1, g p.2))) = _
    rw [lookI_map g c r]
    by_cases h : k = c <;> simp [lookI, h]
/-! the program's tables, as data -/
noncomputable def loadsL : List (Int × List Int) :=
  [(40, [(-1), 4, 0]), (41, [(-2), 8, 0]), (44, [(-1), 1, 1]), (45, [(-1), 1, 0]), (46, [(-1), 2, 1]), (47, [(-1), 2, 0]), (48, [(-2), 1, 1]), (49, [(-2), 1, 0]), (50, [(-2), 2, 1]), (51, [(-2), 2, 0]), (52, [(-2), 4, 1]), (53, [(-2), 4, 0])]
noncomputable def storesL : List (Int × List Int) :=
  [(54, [(-1), 4]), (55, [(-2), 8]), (58, [(-1), 1]), (59, [(-1), 2]), (60, [(-2), 1]), (61, [(-2), 2]), (62, [(-2), 4])]
noncomputable def formsL : List (Int × Str) :=
  [(0, Str.mk #[110, 111, 110, 101]),
   (1, Str.mk #[110, 111, 110, 101]),
   (2, Str.mk #[98, 108, 111, 99, 107]),
   (3, Str.mk #[98, 108, 111, 99, 107]),
   (4, Str.mk #[98, 108, 111, 99, 107]),
   (5, Str.mk #[110, 111, 110, 101]),
   (11, Str.mk #[110, 111, 110, 101]),
   (12, Str.mk #[108, 97, 98, 101, 108]),
   (13, Str.mk #[108, 97, 98, 101, 108]),
   (14, Str.mk #[108, 97, 98, 101, 108, 115]),
   (15, Str.mk #[110, 111, 110, 101]),
   (16, Str.mk #[102, 117, 110, 99]),
   (17, Str.mk #[105, 110, 100, 105, 114, 101, 99, 116]),
   (18, Str.mk #[102, 117, 110, 99]),
   (19, Str.mk #[105, 110, 100, 105, 114, 101, 99, 116]),
   (26, Str.mk #[110, 111, 110, 101]),
   (27, Str.mk #[110, 111, 110, 101]),
   (28, Str.mk #[107, 105, 110, 100, 115]),
   (32, Str.mk #[108, 111, 99, 97, 108]),
   (33, Str.mk #[108, 111, 99, 97, 108]),
   (34, Str.mk #[108, 111, 99, 97, 108]),
   (35, Str.mk #[103, 108, 111, 98, 97, 108]),
   (36, Str.mk #[103, 108, 111, 98, 97, 108]),
   (37, Str.mk #[116, 97, 98, 108, 101]),
   (38, Str.mk #[116, 97, 98, 108, 101]),
   (63, Str.mk #[109, 101, 109, 111, 114, 121]),
   (64, Str.mk #[109, 101, 109, 111, 114, 121]),
   (65, Str.mk #[105, 51, 50]),
   (66, Str.mk #[105, 54, 52]),
   (208, Str.mk #[114, 101, 102, 107, 105, 110, 100]),
   (209, Str.mk #[110, 111, 110, 101]),
   (210, Str.mk #[102, 117, 110, 99]),
   (64520, Str.mk #[109, 101, 109, 111, 114, 121, 95, 105, 110, 105, 116]),
   (64521, Str.mk #[100, 97, 116, 97]),
   (64522, Str.mk #[116, 119, 111, 95, 109, 101, 109, 111, 114, 105, 101, 115]),
   (64523, Str.mk #[109, 101, 109, 111, 114, 121]),
   (64524, Str.mk #[116, 97, 98, 108, 101, 95, 105, 110, 105, 116]),
   (64525, Str.mk #[101, 108, 101, 109]),
   (64526, Str.mk #[116, 97, 98, 108, 101, 95, 99, 111, 112, 121]),
   (64527, Str.mk #[116, 97, 98, 108, 101]),
   (64528, Str.mk #[116, 97, 98, 108, 101]),
   (64529, Str.mk #[116, 97, 98, 108, 101])]
noncomputable def fixedL : List (Int × (List Int × List Int)) :=
  [(1, ([], [])),
   (63, ([], [(-1)])),
   (64, ([(-1)], [(-1)])),
   (65, ([], [(-1)])),
   (66, ([], [(-2)])),
   (210, ([], [(-16)])),
   (64520, ([(-1), (-1), (-1)], [])),
   (64521, ([], [])),
   (64522, ([(-1), (-1), (-1)], [])),
   (64523, ([(-1), (-1), (-1)], [])),
   (64524, ([(-1), (-1), (-1)], [])),
   (64525, ([], [])),
   (64526, ([(-1), (-1), (-1)], [])),
   (64528, ([], [(-1)]))]
noncomputable def nkL : List (Int × Int × List Int × List Int) :=
  [(69, 69, [(-1)], [(-1)]), (70, 79, [(-1), (-1)], [(-1)]), (80, 80, [(-2)], [(-1)]), (81, 90, [(-2), (-2)], [(-1)]), (103, 105, [(-1)], [(-1)]), (106, 120, [(-1), (-1)], [(-1)]), (121, 123, [(-2)], [(-2)]), (124, 138, [(-2), (-2)], [(-2)]), (167, 167, [(-2)], [(-1)]), (172, 173, [(-1)], [(-2)]), (192, 193, [(-1)], [(-1)]), (194, 196, [(-2)], [(-2)])]
noncomputable def inRow (c : Int) (r : Int × Int × List Int × List Int) : Bool := decide (r.1 ≤ c) && decide (c ≤ r.2.1)
noncomputable def nkFrom (l : List (Int × Int × List Int × List Int)) (c : Int) : Option (List Int × List Int) := (l.find? (inRow c)).map (·.2.2)
noncomputable def nk (c : Int) : Option (List Int × List Int) := nkFrom nkL c
/-! the law's own tables, as data -/
noncomputable def rowsL : List (Int × (Str × Option (List Int × List Int))) :=
  [(0, (Str.mk #[110, 111, 110, 101], none)),
   (1, (Str.mk #[110, 111, 110, 101], some ([], []))),
   (2, (Str.mk #[98, 108, 111, 99, 107], none)),
   (3, (Str.mk #[98, 108, 111, 99, 107], none)),
   (4, (Str.mk #[98, 108, 111, 99, 107], none)),
   (5, (Str.mk #[110, 111, 110, 101], none)),
   (11, (Str.mk #[110, 111, 110, 101], none)),
   (12, (Str.mk #[108, 97, 98, 101, 108], none)),
   (13, (Str.mk #[108, 97, 98, 101, 108], none)),
   (14, (Str.mk #[108, 97, 98, 101, 108, 115], none)),
   (15, (Str.mk #[110, 111, 110, 101], none)),
   (16, (Str.mk #[102, 117, 110, 99], none)),
   (17, (Str.mk #[105, 110, 100, 105, 114, 101, 99, 116], none)),
   (18, (Str.mk #[102, 117, 110, 99], none)),
   (19, (Str.mk #[105, 110, 100, 105, 114, 101, 99, 116], none)),
   (26, (Str.mk #[110, 111, 110, 101], none)),
   (27, (Str.mk #[110, 111, 110, 101], none)),
   (28, (Str.mk #[107, 105, 110, 100, 115], none)),
   (32, (Str.mk #[108, 111, 99, 97, 108], none)),
   (33, (Str.mk #[108, 111, 99, 97, 108], none)),
   (34, (Str.mk #[108, 111, 99, 97, 108], none)),
   (35, (Str.mk #[103, 108, 111, 98, 97, 108], none)),
   (36, (Str.mk #[103, 108, 111, 98, 97, 108], none)),
   (37, (Str.mk #[116, 97, 98, 108, 101], none)),
   (38, (Str.mk #[116, 97, 98, 108, 101], none)),
   (40, (Str.mk #[109, 101, 109, 97, 114, 103], some ([(-1)], [(-1)]))),
   (41, (Str.mk #[109, 101, 109, 97, 114, 103], some ([(-1)], [(-2)]))),
   (44, (Str.mk #[109, 101, 109, 97, 114, 103], some ([(-1)], [(-1)]))),
   (45, (Str.mk #[109, 101, 109, 97, 114, 103], some ([(-1)], [(-1)]))),
   (46, (Str.mk #[109, 101, 109, 97, 114, 103], some ([(-1)], [(-1)]))),
   (47, (Str.mk #[109, 101, 109, 97, 114, 103], some ([(-1)], [(-1)]))),
   (48, (Str.mk #[109, 101, 109, 97, 114, 103], some ([(-1)], [(-2)]))),
   (49, (Str.mk #[109, 101, 109, 97, 114, 103], some ([(-1)], [(-2)]))),
   (50, (Str.mk #[109, 101, 109, 97, 114, 103], some ([(-1)], [(-2)]))),
   (51, (Str.mk #[109, 101, 109, 97, 114, 103], some ([(-1)], [(-2)]))),
   (52, (Str.mk #[109, 101, 109, 97, 114, 103], some ([(-1)], [(-2)]))),
   (53, (Str.mk #[109, 101, 109, 97, 114, 103], some ([(-1)], [(-2)]))),
   (54, (Str.mk #[109, 101, 109, 97, 114, 103], some ([(-1), (-1)], []))),
   (55, (Str.mk #[109, 101, 109, 97, 114, 103], some ([(-1), (-2)], []))),
   (58, (Str.mk #[109, 101, 109, 97, 114, 103], some ([(-1), (-1)], []))),
   (59, (Str.mk #[109, 101, 109, 97, 114, 103], some ([(-1), (-1)], []))),
   (60, (Str.mk #[109, 101, 109, 97, 114, 103], some ([(-1), (-2)], []))),
   (61, (Str.mk #[109, 101, 109, 97, 114, 103], some ([(-1), (-2)], []))),
   (62, (Str.mk #[109, 101, 109, 97, 114, 103], some ([(-1), (-2)], []))),
   (63, (Str.mk #[109, 101, 109, 111, 114, 121], some ([], [(-1)]))),
   (64, (Str.mk #[109, 101, 109, 111, 114, 121], some ([(-1)], [(-1)]))),
   (65, (Str.mk #[105, 51, 50], some ([], [(-1)]))),
   (66, (Str.mk #[105, 54, 52], some ([], [(-2)]))),
   (69, (Str.mk #[110, 111, 110, 101], some ([(-1)], [(-1)]))),
   (70, (Str.mk #[110, 111, 110, 101], some ([(-1), (-1)], [(-1)]))),
   (71, (Str.mk #[110, 111, 110, 101], some ([(-1), (-1)], [(-1)]))),
   (72, (Str.mk #[110, 111, 110, 101], some ([(-1), (-1)], [(-1)]))),
   (73, (Str.mk #[110, 111, 110, 101], some ([(-1), (-1)], [(-1)]))),
   (74, (Str.mk #[110, 111, 110, 101], some ([(-1), (-1)], [(-1)]))),
   (75, (Str.mk #[110, 111, 110, 101], some ([(-1), (-1)], [(-1)]))),
   (76, (Str.mk #[110, 111, 110, 101], some ([(-1), (-1)], [(-1)]))),
   (77, (Str.mk #[110, 111, 110, 101], some ([(-1), (-1)], [(-1)]))),
   (78, (Str.mk #[110, 111, 110, 101], some ([(-1), (-1)], [(-1)]))),
   (79, (Str.mk #[110, 111, 110, 101], some ([(-1), (-1)], [(-1)]))),
   (80, (Str.mk #[110, 111, 110, 101], some ([(-2)], [(-1)]))),
   (81, (Str.mk #[110, 111, 110, 101], some ([(-2), (-2)], [(-1)]))),
   (82, (Str.mk #[110, 111, 110, 101], some ([(-2), (-2)], [(-1)]))),
   (83, (Str.mk #[110, 111, 110, 101], some ([(-2), (-2)], [(-1)]))),
   (84, (Str.mk #[110, 111, 110, 101], some ([(-2), (-2)], [(-1)]))),
   (85, (Str.mk #[110, 111, 110, 101], some ([(-2), (-2)], [(-1)]))),
   (86, (Str.mk #[110, 111, 110, 101], some ([(-2), (-2)], [(-1)]))),
   (87, (Str.mk #[110, 111, 110, 101], some ([(-2), (-2)], [(-1)]))),
   (88, (Str.mk #[110, 111, 110, 101], some ([(-2), (-2)], [(-1)]))),
   (89, (Str.mk #[110, 111, 110, 101], some ([(-2), (-2)], [(-1)]))),
   (90, (Str.mk #[110, 111, 110, 101], some ([(-2), (-2)], [(-1)]))),
   (103, (Str.mk #[110, 111, 110, 101], some ([(-1)], [(-1)]))),
   (104, (Str.mk #[110, 111, 110, 101], some ([(-1)], [(-1)]))),
   (105, (Str.mk #[110, 111, 110, 101], some ([(-1)], [(-1)]))),
   (106, (Str.mk #[110, 111, 110, 101], some ([(-1), (-1)], [(-1)]))),
   (107, (Str.mk #[110, 111, 110, 101], some ([(-1), (-1)], [(-1)]))),
   (108, (Str.mk #[110, 111, 110, 101], some ([(-1), (-1)], [(-1)]))),
   (109, (Str.mk #[110, 111, 110, 101], some ([(-1), (-1)], [(-1)]))),
   (110, (Str.mk #[110, 111, 110, 101], some ([(-1), (-1)], [(-1)]))),
   (111, (Str.mk #[110, 111, 110, 101], some ([(-1), (-1)], [(-1)]))),
   (112, (Str.mk #[110, 111, 110, 101], some ([(-1), (-1)], [(-1)]))),
   (113, (Str.mk #[110, 111, 110, 101], some ([(-1), (-1)], [(-1)]))),
   (114, (Str.mk #[110, 111, 110, 101], some ([(-1), (-1)], [(-1)]))),
   (115, (Str.mk #[110, 111, 110, 101], some ([(-1), (-1)], [(-1)]))),
   (116, (Str.mk #[110, 111, 110, 101], some ([(-1), (-1)], [(-1)]))),
   (117, (Str.mk #[110, 111, 110, 101], some ([(-1), (-1)], [(-1)]))),
   (118, (Str.mk #[110, 111, 110, 101], some ([(-1), (-1)], [(-1)]))),
   (119, (Str.mk #[110, 111, 110, 101], some ([(-1), (-1)], [(-1)]))),
   (120, (Str.mk #[110, 111, 110, 101], some ([(-1), (-1)], [(-1)]))),
   (121, (Str.mk #[110, 111, 110, 101], some ([(-2)], [(-2)]))),
   (122, (Str.mk #[110, 111, 110, 101], some ([(-2)], [(-2)]))),
   (123, (Str.mk #[110, 111, 110, 101], some ([(-2)], [(-2)]))),
   (124, (Str.mk #[110, 111, 110, 101], some ([(-2), (-2)], [(-2)]))),
   (125, (Str.mk #[110, 111, 110, 101], some ([(-2), (-2)], [(-2)]))),
   (126, (Str.mk #[110, 111, 110, 101], some ([(-2), (-2)], [(-2)]))),
   (127, (Str.mk #[110, 111, 110, 101], some ([(-2), (-2)], [(-2)]))),
   (128, (Str.mk #[110, 111, 110, 101], some ([(-2), (-2)], [(-2)]))),
   (129, (Str.mk #[110, 111, 110, 101], some ([(-2), (-2)], [(-2)]))),
   (130, (Str.mk #[110, 111, 110, 101], some ([(-2), (-2)], [(-2)]))),
   (131, (Str.mk #[110, 111, 110, 101], some ([(-2), (-2)], [(-2)]))),
   (132, (Str.mk #[110, 111, 110, 101], some ([(-2), (-2)], [(-2)]))),
   (133, (Str.mk #[110, 111, 110, 101], some ([(-2), (-2)], [(-2)]))),
   (134, (Str.mk #[110, 111, 110, 101], some ([(-2), (-2)], [(-2)]))),
   (135, (Str.mk #[110, 111, 110, 101], some ([(-2), (-2)], [(-2)]))),
   (136, (Str.mk #[110, 111, 110, 101], some ([(-2), (-2)], [(-2)]))),
   (137, (Str.mk #[110, 111, 110, 101], some ([(-2), (-2)], [(-2)]))),
   (138, (Str.mk #[110, 111, 110, 101], some ([(-2), (-2)], [(-2)]))),
   (167, (Str.mk #[110, 111, 110, 101], some ([(-2)], [(-1)]))),
   (172, (Str.mk #[110, 111, 110, 101], some ([(-1)], [(-2)]))),
   (173, (Str.mk #[110, 111, 110, 101], some ([(-1)], [(-2)]))),
   (192, (Str.mk #[110, 111, 110, 101], some ([(-1)], [(-1)]))),
   (193, (Str.mk #[110, 111, 110, 101], some ([(-1)], [(-1)]))),
   (194, (Str.mk #[110, 111, 110, 101], some ([(-2)], [(-2)]))),
   (195, (Str.mk #[110, 111, 110, 101], some ([(-2)], [(-2)]))),
   (196, (Str.mk #[110, 111, 110, 101], some ([(-2)], [(-2)]))),
   (208, (Str.mk #[114, 101, 102, 107, 105, 110, 100], none)),
   (209, (Str.mk #[110, 111, 110, 101], none)),
   (210, (Str.mk #[102, 117, 110, 99], some ([], [(-16)]))),
   (64520, (Str.mk #[109, 101, 109, 111, 114, 121, 95, 105, 110, 105, 116], some ([(-1), (-1), (-1)], []))),
   (64521, (Str.mk #[100, 97, 116, 97], some ([], []))),
   (64522, (Str.mk #[116, 119, 111, 95, 109, 101, 109, 111, 114, 105, 101, 115], some ([(-1), (-1), (-1)], []))),
   (64523, (Str.mk #[109, 101, 109, 111, 114, 121], some ([(-1), (-1), (-1)], []))),
   (64524, (Str.mk #[116, 97, 98, 108, 101, 95, 105, 110, 105, 116], some ([(-1), (-1), (-1)], []))),
   (64525, (Str.mk #[101, 108, 101, 109], some ([], []))),
   (64526, (Str.mk #[116, 97, 98, 108, 101, 95, 99, 111, 112, 121], some ([(-1), (-1), (-1)], []))),
   (64527, (Str.mk #[116, 97, 98, 108, 101], none)),
   (64528, (Str.mk #[116, 97, 98, 108, 101], some ([], [(-1)]))),
   (64529, (Str.mk #[116, 97, 98, 108, 101], none))]
noncomputable def accL : List (Int × List Int) :=
  [(40, [(-1), 4, 0]), (41, [(-2), 8, 0]), (44, [(-1), 1, 1]), (45, [(-1), 1, 0]), (46, [(-1), 2, 1]), (47, [(-1), 2, 0]), (48, [(-2), 1, 1]), (49, [(-2), 1, 0]), (50, [(-2), 2, 1]), (51, [(-2), 2, 0]), (52, [(-2), 4, 1]), (53, [(-2), 4, 0]), (54, [(-1), 4]), (55, [(-2), 8]), (58, [(-1), 1]), (59, [(-1), 2]), (60, [(-2), 1]), (61, [(-2), 2]), (62, [(-2), 4])]
noncomputable def intsD (l : List Int) : PyData := .tuple (l.map .int)
noncomputable def fD : Option Str → PyData
  | none => .none
  | some x => .str x
noncomputable def sD : Option (List Int × List Int) → PyData
  | none => .none
  | some (p, r) => .tuple [intsD p, intsD r]
noncomputable def rowD (r : Str × Option (List Int × List Int)) : PyData := .tuple [.str r.1, sD r.2]
noncomputable def memargS : Str := Str.mk #[109, 101, 109, 97, 114, 103]
noncomputable def noneS : Str := Str.mk #[110, 111, 110, 101]
noncomputable def blockS : Str := Str.mk #[98, 108, 111, 99, 107]
theorem memargS_eq : Str.ofString "memarg" = memargS := by decide +kernel
theorem noneS_eq : Str.ofString "none" = noneS := by decide +kernel
theorem blockS_eq : Str.ofString "block" = blockS := by decide +kernel
noncomputable def loadsF (c : Int) : Option (List Int) := lookI c loadsL
noncomputable def storesF (c : Int) : Option (List Int) := lookI c storesL
noncomputable def formsF (c : Int) : Option Str := lookI c formsL
noncomputable def fixedF (c : Int) : Option (List Int × List Int) := lookI c fixedL
noncomputable def formF (c : Int) : Option Str := match formsF c with
  | some x => some x
  | none => if (loadsF c).isSome = true ∨ (storesF c).isSome = true then some memargS else if (nk c).isSome = true then some noneS else none
noncomputable def stackF (c : Int) : Option (List Int × List Int) := match fixedF c with
  | some x => some x
  | none => match loadsF c with
    | some l => some ([-1], [l.headD 0])
    | none => match storesF c with
      | some l => some ([-1, l.headD 0], [])
      | none => nk c
noncomputable def rowF (c : Int) : Option (Str × Option (List Int × List Int)) := lookI c rowsL
noncomputable def formG (c : Int) : Option Str := (rowF c).map (·.1)
noncomputable def stackG (c : Int) : Option (List Int × List Int) := (rowF c).bind (·.2)
noncomputable def accF (c : Int) : Option (List Int) := lookI c accL
noncomputable def isBlk (c : Int) : Bool := [(2 : Int), 3, 4].any fun x => x == c
noncomputable def leftA (c : Int) : Bool := c == 253 || [((42 : Int), (43 : Int)), (56, 57), (67, 68), (91, 102), (139, 166), (168, 171), (174, 191), (64512, 64519)].any fun p => decide (p.1 ≤ c) && decide (c ≤ p.2)
noncomputable def leftB (c : Int) : Bool := [((42 : Int), (2 : Int)), (56, 2), (67, 2), (91, 12), (139, 28), (168, 4), (174, 18), (64512, 8), (253, 1)].any fun p => decide (p.1 ≤ c) && decide (c < p.1 + p.2)
noncomputable def octF (c : Int) : Option Int := match loadsF c with
  | some l => l[1]?
  | none => match storesF c with
    | some l => l[1]?
    | none => none
noncomputable def natL : List (Int × Int) := [(1, 0), (2, 1), (4, 2), (8, 3)]
noncomputable def natF (c : Int) : Int := (((octF c).bind fun o => lookI o natL)).getD 0
abbrev Inside (c : Int) : Prop := (0 ≤ c ∧ c < 256) ∨ (64512 ≤ c ∧ c < 64544)
theorem look_out {α : Type} {c : Int} (hc : ¬ Inside c) : ∀ (l : List (Int × α)), (l.all fun p => decide (Inside p.1)) = true → lookI c l = none
  | [], _ => rfl
  | (k, d) :: r, h => by
    simp only [List.all_cons, Bool.and_eq_true, decide_eq_true_eq] at h
    have hk : ¬ k = c := fun e => hc (e ▸ h.1)
    show (if k = c then some d else lookI c r) = none
    rw [if_neg hk]
    exact look_out hc r (by simpa using h.2)
theorem nk_out {c : Int} (hc : ¬ Inside c) : nk c = none := by
  have key : nkL.find? (inRow c) = none := by
    rw [List.find?_eq_none]
    intro r hr hi
    have h := List.all_eq_true.mp (by decide +kernel : (nkL.all fun r => decide (0 ≤ r.1 ∧ r.2.1 < 256)) = true) r hr
    simp only [inRow, Bool.and_eq_true, decide_eq_true_eq] at h hi
    exact hc (.inl ⟨Int.le_trans h.1 hi.1, Int.lt_of_le_of_lt hi.2 h.2⟩)
  unfold nk nkFrom
  rw [key]; rfl
theorem all_codes (P : Int → Prop) [DecidablePred P] (h1 : ((List.range 256).all fun n => decide (P (n : Int))) = true) (h2 : ((List.range 32).all fun n => decide (P (64512 + (n : Int)))) = true)
    (h3 : ∀ c, ¬ Inside c → P c) (c : Int) : P c := by
  by_cases hc : Inside c
  · rcases hc with ⟨a, b⟩ | ⟨a, b⟩
    · have := List.all_eq_true.mp h1 c.toNat (List.mem_range.mpr (by omega))
      have e : ((c.toNat : Nat) : Int) = c := by omega
      rw [e] at this
      exact of_decide_eq_true this
    · have := List.all_eq_true.mp h2 (c - 64512).toNat (List.mem_range.mpr (by omega))
      have e : 64512 + (((c - 64512).toNat : Nat) : Int) = c := by omega
      rw [e] at this
      exact of_decide_eq_true this
  · exact h3 c hc
section
variable {c : Int} (hc : ¬ Inside c)
include hc
theorem loads_out : loadsF c = none := look_out hc _ (by decide +kernel)
theorem stores_out : storesF c = none := look_out hc _ (by decide +kernel)
theorem forms_out : formsF c = none := look_out hc _ (by decide +kernel)
theorem fixed_out : fixedF c = none := look_out hc _ (by decide +kernel)
theorem row_out : rowF c = none := look_out hc _ (by decide +kernel)
theorem acc_out : accF c = none := look_out hc _ (by decide +kernel)
end
theorem plain_form : ∀ c, formF c = formG c := all_codes _ (by decide +kernel) (by decide +kernel) fun c hc => by
  simp [formF, formG, forms_out hc, loads_out hc, stores_out hc, nk_out hc, row_out hc]
theorem plain_stack : ∀ c, stackF c = stackG c := all_codes _ (by decide +kernel) (by decide +kernel) fun c hc => by
  simp [stackF, stackG, fixed_out hc, loads_out hc, stores_out hc, nk_out hc, row_out hc]
theorem plain_block : ∀ c, isBlk c = decide (formG c = some blockS) := all_codes _ (by decide +kernel) (by decide +kernel) fun c hc => by
  unfold Inside at hc
  simp only [formG, row_out (c := c) hc, Option.map_none, isBlk, List.any_cons, List.any_nil, Bool.or_false, reduceCtorEq, decide_false, Bool.or_eq_false_iff, beq_eq_false_iff_ne, ne_eq]
  omega
theorem any_left {c : Int} : ∀ l : List (Int × Int), (l.any fun p => decide (p.1 ≤ c) && decide (c ≤ p.2)) = ((l.map fun p => (p.1, p.2 + 1 - p.1)).any fun p => decide (p.1 ≤ c) && decide (c < p.1 + p.2))
  | [] => rfl
  | p :: l => by
    have e : decide (c ≤ p.2) = decide (c < p.1 + (p.2 + 1 - p.1)) := decide_eq_decide.mpr (by omega)
    rw [List.any_cons, List.map_cons, List.any_cons, any_left l, e]
theorem plain_left (c : Int) : leftA c = leftB c := by
  have e : leftB c = (([((42 : Int), (43 : Int)), (56, 57), (67, 68), (91, 102), (139, 166), (168, 171), (174, 191), (64512, 64519)].map fun p : Int × Int => (p.1, p.2 + 1 - p.1)) ++ [(253, 1)]).any fun p => decide (p.1 ≤ c) && decide (c < p.1 + p.2) := rfl
  have e1 : (c == 253) = (decide ((253 : Int) ≤ c) && decide (c < 253 + 1)) := by
    rw [Bool.eq_iff_iff, beq_iff_eq, Bool.and_eq_true, decide_eq_true_eq, decide_eq_true_eq]
    omega
  rw [e, List.any_append, ← any_left, leftA, e1, Bool.or_comm]
  simp only [List.any_cons, List.any_nil, Bool.or_false]
theorem plain_loads : ∀ c, loadsF c = (accF c).bind fun l => if l.length = 3 then some l else none := all_codes _ (by decide +kernel) (by decide +kernel) fun c hc => by
  simp [loads_out hc, acc_out hc]
theorem plain_stores : ∀ c, storesF c = (accF c).bind fun l => if l.length = 2 then some l else none := all_codes _ (by decide +kernel) (by decide +kernel) fun c hc => by
  simp [stores_out hc, acc_out hc]
/-- of a load or store: the exponent of the octets, and the octets -/
theorem plain_nat : ∀ c, accF c = none ∨ ∃ k ∈ natL, octF c = some k.1 ∧ natF c = k.2 ∧ (accF c).bind (·[1]?) = some k.1 := all_codes _ (by decide +kernel) (by decide +kernel) fun c hc => .inl (acc_out hc)
theorem plain_acc_len : ∀ c, accF c = none ∨ ∃ l, accF c = some l ∧ (l.length = 3 ∨ l.length = 2) := fun c => by
  cases h : accF c with
  | none => exact .inl rfl
  | some l =>
    refine .inr ⟨l, rfl, ?_⟩
    have h1 := plain_loads c
    have h2 := plain_stores c
    have h3 : ∀ c, ((accF c).all fun l => decide (l.length = 3 ∨ l.length = 2)) = true := all_codes _ (by decide +kernel) (by decide +kernel) fun c hc => by simp [acc_out hc]
    have := h3 c
    rw [h] at this
    simpa using this
end
section
/-- a value that is plain data of ints, texts, bools, None and tuples, all of whose objects H has -/
inductive SV (H : Addr → Obj → Prop) : Value → PyData → Prop
  | none : SV H .none .none
  | bool (b) : SV H (.bool b) (.bool b)
  | int (i t) : SV H (.int i t) (.int i)
  | str (x t) : SV H (.str x t) (.str x)
  | tuple {a : Addr} {o : Obj} {vs : Array Value} {n : Nat} {ds : List PyData} (ha : H a o) (hc : o.cls = .type "tuple") (hd : o.data = .seq vs n) (hl : vs.toList.length = ds.length)
      (hi : ∀ (i : Nat) (v : Value) (d : PyData), vs.toList[i]? = some v → ds[i]? = some d → SV H v d) : SV H (.ref a) (.tuple ds)
theorem SV.mono {H H' : Addr → Obj → Prop} (k : ∀ a o, H a o → H' a o) {v : Value} {d : PyData} (x : SV H v d) : SV H' v d := by
  induction x with
  | none => exact .none
  | bool b => exact .bool b
  | int i t => exact .int i t
  | str x t => exact .str x t
  | tuple ha hc hd hl _ ih => exact .tuple (k _ _ ha) hc hd hl ih
theorem readsAll_of {h : Heap} : ∀ {vs : List Value} {ds : List PyData}, vs.length = ds.length → (∀ (i : Nat) (v : Value) (d : PyData), vs[i]? = some v → ds[i]? = some d → Reads h v d []) → ReadsAll h vs ds []
  | [], [], _, _ => .nil
  | [], _ :: _, hl, _ => by simp at hl
  | _ :: _, [], hl, _ => by simp at hl
  | v :: vs, d :: ds, hl, hi =>
    readsAll_cons_val (hi 0 v d rfl rfl) (readsAll_of (by simpa using hl) fun i v' d' e1 e2 => hi (i + 1) v' d' (by simpa using e1) (by simpa using e2))
theorem SV.reads {h : Heap} {H : Addr → Obj → Prop} (k : ∀ a o, H a o → h.get? a = some o) {v : Value} {d : PyData} (x : SV H v d) : Reads h v d [] := by
  induction x with
  | none => exact .none
  | bool b => exact .bool b
  | int i t => exact .int i t
  | str x t => exact .str x t
  | tuple ha hc hd hl _ ih => exact .tuple (k _ _ ha) hc hd (readsAll_of hl ih)
/-- what the base holds, or the ledger -/
abbrev Has (h₀ : Heap) (led : List (Addr × Obj)) (a : Addr) (o : Obj) : Prop := h₀.get? a = some o ∨ (a, o) ∈ led
theorem Has.at {h₀ h : Heap} {L : Addr} {m : Str → Option Value} {led news : List (Addr × Obj)} (F : Fr h₀ L h m) (N : News h₀ L h news) (hs : ∀ p ∈ led, p ∈ news) : ∀ a o, Has h₀ led a o → h.get? a = some o :=
  fun a o x => x.elim (F.keep a o) fun y => (N _ (hs _ y)).1
abbrev Sup (h₀ : Heap) (led : List (Addr × Obj)) (v : Value) (d : PyData) : Prop := SV (Has h₀ led) v d
theorem Sup.mono {h₀ : Heap} {led led' : List (Addr × Obj)} {v : Value} {d : PyData} (x : Sup h₀ led v d) (hs : ∀ p ∈ led, p ∈ led') : Sup h₀ led' v d :=
  SV.mono (fun _ _ y => y.imp id (hs _)) x
theorem Sup.reads {h₀ h : Heap} {L : Addr} {m : Str → Option Value} {led news : List (Addr × Obj)} {v : Value} {d : PyData} (F : Fr h₀ L h m) (N : News h₀ L h news) (x : Sup h₀ led v d) (hs : ∀ p ∈ led, p ∈ news) : Reads h v d [] :=
  SV.reads (Has.at F N hs) x
theorem Sup.keeps {h₀ h₁ : Heap} {led : List (Addr × Obj)} {v : Value} {d : PyData} (k : ∀ b o, h₀.get? b = some o → h₁.get? b = some o) (x : Sup h₀ led v d) : Sup h₁ led v d :=
  SV.mono (fun _ _ y => y.imp (k _ _) id) x
noncomputable def isTupObj (o : Obj) : Prop := ∃ vs n, o.cls = .type "tuple" ∧ o.data = .seq vs n
theorem SV.tups {H : Addr → Obj → Prop} {v : Value} {d : PyData} (x : SV H v d) : SV (fun a o => H a o ∧ isTupObj o) v d := by
  induction x with
  | none => exact .none
  | bool b => exact .bool b
  | int i t => exact .int i t
  | str x t => exact .str x t
  | tuple ha hc hd hl _ ih => exact .tuple ⟨ha, _, _, hc, hd⟩ hc hd hl ih
theorem tup_not_frame {h₀ h : Heap} {L : Addr} {m : Str → Option Value} (F : Fr h₀ L h m) {a : Addr} {o : Obj} (ho : h.get? a = some o) (ht : isTupObj o) : a ≠ L := by
  rintro rfl
  obtain ⟨oL, es, ep, hL, hd, _⟩ := F.ns
  obtain ⟨vs, n, _, hs⟩ := ht
  have e : o = oL := Option.some.inj (ho.symm.trans hL)
  subst e
  rw [hd] at hs
  cases hs
/-- a ledger of tuples alone, of the call's own -/
abbrev TupLed (h₀ : Heap) (L : Addr) (h : Heap) (led : List (Addr × Obj)) : Prop := News h₀ L h led ∧ ∀ p ∈ led, isTupObj p.2
theorem TupLed.nil {h₀ : Heap} {L : Addr} {h : Heap} : TupLed h₀ L h [] := ⟨News.nil, fun _ hp => nomatch hp⟩
theorem led_list {h₀ : Heap} {L : Addr} {h : Heap} : ∀ {vs : List Value} {ds : List PyData},
    (∀ (i : Nat) (v : Value) (d : PyData), vs[i]? = some v → ds[i]? = some d → ∃ led, TupLed h₀ L h led ∧ Sup h₀ led v d) →
    ∃ led, TupLed h₀ L h led ∧ ∀ (i : Nat) (v : Value) (d : PyData), vs[i]? = some v → ds[i]? = some d → Sup h₀ led v d
  | [], _, _ => ⟨[], .nil, fun _ _ _ e => by simp at e⟩
  | _ :: _, [], _ => ⟨[], .nil, fun _ _ _ _ e => by simp at e⟩
  | v :: vs, d :: ds, hx => by
    obtain ⟨l1, q1, s1⟩ := hx 0 v d rfl rfl
    obtain ⟨l2, q2, s2⟩ := led_list (vs := vs) (ds := ds) fun i v' d' e1 e2 => hx (i + 1) v' d' e1 e2
    refine ⟨l1 ++ l2, ⟨fun p hp => (List.mem_append.mp hp).elim (q1.1 p) (q2.1 p), fun p hp => (List.mem_append.mp hp).elim (q1.2 p) (q2.2 p)⟩, fun i v' d' e1 e2 => ?_⟩
    cases i with
    | zero =>
      rw [← Option.some.inj (show some v = some v' from e1), ← Option.some.inj (show some d = some d' from e2)]
      exact s1.mono fun p hp => List.mem_append_left _ hp
    | succ i => exact (s2 i v' d' e1 e2).mono fun p hp => List.mem_append_right _ hp
theorem ledger_of {h₀ h : Heap} {L : Addr} {m : Str → Option Value} (F : Fr h₀ L h m) {v : Value} {d : PyData} (x : SV (fun a o => h.get? a = some o ∧ isTupObj o) v d) : ∃ led, TupLed h₀ L h led ∧ Sup h₀ led v d := by
  induction x with
  | none => exact ⟨[], .nil, .none⟩
  | bool b => exact ⟨[], .nil, .bool b⟩
  | int i t => exact ⟨[], .nil, .int i t⟩
  | str x t => exact ⟨[], .nil, .str x t⟩
  | @tuple a o vs n ds ha hc hd hl _ ih =>
    obtain ⟨led, ⟨N, K⟩, S⟩ := led_list ih
    cases hb : h₀.get? a with
    | some ob =>
      have e : ob = o := Option.some.inj ((F.keep _ _ hb).symm.trans ha.1)
      subst e
      exact ⟨led, ⟨N, K⟩, .tuple (.inl hb) hc hd hl S⟩
    | none =>
      exact ⟨(a, o) :: led, ⟨List.forall_mem_cons.mpr ⟨⟨ha.1, tup_not_frame F ha.1 ha.2, hb⟩, N⟩, List.forall_mem_cons.mpr ⟨ha.2, K⟩⟩, .tuple (.inr (.head _)) hc hd hl fun i v d e1 e2 => (S i v d e1 e2).mono fun p hp => .tail _ hp⟩
theorem news_append {h₀ h : Heap} {L : Addr} {a b : List (Addr × Obj)} (x : News h₀ L h a) (y : News h₀ L h b) : News h₀ L h (a ++ b) := fun p hp => (List.mem_append.mp hp).elim (x p) (y p)
theorem news_drop {h₀ h : Heap} {L : Addr} {a b : List (Addr × Obj)} (x : News h₀ L h (a ++ b)) : News h₀ L h b := fun p hp => x p (List.mem_append_right _ hp)
/-! dicts of int keys whose values are plain data -/
noncomputable def OptSup (h₀ : Heap) (led : List (Addr × Obj)) (v : Option Value) (d : Option PyData) : Prop := match v, d with
  | none, none => True
  | some v, some d => Sup h₀ led v d
  | _, _ => False
theorem OptSup.mono {h₀ : Heap} {led led' : List (Addr × Obj)} {v : Option Value} {d : Option PyData} (x : OptSup h₀ led v d) (hs : ∀ p ∈ led, p ∈ led') : OptSup h₀ led' v d := by
  cases v <;> cases d <;> first | exact x | exact Sup.mono x hs
theorem OptSup.keeps {h₀ h₁ : Heap} {led : List (Addr × Obj)} {v : Option Value} {d : Option PyData} (k : ∀ b o, h₀.get? b = some o → h₁.get? b = some o) (x : OptSup h₀ led v d) : OptSup h₁ led v d := by
  cases v <;> cases d <;> first | exact x | exact Sup.keeps k x
theorem OptSup.isSome {h₀ : Heap} {led : List (Addr × Obj)} {v : Option Value} {d : Option PyData} (x : OptSup h₀ led v d) : v.isSome = d.isSome := by
  cases v <;> cases d <;> first | rfl | exact x.elim
theorem OptSup.some {h₀ : Heap} {led : List (Addr × Obj)} {v : Option Value} {d : PyData} (x : OptSup h₀ led v (.some d)) : ∃ u, v = .some u ∧ Sup h₀ led u d := by
  cases v with
  | none => exact x.elim
  | some u => exact ⟨u, rfl, x⟩
theorem OptSup.none {h₀ : Heap} {led : List (Addr × Obj)} {v : Option Value} (x : OptSup h₀ led v .none) : v = .none := by
  cases v with
  | none => rfl
  | some u => exact x.elim
section
variable {prog : Program} {w : World}
noncomputable def DSup (prog : Program) (w : World) (h₀ : Heap) (led : List (Addr × Obj)) (d : Addr) (f : Int → Option PyData) : Prop :=
  (d == sysModules) = false ∧ ∃ o kvs, Has h₀ led d o ∧ o.IsDictOf (intKind prog w) kvs ∧ ∀ c, OptSup h₀ led (valueAt kvs c) (f c)
theorem DSup.mono {h₀ : Heap} {led led' : List (Addr × Obj)} {d : Addr} {f : Int → Option PyData} (x : DSup prog w h₀ led d f) (hs : ∀ p ∈ led, p ∈ led') : DSup prog w h₀ led' d f :=
  let ⟨lo, o, kvs, h1, h2, h3⟩ := x; ⟨lo, o, kvs, h1.imp id (hs _), h2, fun c => (h3 c).mono hs⟩
theorem DSup.keeps {h₀ h₁ : Heap} {led : List (Addr × Obj)} {d : Addr} {f : Int → Option PyData} (x : DSup prog w h₀ led d f) (k : ∀ b o, h₀.get? b = some o → h₁.get? b = some o) : DSup prog w h₁ led d f :=
  let ⟨lo, o, kvs, h1, h2, h3⟩ := x; ⟨lo, o, kvs, h1.imp (k _ _) id, h2, fun c => (h3 c).keeps k⟩
theorem DSup.congr {h₀ : Heap} {led : List (Addr × Obj)} {d : Addr} {f g : Int → Option PyData} (x : DSup prog w h₀ led d f) (e : ∀ c, f c = g c) : DSup prog w h₀ led d g := by
  have : f = g := funext e
  subst this; exact x
/-- the heap h has what the base and the ledger have -/
abbrev Hold (h₀ : Heap) (led : List (Addr × Obj)) (h : Heap) : Prop := ∀ a o, Has h₀ led a o → h.get? a = some o
theorem hold0 {h₀ h : Heap} (k : ∀ b o, h₀.get? b = some o → h.get? b = some o) : Hold h₀ [] h := fun a o x => x.elim (k a o) fun y => nomatch y
variable {A : Around} {E : Value → Shared → Prop} {s : Shared} {h₀ : Heap} {d : Addr} {led led' : List (Addr × Obj)} {f : Int → Option PyData} {c : Int} {t : Tok} {Q : Value → Shared → Prop}
theorem DSup.at (x : DSup prog w h₀ led d f) (k : Hold h₀ led s.heap) : (d == sysModules) = false ∧ ∃ kvs, s.heap.DictOf (intKind prog w) d kvs ∧ ∀ c, OptSup h₀ led (valueAt kvs c) (f c) := by
  obtain ⟨lo, o, kvs, h1, h2, h3⟩ := x
  exact ⟨lo, kvs, Heap.dictOf_iff.mpr ⟨o, k _ _ h1, h2⟩, h3⟩
theorem ds_in (x : DSup prog w h₀ led d f) (k : Hold h₀ led s.heap) (h : Q (.bool (f c).isSome) { s with toks := s.toks + 1 }) : wpAny (model prog w) A (compareOp .In (.int c t) (.ref d)) Q E s := by
  obtain ⟨lo, kvs, hd, hv⟩ := x.at k
  refine wpAny_in_of (intKind_is prog w c t) lo hd.mapOf ?_
  rw [(hv c).isSome]; exact h
theorem ds_yes {D : PyData} (x : DSup prog w h₀ led d f) (k : Hold h₀ led s.heap) (hf : f c = some D) (h : Q (.bool true) { s with toks := s.toks + 1 }) : wpAny (model prog w) A (compareOp .In (.int c t) (.ref d)) Q E s :=
  ds_in x k (by rw [hf]; exact h)
theorem ds_no (x : DSup prog w h₀ led d f) (k : Hold h₀ led s.heap) (hf : f c = none) (h : Q (.bool false) { s with toks := s.toks + 1 }) : wpAny (model prog w) A (compareOp .In (.int c t) (.ref d)) Q E s :=
  ds_in x k (by rw [hf]; exact h)
theorem ds_getItem {D : PyData} (x : DSup prog w h₀ led d f) (k : Hold h₀ led s.heap) (hf : f c = some D) (h : ∀ v, Sup h₀ led v D → Q v { s with toks := s.toks + 1 }) : wpAny (model prog w) A (getItem (.ref d) (.int c t)) Q E s := by
  obtain ⟨lo, kvs, hd, hv⟩ := x.at k
  obtain ⟨u, hu, hS⟩ := OptSup.some (show OptSup h₀ led _ (Option.some D) from hf ▸ hv c)
  exact wpAny_getItem_of (intKind_is prog w c t) hd.mapOf hu (h u hS)
theorem ds_sub {D : PyData} {value slice : PySem.Expr} (x : DSup prog w h₀ led d f) (k : Hold h₀ led s.heap) (hf : f c = some D) (h : ∀ v, Sup h₀ led v D → Q v { s with toks := s.toks + 1 })
    (hsl : subscripted slice false (.ref d) (.int c t) = operate [.ref d, .int c t] (getItem (.ref d) (.int c t)) := by with_unfolding_all rfl) :
    wpAny (model prog w) A (subscriptTail value slice (.ref d) (.int c t)) Q E s := by
  obtain ⟨lo, kvs, hd, hv⟩ := x.at k
  exact tail_any hd.typeIs slot_dict_getitem.lookup (ds_getItem x k hf h) hsl
theorem ds_method {pl : Sem Bool} {Q : Value × List Value → Shared → Prop} (x : DSup prog w h₀ led d f) (k : Hold h₀ led s.heap) (h : Q (.builtin "dict.get", [.ref d]) s) : wpAny (model prog w) A (getMethod (.ref d) "get" pl) Q E s := by
  obtain ⟨lo, kvs, hd, hv⟩ := x.at k
  exact getMethod_builtin hd.typeIs PySem.F.plainAttrs_dict PySem.F.slot_dict_get PySem.F.type_dict_get hd.mapOf.noDict h
theorem OptSup.get {v : Option Value} {dflt : Value} {D : Option PyData} {DD : PyData} (x : OptSup h₀ led v D) (hs : ∀ p ∈ led, p ∈ led') (hD : Sup h₀ led' dflt DD) : Sup h₀ led' (v.getD dflt) (D.getD DD) := by
  cases v <;> cases D
  · exact hD
  · exact x.elim
  · exact x.elim
  · exact Sup.mono x hs
theorem ds_get1 (x : DSup prog w h₀ led d f) (k : Hold h₀ led s.heap) (h : ∀ v, Sup h₀ led v ((f c).getD .none) → Q v { s with toks := s.toks + 1 }) : wpAny (model prog w) A (call (.builtin "dict.get") [.ref d, .int c t]) Q E s := by
  obtain ⟨lo, kvs, hd, hv⟩ := x.at k
  exact call_meetsIn PySem.F.slot_dict_get hd.typeIs PySem.F.entry_dict_get (PySem.F.args_dict_get_2 _ _) (meets_dict_get (intKind prog w) d (intKind_is prog w c t) lo) ⟨_, hd.mapOf, h _ ((hv c).get (fun _ y => y) .none)⟩
theorem ds_get2 {dflt : Value} {DD : PyData} (x : DSup prog w h₀ led d f) (k : Hold h₀ led s.heap) (hs : ∀ p ∈ led, p ∈ led') (hD : Sup h₀ led' dflt DD) (h : ∀ v, Sup h₀ led' v ((f c).getD DD) → Q v { s with toks := s.toks + 1 }) : wpAny (model prog w) A (call (.builtin "dict.get") [.ref d, .int c t, dflt]) Q E s := by
  obtain ⟨lo, kvs, hd, hv⟩ := x.at k
  exact call_meetsIn PySem.F.slot_dict_get hd.typeIs PySem.F.entry_dict_get (PySem.F.args_dict_get_3 _ _ _) (meets_dict_get_default (intKind prog w) d (intKind_is prog w c t) lo dflt) ⟨_, hd.mapOf, h _ ((hv c).get hs hD)⟩
theorem sup_ne {v v' : Value} {D : PyData} (S : Sup h₀ led v D) (S' : Sup h₀ led' v' D) (k : Hold h₀ led s.heap) (k' : Hold h₀ led' s.heap)
    (ha : SeqAt.shaped D = true) (hu : A.units + 64 < cLine) (h : Q (.bool false) s) : wpAny (model prog w) A (compareOp .NotEq v v') Q E s :=
  ne_dataH (SV.reads k S) (SV.reads k' S') ha ha hu (by rw [SeqAt.eqv_refl D (SeqAt.canLay_of_shaped ha)]; exact h)
end
/-! what the written part says, reckoned -/
noncomputable def atomV : Value → Option PyData
  | .none => some .none
  | .bool b => some (.bool b)
  | .int i _ => some (.int i)
  | .str x _ => some (.str x)
  | _ => none
theorem atomV_sup {h₀ : Heap} {v : Value} {d : PyData} (e : atomV v = some d) : Sup h₀ [] v d := by
  cases v
  case none => cases e; exact .none
  case bool => cases e; exact .bool _
  case int => cases e; exact .int _ _
  case str => cases e; exact .str _ _
  all_goals cases e
noncomputable def tupV : Option Obj → Option (List Value)
  | some ⟨.type "tuple", _, .seq vs _, _⟩ => some vs.toList
  | _ => none
theorem tupV_some {o : Option Obj} {us : List Value} (e : tupV o = some us) : ∃ ob vs n, o = some ob ∧ ob.cls = .type "tuple" ∧ ob.data = .seq vs n ∧ us = vs.toList := by
  unfold tupV at e
  split at e
  · exact ⟨_, _, _, rfl, rfl, rfl, (Option.some.inj e).symm⟩
  · cases e
noncomputable def readV (K : Frag) : Nat → Value → Option PyData
  | 0, v => atomV v
  | n + 1, v => match v with
    | .ref a => (tupV (K.lookup a)).bind fun vs => (vs.mapM (readV K n)).map .tuple
    | v => atomV v
theorem mapM_at {α β : Type} {f : α → Option β} : ∀ {l : List α} {r : List β}, l.mapM f = some r → l.length = r.length ∧ ∀ (i : Nat) (x : α), l[i]? = some x → ∃ y, r[i]? = some y ∧ f x = some y
  | [], r, h => by
    have h' : ([] : List β) = r := by simpa using h
    subst h'
    exact ⟨rfl, fun i x e => by simp at e⟩
  | x :: l, r, h => by
    rw [List.mapM_cons] at h
    cases h1 : f x with
    | none => rw [h1] at h; cases h
    | some y =>
      cases h2 : l.mapM f with
      | none => rw [h1, h2] at h; cases h
      | some q =>
        rw [h1, h2] at h
        have h' : y :: q = r := by simpa using h
        subst h'
        obtain ⟨a, b⟩ := mapM_at h2
        refine ⟨congrArg (· + 1) a, fun i z e => ?_⟩
        cases i with
        | zero => rw [← Option.some.inj (show some x = some z from e)]; exact ⟨y, rfl, h1⟩
        | succ i => exact b i z e
theorem readVs_sup {K : Frag} {h₀ : Heap} {n : Nat} (ih : ∀ (v : Value) (d : PyData), readV K n v = some d → Sup h₀ [] v d) {vs : List Value} {ds : List PyData} (e : vs.mapM (readV K n) = some ds) :
    vs.length = ds.length ∧ ∀ (i : Nat) (v : Value) (d : PyData), vs[i]? = some v → ds[i]? = some d → Sup h₀ [] v d := by
  obtain ⟨a, b⟩ := mapM_at e
  refine ⟨a, fun i v d e1 e2 => ?_⟩
  obtain ⟨y, e3, e4⟩ := b i v e1
  rw [← Option.some.inj (e3.symm.trans e2)]
  exact ih v y e4
theorem readV_sup {K : Frag} {h₀ : Heap} (X : K.In h₀) : ∀ (n : Nat) (v : Value) (d : PyData), readV K n v = some d → Sup h₀ [] v d
  | 0, _, _, e => atomV_sup e
  | n + 1, v, d, e => by
    cases v
    case ref a =>
      obtain ⟨us, h1, h2⟩ := Option.bind_eq_some_iff.mp (show (tupV (K.lookup a)).bind (fun vs => (vs.mapM (readV K n)).map .tuple) = some d from e)
      obtain ⟨ds, h3, h4⟩ := Option.map_eq_some_iff.mp h2
      subst h4
      obtain ⟨ob, vs, k, ho, hc, hd, hu⟩ := tupV_some h1
      subst hu
      obtain ⟨l, q⟩ := readVs_sup (readV_sup X n) h3
      exact .tuple (.inl (X _ _ ho)) hc hd l q
    all_goals exact atomV_sup e
noncomputable def readE (K : Frag) (e : DictEntry) : Option (Int × Value × PyData) := match e.key with
  | .int i _ => if e.hash = hashInt i then (readV K 8 e.val).map fun d => (i, e.val, d) else none
  | _ => none
theorem dsup_entries {prog : Program} {w : World} {K : Frag} {h₀ : Heap} (X : K.In h₀) : ∀ {es : List DictEntry} {r : List (Int × Value × PyData)}, es.mapM (readE K) = some r →
    (∀ e ∈ es, ∃ k, (intKind prog w).is k e.key = true ∧ e.hash = (intKind prog w).hash k) ∧ PySem.Pairs (intKind prog w) es (r.map fun x => (x.1, x.2.1)) ∧ ∀ c, OptSup h₀ [] (valueAt (r.map fun x => (x.1, x.2.1)) c) (lookI c (r.map fun x => (x.1, x.2.2)))
  | [], r, h => by
    have h' : ([] : List (Int × Value × PyData)) = r := by simpa using h
    subst h'
    exact ⟨(fun _ he => nomatch he), PySem.Pairs.nil, (fun _ => trivial)⟩
  | e :: es, r, h => by
    rw [List.mapM_cons] at h
    cases h1 : readE K e with
    | none => rw [h1] at h; cases h
    | some x =>
      cases h2 : es.mapM (readE K) with
      | none => rw [h1, h2] at h; cases h
      | some q =>
        rw [h1, h2] at h
        have h' : x :: q = r := by simpa using h
        subst h'
        obtain ⟨a, b, z⟩ := dsup_entries (prog := prog) (w := w) X h2
        unfold readE at h1
        split at h1
        · rename_i i t hk
          split at h1
          · rename_i hh
            obtain ⟨d, hd, rfl⟩ := Option.map_eq_some_iff.mp h1
            have hS := readV_sup X _ _ _ hd
            refine ⟨fun e' he => ?_, ?_, fun c => ?_⟩
            · rcases List.mem_cons.mp he with rfl | he
              · exact ⟨i, by rw [hk]; exact intKind_is prog w i t, hh⟩
              · exact a e' he
            · exact PySem.Pairs.cons (by show (intKind prog w).is i e.key = true; rw [hk]; exact intKind_is prog w i t) rfl b
            · simp only [List.map_cons, lookI, valueAt, List.find?_cons]
              by_cases hc : i = c
              · simp only [decide_eq_true hc, if_pos hc]
                exact hS
              · simp only [decide_eq_false hc, if_neg hc]
                exact z c
          · cases h1
        · cases h1
theorem dsup_K {prog : Program} {w : World} {K : Frag} {h₀ : Heap} (X : K.In h₀) {d : Addr} {es : Array DictEntry} {ep : Nat} {l : List (Int × PyData)} (lo : (d == sysModules) = false)
    (hl : K.lookup d = some ⟨.type "dict", none, .dict es ep, #[]⟩) (he : (es.toList.mapM (readE K)).map (fun r => r.map fun x => (x.1, x.2.2)) = some l) (hn : (l.map (·.1)).Nodup) :
    DSup prog w h₀ [] d fun c => lookI c l := by
  obtain ⟨r, hr, rfl⟩ := Option.map_eq_some_iff.mp he
  obtain ⟨a, b, z⟩ := dsup_entries (prog := prog) (w := w) X hr
  refine ⟨lo, _, _, .inl (X _ _ hl), ⟨es, ep, ⟨rfl, rfl, rfl⟩, rfl, fun e hm => a e (by simpa using hm), b, ?_⟩, z⟩
  rw [List.map_map] at hn ⊢; exact hn
end
section
set_option maxHeartbeats 0 in
open_top hd for PySem.Challenge.rw_nm0114_01
end
section
noncomputable abbrev prg : Program := PySem.Challenge.rw_nm0114_01.row.prog
noncomputable abbrev Lo : List Str := looseW hd.view_39 [Str.ofString "LOADS", Str.ofString "STORES", Str.ofString "LEFT_RANGES", Str.ofString "FORMS", Str.ofString "FIXED", Str.ofString "NUMBERS"]
/-- A call of f with vs comes back with a value that says D; its objects, tuples all, stand on the ledger. -/
abbrev Tells (lv : Nat) (f : Addr) (vs : List Value) (D : PyData) : Prop :=
  ∀ (w : World) (mean : ExcName → Option Value) (mg mb : Str → Option Value) (dp un : Nat) (gd : Option (List Code)) (cn : Str) (cs : Scope) (a : Addr) (ccd : Value) (cl : List (Str × Addr)) (outer : List Env) (A₀ : Around) (base h₀ : Heap) (L : Addr) (m : Str → Option Value) (news : List (Addr × Obj)) (s : Shared) (Q E : Value → Shared → Prop),
    Below A₀ base outer h₀ → Fr h₀ L s.heap m → (hd.heap_39 w.params).In h₀ → News h₀ L s.heap news → Top hd.view_39 Lo mean mg mb h₀ → cs.kind = .function →
    dp + lv < recursionLimit → un + 100 * lv < cLine →
    (∀ (v : Value) (tl : List (Addr × Obj)) (h' : Heap) (tk' : Nat), Fr h₀ L h' m → News h₀ L h' (tl ++ news) → (∀ p ∈ tl, isTupObj p.2) → Sup h₀ tl v D → Q v { s with heap := h', toks := tk' }) →
    wpAny (model PySem.Challenge.rw_nm0114_01.row.prog w) (ktrTop dp un gd cn cs L a ccd cl outer) (call (.ref f) vs) Q E s
section
variable {h₀ h' : Heap} {L : Addr} {m : Str → Option Value} {news tl all : List (Addr × Obj)} {s : Shared} {Q : Value → Shared → Prop} {D : PyData} {v : Value} {tk' : Nat}
  (hret : ∀ (v : Value) (tl : List (Addr × Obj)) (h' : Heap) (tk' : Nat), Fr h₀ L h' m → News h₀ L h' (tl ++ news) → (∀ p ∈ tl, isTupObj p.2) → Sup h₀ tl v D → Q v { s with heap := h', toks := tk' })
include hret
theorem tells_end (F : Fr h₀ L h' m) (N : News h₀ L h' all) (S : Sup h₀ tl v D) (ht : ∀ p ∈ tl, isTupObj p.2) (hs : ∀ p ∈ tl ++ news, p ∈ all) : Q v { s with heap := h', toks := tk' } :=
  hret v tl h' tk' F (fun p hp => N p (hs p hp)) ht S
theorem tells_led {rest : List (Addr × Obj)} (F : Fr h₀ L h' m) (N : News h₀ L h' (tl ++ rest)) (hs : ∀ p ∈ news, p ∈ rest) (ht : ∀ p ∈ tl, isTupObj p.2) (S : Sup h₀ tl v D) : Q v { s with heap := h', toks := tk' } :=
  hret v tl h' tk' F (fun p hp => N p ((List.mem_append.mp hp).elim (List.mem_append_left _) fun q => List.mem_append_right _ (hs p q))) ht S
theorem tells_sv (F : Fr h₀ L h' m) (N : News h₀ L h' all) (hs : ∀ p ∈ news, p ∈ all) (S : SV (fun a o => h'.get? a = some o ∧ isTupObj o) v D) : Q v { s with heap := h', toks := tk' } := by
  obtain ⟨led, K, S'⟩ := ledger_of F S
  exact hret v led h' tk' F (news_append K.1 fun p hp => N p (hs p hp)) K.2 S'
theorem tells_deep {g : Heap} (F : Fr h₀ L h' m) (N : News h₀ L h' all) (hs : ∀ p ∈ news, p ∈ all) (S : Sup g tl v D) (k : Hold g tl h') : Q v { s with heap := h', toks := tk' } :=
  tells_sv hret F N hs (SV.mono (fun a o y => ⟨k a o y.1, y.2⟩) S.tups)
theorem tells_flat (F : Fr h₀ L h' m) (N : News h₀ L h' all) (S : Sup h₀ [] v D) (hs : ∀ p ∈ news, p ∈ all) : Q v { s with heap := h', toks := tk' } :=
  hret v [] h' tk' F (fun p hp => N p (hs p hp)) (fun _ hp => nomatch hp) S
end
theorem tup_obj {vs : Array Value} {n : Nat} {ep : Option Addr} {sl : Array (Option Value)} : isTupObj { cls := .type "tuple", dict := ep, data := .seq vs n, slots := sl } := ⟨_, _, rfl, rfl⟩
/-- a tuple of two on the ledger -/
theorem sup_pair {h₀ : Heap} {tl : List (Addr × Obj)} {D : Addr} {o : Obj} {n : Nat} {u v : Value} {d e : PyData} (hm : (D, o) ∈ tl) (hc : o.cls = .type "tuple") (hd : o.data = .seq #[u, v] n) (S : Sup h₀ tl u d) (T : Sup h₀ tl v e) : Sup h₀ tl (.ref D) (.tuple [d, e]) :=
  .tuple (.inr hm) hc hd rfl fun i x y e1 e2 => match i, e1, e2 with
    | 0, e1, e2 => by
      rw [← Option.some.inj (show some u = some x from e1), ← Option.some.inj (show some d = some y from e2)]
      exact S
    | 1, e1, e2 => by
      rw [← Option.some.inj (show some v = some x from e1), ← Option.some.inj (show some e = some y from e2)]
      exact T
section
variable {w : World} {h₀ : Heap} (X : (hd.heap_39 w.params).In h₀)
include X
theorem loads_dsup : DSup prg w h₀ [] 15 fun c => (loadsF c).map intsD :=
  (dsup_K (l := loadsL.map fun p => (p.1, intsD p.2)) X rfl rfl (by kernel_rfl) (by decide +kernel)).congr fun c => lookI_map intsD c loadsL
theorem stores_dsup : DSup prg w h₀ [] 28 fun c => (storesF c).map intsD :=
  (dsup_K (l := storesL.map fun p => (p.1, intsD p.2)) X rfl rfl (by kernel_rfl) (by decide +kernel)).congr fun c => lookI_map intsD c storesL
theorem forms_dsup : DSup prg w h₀ [] 45 fun c => (formsF c).map PyData.str :=
  (dsup_K (l := formsL.map fun p => (p.1, PyData.str p.2)) X rfl rfl (by kernel_rfl) (by decide +kernel)).congr fun c => lookI_map PyData.str c formsL
theorem fixed_dsup : DSup prg w h₀ [] 48 fun c => (fixedF c).map fun x => sD (some x) :=
  (dsup_K (l := fixedL.map fun p => (p.1, sD (some p.2))) X rfl rfl (by kernel_rfl) (by decide +kernel)).congr fun c => lookI_map (fun x => sD (some x)) c fixedL
end
end
section
def Wait (P : Prop) : Prop := P
theorem Wait.intro {P : Prop} (h : Wait P) : P := h
theorem Wait.out {P : Prop} (h : P) : Wait P := h
def Stop (_ : String) : Prop := True
theorem Wait.at {P : Prop} (k : String) (_ : Stop k) (h : Wait P) : P := h
/-- behind the door of a call: short names for what does not change -/
theorem short {α : Type} {M : Model} {A : Around} {env : Env} {f : Env → Sem α} {Q : α → Shared → Prop} {E : Value → Shared → Prop} {g h : Heap} {gs : Array GenState} {dr : Drawn} {t : Nat} {os : OsState} {L : Addr} {m : Str → Option Value}
    (F : Fr g L h m) (k : let m := m; let e := env; let B := A.deeper e; let gs := gs; let dr := dr; let os := os; ∀ t, Fr g L h m → wpAny M B (f e) Q E ⟨h, gs, dr, t, os⟩) : wpAny M (A.deeper env) (f env) Q E ⟨h, gs, dr, t, os⟩ := k t F
theorem shortC {α : Type} {M : Model} {A : Around} {f : Env → Sem α} {Q : α → Shared → Prop} {E : Value → Shared → Prop} {h₀ base h : Heap} {gs : Array GenState} {dr : Drawn} {t : Nat} {os : OsState} {L fa : Addr} {m : Str → Option Value} {K : Frag} {p : Program} {lo : List Str} {mean : ExcName → Option Value} {mg mb : Str → Option Value} {o : Obj} {nm : Str} {sc : Scope} {cd : Value}
    (K0 : Below A base [] h₀) (X : K.In h₀) (T : Top p lo mean mg mb h₀) (F : Fr h₀ L h m) (N : News h₀ L h [(L + 1, o)])
    (k : let h₀ := h₀; let L := L; let mean := mean; let m := m; let e := envOfC nm sc L fa cd; let B := A.deeper e; let gs := gs; let dr := dr; let os := os; let ca := L + 1; let news := [(ca, o)]; ∀ t, Below A h₀ [] h₀ → K.In h₀ → Top p lo mean mg mb h₀ → Fr h₀ L h m → News h₀ L h news → wpAny M B (f e) Q E ⟨h, gs, dr, t, os⟩) (eb : base = h₀) :
    wpAny M (A.deeper (envOfC nm sc L fa cd)) (f (envOfC nm sc L fa cd)) Q E ⟨h, gs, dr, t, os⟩ := k t (eb ▸ K0) X T F N
theorem reFN {P : Prop} {g h : Heap} {L : Addr} {m : Str → Option Value} {news : List (Addr × Obj)} (F : Fr g L h m) (N : News g L h news) (k : let m' := m; let n' := news; Fr g L h m' → News g L h n' → P) : P := k F N
theorem tok_any {α : Type} {M : Model} {A : Around} {x : Sem α} {Q : α → Shared → Prop} {E : Value → Shared → Prop} {h : Heap} {gs : Array GenState} {dr : Drawn} {t : Nat} {os : OsState} (k : ∀ t, wpAny M A x Q E ⟨h, gs, dr, t, os⟩) : wpAny M A x Q E ⟨h, gs, dr, t, os⟩ := k t
theorem foldQE {α : Type} {M : Model} {A : Around} {x : Sem α} {Q : α → Shared → Prop} {E : Value → Shared → Prop} {s : Shared} (k : let q := Q; let r := E; wpAny M A x q r s) : wpAny M A x Q E s := k
theorem un64 {un c : Nat} (h : un + 100 * 4 < c) : un + 3 + 64 < c := by omega
theorem un42 {un c : Nat} (h : un + 100 * 4 < c) : un + 3 + 100 * 2 < c := by omega
theorem opt_cases {α : Type} {P : Prop} (o : Option α) (s : ∀ x, o = some x → P) (n : o = none → P) : P := by
  cases h : o with
  | none => exact n h
  | some x => exact s x h
section
variable {w : World} {mean : ExcName → Option Value} {mg mb : Str → Option Value} {dp un : Nat} {gd : Option (List Code)} {cn : Str} {cs : Scope} {a : Addr} {ccd : Value} {cl : List (Str × Addr)} {outer : List Env} {A₀ : Around} {base h₀ : Heap} {L : Addr} {m : Str → Option Value} {news : List (Addr × Obj)} {s : Shared} {Q E : Value → Shared → Prop} {lv : Nat} {f : Addr} {vs : List Value} {D : PyData}
theorem use_any (C : Tells lv f vs D) (B : Below A₀ base outer h₀) (F : Fr h₀ L s.heap m) (X : (hd.heap_39 w.params).In h₀) (N : News h₀ L s.heap news) (T : Top hd.view_39 Lo mean mg mb h₀) (hk : cs.kind = .function) (hd : dp + lv < recursionLimit) (hu : un + 100 * lv < cLine)
    (h : ∀ (v : Value) (tl : List (Addr × Obj)) (h' : Heap) (tk' : Nat), Fr h₀ L h' m → News h₀ L h' (tl ++ news) → (∀ p ∈ tl, isTupObj p.2) → Sup h₀ tl v D → Q v { s with heap := h', toks := tk' }) :
    wpAny (model PySem.Challenge.rw_nm0114_01.row.prog w) (ktrTop dp un gd cn cs L a ccd cl outer) (call (.ref f) vs) Q E s := C _ _ _ _ _ _ _ _ _ _ _ _ _ _ _ _ _ _ _ _ _ _ B F X N T hk hd hu h
/-- as use_any, of a value that stands on no object -/
theorem use_flat (C : Tells lv f vs D) (v₀ : Nat → Value) (e : ∀ tl v, Sup h₀ tl v D → ∃ t, v = v₀ t) (B : Below A₀ base outer h₀) (F : Fr h₀ L s.heap m) (X : (hd.heap_39 w.params).In h₀) (N : News h₀ L s.heap news) (T : Top hd.view_39 Lo mean mg mb h₀) (hk : cs.kind = .function) (hd : dp + lv < recursionLimit) (hu : un + 100 * lv < cLine)
    (h : ∀ (t : Nat) (h' : Heap) (tk' : Nat), Fr h₀ L h' m → News h₀ L h' news → Q (v₀ t) { s with heap := h', toks := tk' }) :
    wpAny (model PySem.Challenge.rw_nm0114_01.row.prog w) (ktrTop dp un gd cn cs L a ccd cl outer) (call (.ref f) vs) Q E s := use_any C B F X N T hk hd hu fun v tl h' tk' F' N' _ S => by
  obtain ⟨t, rfl⟩ := e tl v S
  exact h t h' tk' F' (news_drop N')
end
theorem flat_none {h₀ : Heap} (tl : List (Addr × Obj)) (v : Value) (S : Sup h₀ tl v .none) : ∃ _ : Nat, v = Value.none := by cases S; exact ⟨0, rfl⟩
theorem flat_bool {h₀ : Heap} {b : Bool} (tl : List (Addr × Obj)) (v : Value) (S : Sup h₀ tl v (.bool b)) : ∃ _ : Nat, v = Value.bool b := by cases S; exact ⟨0, rfl⟩
theorem flat_int {h₀ : Heap} {i : Int} (tl : List (Addr × Obj)) (v : Value) (S : Sup h₀ tl v (.int i)) : ∃ t : Nat, v = Value.int i t := by cases S; exact ⟨_, rfl⟩
theorem map_none {α β : Type} {g : α → β} {o : Option α} (h : o = none) : o.map g = none := by rw [h]; rfl
theorem map_some {α β : Type} {g : α → β} {o : Option α} {x : α} (h : o = some x) : o.map g = some (g x) := by rw [h]; rfl
abbrev TupAt (h₀ : Heap) (led : List (Addr × Obj)) (b : Addr) (vs : Array Value) : Prop := ∀ h : Heap, Hold h₀ led h → IsTup h b vs
/-- an item of plain tuple data, at a written place -/
theorem sup_item {h₀ : Heap} {led : List (Addr × Obj)} {v : Value} {ds : List PyData} (x : Sup h₀ led v (.tuple ds)) : ∃ (b : Addr) (vs : List Value), v = .ref b ∧ vs.length = ds.length ∧ TupAt h₀ led b vs.toArray ∧
    ∀ (i : Nat) (u : Value) (d : PyData), vs[i]? = some u → ds[i]? = some d → Sup h₀ led u d := by
  cases x with
  | @tuple a o vs n ds ha hc hd hl hi =>
    refine ⟨a, vs.toList, rfl, hl, fun h k => ⟨o, k _ _ ha, hc, n, ?_⟩, hi⟩
    rw [hd]
theorem nil_of_len {α : Type} {l : List α} (h : l.length = 0) : l = [] := List.eq_nil_of_length_eq_zero h
theorem cons_of_len {α : Type} {l : List α} {n : Nat} (h : l.length = n + 1) : ∃ a r, l = a :: r ∧ r.length = n := by
  cases l with
  | nil => cases h
  | cons a r => exact ⟨a, r, rfl, Nat.succ.inj h⟩
theorem two_of {α : Type} {l : List α} (h : l.length = 2) : ∃ a b, l = [a, b] := by
  obtain ⟨a, r, rfl, h1⟩ := cons_of_len h
  obtain ⟨b, q, rfl, h2⟩ := cons_of_len h1
  exact ⟨a, b, by rw [nil_of_len h2]⟩
theorem three_of {α : Type} {l : List α} (h : l.length = 3) : ∃ a b c, l = [a, b, c] := by
  obtain ⟨a, r, rfl, h1⟩ := cons_of_len h
  obtain ⟨b, c, rfl⟩ := two_of h1
  exact ⟨a, b, c, rfl⟩
theorem sup_two {h₀ : Heap} {led : List (Addr × Obj)} {v : Value} {d e : PyData} (S : Sup h₀ led v (.tuple [d, e])) : ∃ b x y, v = .ref b ∧ TupAt h₀ led b #[x, y] ∧ Sup h₀ led x d ∧ Sup h₀ led y e := by
  obtain ⟨b, vs, rfl, hl, ht, hi⟩ := sup_item S
  obtain ⟨x, y, rfl⟩ := two_of hl
  exact ⟨b, x, y, rfl, ht, hi 0 x d rfl rfl, hi 1 y e rfl rfl⟩
theorem sup_int {H : Addr → Obj → Prop} {v : Value} {i : Int} (x : SV H v (.int i)) : ∃ t, v = .int i t := by
  cases x; exact ⟨_, rfl⟩
theorem sup_ints2 {h₀ : Heap} {led : List (Addr × Obj)} {v : Value} {i j : Int} (S : Sup h₀ led v (intsD [i, j])) : ∃ b t u, v = .ref b ∧ TupAt h₀ led b #[.int i t, .int j u] := by
  obtain ⟨b, x, y, rfl, ht, h1, h2⟩ := sup_two S
  obtain ⟨t, rfl⟩ := sup_int h1
  obtain ⟨u, rfl⟩ := sup_int h2
  exact ⟨b, t, u, rfl, ht⟩
theorem sup_ints3 {h₀ : Heap} {led : List (Addr × Obj)} {v : Value} {i j k : Int} (S : Sup h₀ led v (intsD [i, j, k])) : ∃ b t u z, v = .ref b ∧ TupAt h₀ led b #[.int i t, .int j u, .int k z] := by
  obtain ⟨b, vs, rfl, hl, ht, hi⟩ := sup_item S
  obtain ⟨x, y, q, rfl⟩ := three_of hl
  obtain ⟨t, rfl⟩ := sup_int (hi 0 x _ rfl rfl)
  obtain ⟨u, rfl⟩ := sup_int (hi 1 y _ rfl rfl)
  obtain ⟨z, rfl⟩ := sup_int (hi 2 q _ rfl rfl)
  exact ⟨b, t, u, z, rfl, ht⟩
theorem sup_four {h₀ : Heap} {led : List (Addr × Obj)} {v : Value} {d e f g : PyData} (S : Sup h₀ led v (.tuple [d, e, f, g])) : ∃ b x y z u, v = .ref b ∧ TupAt h₀ led b #[x, y, z, u] ∧ Sup h₀ led x d ∧ Sup h₀ led y e ∧ Sup h₀ led z f ∧ Sup h₀ led u g := by
  obtain ⟨b, vs, rfl, hl, ht, hi⟩ := sup_item S
  obtain ⟨x, r, rfl, h⟩ := cons_of_len hl
  obtain ⟨y, z, u, rfl⟩ := three_of h
  exact ⟨b, x, y, z, u, rfl, ht, hi 0 x d rfl rfl, hi 1 y e rfl rfl, hi 2 z f rfl rfl, hi 3 u g rfl rfl⟩
end
local macro_rules | `(tactic| walk_at $k:str) => `(tactic| (with_reducible (refine Wait.at $k (by assumption) ?_)))
section
section
variable {prog : Program} {w : World} {A : Around} {E : Value → Shared → Prop} {s : Shared} {h₀ : Heap} {env : Env} {target : Expr} {body : List Stmt} {Q : Flow → Shared → Prop} {I : Addr} {keep : List (Addr × Obj)}
theorem post_mono {L : Addr} {s₁ : Shared} {its : List (Addr × Obj)} {r r' : (Str → Option Value) → List (Addr × Obj) → Prop} (h : ∀ m n, r m n → r' m n) {f : Flow} {s₂ : Shared} (x : UnrPostW h₀ L s₁ its r Q f s₂) : UnrPostW h₀ L s₁ its r' Q f s₂ := by
  have e : UnrEndW h₀ L s₁ its r s₂ → UnrEndW h₀ L s₁ its r' s₂ := fun ⟨h', tk, m', n', a, b, c, d, q⟩ => ⟨h', tk, m', n', a, b, c, d, h _ _ q⟩
  cases f with
  | ret v => exact x
  | brk => exact x
  | next => exact e x
  | cont => exact e x
/-- an enumeration whose turns keep a tale -/
theorem enum_ind (Inv : Nat → (Str → Option Value) → List (Addr × Obj) → Prop) {vs : List Value}
    (keepI : ∀ i m n, Inv i m n → SubL keep n)
    (turn : ∀ (i : Nat) (x : Value), vs[i]? = some x → ∀ m₁ news₁, Inv i m₁ news₁ → ∀ T t h tk oe oi, IsTup h T #[.int (i : Int) t, x] → Fr h₀ env.locals h m₁ → oe.cls = .type "enumerate" → oi.cls = .type "list_iterator" → News h₀ env.locals h ((I + 1, oe) :: (I, oi) :: news₁) →
      wpAny (model prog w) A (assign target env (.ref T)) (fun _ s₂ => wpAny (model prog w) A (execs body env) (UnrPostW h₀ env.locals { s with heap := h, toks := tk } [(I + 1, oe), (I, oi)] (fun m' n' => Inv (i + 1) m' n') Q) E s₂) E { s with heap := h, toks := tk })
    (done : ∀ m n h tk, Inv vs.length m n → Fr h₀ env.locals h m → News h₀ env.locals h n → Q .next { s with heap := h, toks := tk }) :
    ∀ (r : List Value) (i : Nat) m n, vs.drop i = r → i ≤ vs.length → Inv i m n → ItemsRest prog w A E h₀ env target body Q s [(I + 1, "enumerate"), (I, "list_iterator")] keep (enumItems i r) m n
  | [], i, m, n, e, hi, hI => fun h tk F N => by
    have : i = vs.length := by
      have := congrArg List.length e
      simp at this
      omega
    subst this
    exact done m n h tk hI F N
  | x :: r, i, m, n, e, hi, hI => by
    have hx : vs[i]? = some x := by
      have := congrArg (fun l => l[0]?) e
      simpa using this
    have hr : vs.drop (i + 1) = r := by rw [← List.drop_drop, e]; rfl
    have hi' : i + 1 ≤ vs.length := (List.getElem?_eq_some_iff.mp hx).1
    refine ItemsRest.pair fun T t h tk hT F => ?_
    refine AllObj.cons fun oe ce => AllObj.cons fun oi ci => AllObj.nil fun N => ?_
    refine wpAny_mono (turn i x hx m n hI T t h tk oe oi hT F ce ci N) (fun _ s₂ p => wpAny_mono p (fun f s₃ q => post_mono (fun m' n' z => ⟨keepI _ _ _ z, ?_⟩) q) fun _ _ y => y) fun _ _ y => y
    exact enum_ind Inv keepI turn done r (i + 1) m' n' hr hi' z
/-- a list or tuple whose turns keep a tale -/
theorem val_ind {cn : String} (Inv : Nat → (Str → Option Value) → List (Addr × Obj) → Prop) {vs : List Value}
    (keepI : ∀ i m n, Inv i m n → SubL keep n)
    (turn : ∀ (i : Nat) (x : Value), vs[i]? = some x → ∀ m₁ news₁, Inv i m₁ news₁ → ∀ h tk oi, Fr h₀ env.locals h m₁ → oi.cls = .type cn → News h₀ env.locals h ((I, oi) :: news₁) →
      wpAny (model prog w) A (assign target env x) (fun _ s₂ => wpAny (model prog w) A (execs body env) (UnrPostW h₀ env.locals { s with heap := h, toks := tk } [(I, oi)] (fun m' n' => Inv (i + 1) m' n') Q) E s₂) E { s with heap := h, toks := tk })
    (done : ∀ m n h tk, Inv vs.length m n → Fr h₀ env.locals h m → News h₀ env.locals h n → Q .next { s with heap := h, toks := tk }) :
    ∀ (r : List Value) (i : Nat) m n, vs.drop i = r → i ≤ vs.length → Inv i m n → ItemsRest prog w A E h₀ env target body Q s [(I, cn)] keep (r.map .val) m n
  | [], i, m, n, e, hi, hI => fun h tk F N => by
    have : i = vs.length := by
      have := congrArg List.length e
      simp at this
      omega
    subst this
    exact done m n h tk hI F N
  | x :: r, i, m, n, e, hi, hI => by
    have hx : vs[i]? = some x := by
      have := congrArg (fun l => l[0]?) e
      simpa using this
    have hr : vs.drop (i + 1) = r := by rw [← List.drop_drop, e]; rfl
    have hi' : i + 1 ≤ vs.length := (List.getElem?_eq_some_iff.mp hx).1
    refine ItemsRest.val fun h tk F => ?_
    refine AllObj.cons fun oi ci => AllObj.nil fun N => ?_
    refine wpAny_mono (turn i x hx m n hI h tk oi F ci N) (fun _ s₂ p => wpAny_mono p (fun f s₃ q => post_mono (fun m' n' z => ⟨keepI _ _ _ z, ?_⟩) q) fun _ _ y => y) fun _ _ y => y
    exact val_ind Inv keepI turn done r (i + 1) m' n' hr hi' z
theorem any_map {S : List Str} {M : Str → Option Value} : M = fun y => if S.contains y then M y else M y := by funext y; simp
theorem ti_map {S : List Str} {M m' : Str → Option Value} (hm : ∀ y, S.contains y = false → m' y = M y) : m' = fun y => if S.contains y then m' y else M y := by
  funext y
  cases hc : S.contains y with
  | true => simp
  | false => simp [hm y hc]
theorem enum_end {L : Addr} {oe oi : Obj} {s₁ : Shared} {h' : Heap} {tk : Nat} {m' : Str → Option Value} {all : List (Addr × Obj)} {rest : (Str → Option Value) → List (Addr × Obj) → Prop} (ce : oe.cls = .type "enumerate") (ci : oi.cls = .type "list_iterator") (F : Fr h₀ L h' m') (N : News h₀ L h' all) (new' : List (Addr × Obj))
    (his : ∀ p, p ∈ (I + 1, oe) :: (I, oi) :: new' → p ∈ all) (off : ∀ p ∈ new', p.1 < I ∨ (p.2.cls ≠ .type "enumerate" ∧ p.2.cls ≠ .type "list_iterator")) (r : rest m' new') : UnrEndW h₀ L s₁ [(I + 1, oe), (I, oi)] rest { s₁ with heap := h', toks := tk } := by
  refine ⟨h', tk, m', new', rfl, F, fun p hp => N p (his p (by simpa using hp)), fun p hp q hq e => ?_, r⟩
  have hp' := (N p (his p (.tail _ (.tail _ hp)))).1
  rcases List.mem_cons.mp hq with rfl | hq
  · have e' : p.1 = I + 1 := e
    rcases off p hp with l | ⟨c, _⟩
    · rw [e'] at l; exact absurd l (Nat.not_lt.mpr (Nat.le_succ I))
    · rw [e'] at hp'
      have h1 : h'.get? (I + 1) = some oe := (N _ (his _ (.head _))).1
      have h2 : oe = p.2 := Option.some.inj (h1.symm.trans hp')
      exact c (h2 ▸ ce)
  · rw [List.mem_singleton.mp hq] at e
    have e' : p.1 = I := e
    rcases off p hp with l | ⟨_, c⟩
    · rw [e'] at l; exact absurd l (Nat.lt_irrefl _)
    · rw [e'] at hp'
      have h1 : h'.get? I = some oi := (N _ (his _ (.tail _ (.head _)))).1
      have h2 : oi = p.2 := Option.some.inj (h1.symm.trans hp')
      exact c (h2 ▸ ci)
end
/-- one entry more, at a key that is not there yet -/
theorem valueAt_snoc {kvs : List (Int × Value)} {k : Int} {v : Value} (c : Int) (h : valueAt kvs k = none) : valueAt (stored kvs k v) c = if k = c then some v else valueAt kvs c := by
  rw [stored_absent h]
  unfold valueAt at h ⊢
  rw [List.find?_append]
  by_cases e : k = c
  · subst e
    rw [if_pos rfl]
    have h' : kvs.find? (fun p => decide (p.1 = k)) = none := by simpa using h
    rw [h']
    simp
  · rw [if_neg e]
    cases q : kvs.find? (fun p => decide (p.1 = c)) with
    | some z => simp
    | none => simp [e]
theorem lookI_snoc {α : Type} {k : Int} {r : α} (c : Int) : ∀ {l : List (Int × α)}, lookI k l = none → lookI c (l ++ [(k, r)]) = if k = c then some r else lookI c l
  | [], _ => rfl
  | (k', d) :: l, h => by
    have h1 : ¬ k' = k := fun e => by simp [lookI, e] at h
    have h2 : lookI k l = none := by simpa [lookI, h1] using h
    show (if k' = c then some d else lookI c (l ++ [(k, r)])) = _
    rw [lookI_snoc c h2]
    by_cases e : k = c
    · subst e; simp [h1]
    · simp [e, lookI]
theorem opt_next {h₀ : Heap} {tups tups' : List (Addr × Obj)} {kvs : List (Int × Value)} {l : List (Int × PyData)} {k : Int} {r : PyData} {v : Value} (fresh : lookI k l = none) (old : ∀ c, OptSup h₀ tups (valueAt kvs c) (lookI c l)) (S : Sup h₀ tups' v r) (hs : ∀ p ∈ tups, p ∈ tups') :
    ∀ c, OptSup h₀ tups' (valueAt (stored kvs k v) c) (lookI c (l ++ [(k, r)])) := fun c => by
  have hk : valueAt kvs k = none := OptSup.none (by have := old k; rw [fresh] at this; exact this)
  rw [valueAt_snoc c hk, lookI_snoc c fresh]
  by_cases e : k = c
  · rw [if_pos e, if_pos e]; exact S
  · rw [if_neg e, if_neg e]; exact (old c).mono hs
theorem lookI_fresh {α : Type} : ∀ {l : List (Int × α)} {n : Nat} {k : Int} {r : α}, (l.map (·.1)).Nodup → l[n]? = some (k, r) → lookI k (l.take n) = none
  | [], n, k, r, _, e => by simp at e
  | (k', d) :: l, 0, k, r, _, e => rfl
  | (k', d) :: l, n + 1, k, r, h, e => by
    have h' : k' ∉ l.map (·.1) ∧ (l.map (·.1)).Nodup := List.nodup_cons.mp h
    have e' : l[n]? = some (k, r) := e
    have hk : ¬ k' = k := fun q => h'.1 (q ▸ List.mem_map.mpr ⟨(k, r), List.mem_of_getElem? e', rfl⟩)
    show (if k' = k then some d else lookI k (l.take n)) = none
    rw [if_neg hk]
    exact lookI_fresh h'.2 e'
theorem take_next {α : Type} {l : List α} {n : Nat} {x : α} (e : l[n]? = some x) : l.take (n + 1) = l.take n ++ [x] := by
  rw [List.take_add_one, e]; rfl
theorem sup_ints {h₀ : Heap} {led : List (Addr × Obj)} {a : Addr} {vs : List Value} {ns : List Int} {n : Nat} (hm : (a, { cls := .type "tuple", data := .seq vs.toArray n }) ∈ led) (hi : IntsAre vs ns) : Sup h₀ led (.ref a) (intsD ns) := by
  refine .tuple (.inr hm) rfl rfl (by simp [hi.length]) fun i v d e1 e2 => ?_
  obtain ⟨j, t, rfl, hj⟩ := hi.at i v (by simpa using e1)
  rw [List.getElem?_map, hj] at e2
  rw [← Option.some.inj e2]
  exact .int j t
theorem dict_not {prog : Program} {w : World} {o : Obj} {kvs : List (Int × Value)} (h : o.IsDictOf (intKind prog w) kvs) : o.cls ≠ .type "enumerate" ∧ o.cls ≠ .type "list_iterator" := by
  obtain ⟨es, ep, ⟨hc, _, _⟩, _⟩ := h
  rw [hc]; exact ⟨by decide, by decide⟩
theorem tup_not {o : Obj} (h : isTupObj o) : o.cls ≠ .type "enumerate" ∧ o.cls ≠ .type "list_iterator" := by
  obtain ⟨_, _, hc, _⟩ := h
  rw [hc]; exact ⟨by decide, by decide⟩
end
section
noncomputable def nkD (r : Int × Int × List Int × List Int) : PyData := .tuple [.int r.1, .int r.2.1, intsD r.2.2.1, intsD r.2.2.2]
theorem nk_rows {w : World} {h₀ : Heap} (X : (hd.heap_39 w.params).In h₀) {vs : List Value} (e : vs.mapM (readV (hd.heap_39 w.params) 3) = some (nkL.map nkD)) (i : Nat) (v : Value) (hv : vs[i]? = some v) : ∃ r, nkL[i]? = some r ∧ Sup h₀ [] v (nkD r) := by
  obtain ⟨_, b⟩ := mapM_at e
  obtain ⟨y, h1, h2⟩ := b i v hv
  rw [List.getElem?_map] at h1
  obtain ⟨r, hr, rfl⟩ := Option.map_eq_some_iff.mp h1
  exact ⟨r, hr, readV_sup X 3 v _ h2⟩
theorem nk_hit {c : Int} {i : Nat} {r : Int × Int × List Int × List Int} (e : nkL[i]? = some r) (h : nkFrom (nkL.drop i) c = nk c) (h1 : r.1 ≤ c) (h2 : c ≤ r.2.1) : nk c = some r.2.2 := by
  have hi : i < nkL.length := (List.getElem?_eq_some_iff.mp e).1
  rw [← h, nkFrom, List.drop_eq_getElem_cons hi, (List.getElem?_eq_some_iff.mp e).2, List.find?_cons_of_pos (by simp [inRow, h1, h2])]
  rfl
theorem nk_miss {c : Int} {i : Nat} {r : Int × Int × List Int × List Int} (e : nkL[i]? = some r) (h : nkFrom (nkL.drop i) c = nk c) (h1 : ¬ (r.1 ≤ c ∧ c ≤ r.2.1)) : nkFrom (nkL.drop (i + 1)) c = nk c := by
  have hi : i < nkL.length := (List.getElem?_eq_some_iff.mp e).1
  rw [← h, nkFrom, nkFrom, List.drop_eq_getElem_cons hi, (List.getElem?_eq_some_iff.mp e).2, List.find?_cons_of_neg (by simpa [inRow] using h1)]
theorem unrEnd_var {h₀ : Heap} {L : Addr} {its news all : List (Addr × Obj)} {rest : (Str → Option Value) → List (Addr × Obj) → Prop} {s₁ : Shared} {h' : Heap} {tk : Nat} {m' : Str → Option Value} (F : Fr h₀ L h' m') (N : News h₀ L h' all)
    (hs : ∀ p ∈ its ++ news, p ∈ all) (off : ∀ p ∈ news, ∀ q ∈ its, p.1 ≠ q.1) (r : rest m' news) : UnrEndW h₀ L s₁ its rest { s₁ with heap := h', toks := tk } :=
  ⟨h', tk, m', news, rfl, F, fun p hp => N p (hs p hp), off, r⟩
theorem off_lt {I : Addr} {o : Obj} {news : List (Addr × Obj)} (l : ∀ p ∈ news, p.1 < I) : ∀ p ∈ news, ∀ q ∈ [(I, o)], p.1 ≠ q.1 := fun p hp q hq => by
  rw [List.mem_singleton.mp hq]; exact Nat.ne_of_lt (l p hp)
noncomputable def NkInv (c : Int) (M : Str → Option Value) (news : List (Addr × Obj)) (i : Nat) (m₁ : Str → Option Value) (n₁ : List (Addr × Obj)) : Prop :=
  ∃ u : Str → Option Value, m₁ = (fun y => if [Str.ofString "least", Str.ofString "most", Str.ofString "params", Str.ofString "results"].contains y then u y else M y) ∧ n₁ = news ∧ nkFrom (nkL.drop i) c = nk c
section
set_option maxHeartbeats 8000000 in
theorem nk_tells (c : Int) (tk : Tok) : Tells 2 134 [.int c tk] (sD (nk c)) := by
  unfold Tells
  k_fill
  w_top off
  (have zz0 : Stop "pyIter ref" := trivial)
  (have zz1 : Stop "UnrEndW" := trivial)
  intro w mean mg mb dp un gd cn cs a ccd cl outer A₀ base h₀ L m news s Q E B F X N T hk hdp hun hret
  refine wpAny_call ?_
  (first | k_dflt cell_enter | fail "not entered")
  (rename Fr _ _ _ _ => f0)
  (with_reducible refine short f0 ?_)
  clear f0
  intro m₀ e₀ B₀ gs₀ dr₀ os₀ t₀ f0
  k_steps
  refine Wait.out ?_
  (rename Fr _ _ _ _ => lF)
  (rename News _ _ _ _ => lN)
  (rename Frag.In _ _ => lX)
  refine' iter_tupK ?yA lF lN lX ?yB ?yC ?yD ?yE ?yF
  case yA => with_unfolding_all rfl
  case yB => k_is
  case yC => exact rfl
  case yD => exact rfl
  case yE => decide
  intro I l1
  refine' val_ind (NkInv c _ _) ?yG ?yH ?yJ _ 0 _ _ rfl (Nat.zero_le _) ⟨_, any_map, rfl, rfl⟩
  case yG => exact fun _ _ _ _ => trivial
  case yJ =>
    rintro m₁ n₁ h tk2 ⟨u, e1, e2, hnk⟩ F2 N2
    subst e1 e2
    have hn : nk c = none := hnk.symm
    k_steps
    exact tells_flat hret (by assumption) (by assumption) (by rw [hn]; exact .none) (by intro p hp; simp [hp])
  rintro i x hx m₁ n₁ ⟨u, e1, e2, hnk⟩ h tk2 oi F2 ci N2
  subst e1 e2
  obtain ⟨r, hr, Sr⟩ := nk_rows X (by kernel_rfl) i x hx
  obtain ⟨b, x1, x2, x3, x4, rfl, hT, S1, S2, S3, S4⟩ := sup_four Sr
  obtain ⟨t1, rfl⟩ := sup_int S1
  obtain ⟨t2, rfl⟩ := sup_int S2
  have hT' : IsTup h b _ := hT _ (hold0 fun a o e => F2.keep a o (Fr.keep (L := L) (m := m) (by assumption) a o e))
  clear hT
  k_steps
  · have e := nk_hit hr hnk (by assumption) (by assumption)
    (rename News _ _ _ _ => kN)
    exact tells_end (tl := [(_, { cls := .type "tuple", data := .seq [x3, x4].toArray })]) hret (by assumption) kN (by rw [e]; exact sup_pair (List.Mem.head _) rfl rfl (S3.mono fun _ hp => nomatch hp) (S4.mono fun _ hp => nomatch hp)) (by intro p hp; rw [List.mem_singleton.mp hp]; exact ⟨_, _, rfl, rfl⟩) (by intro p hp; rcases List.mem_cons.mp hp with rfl | hp; exact .head _; exact .tail _ (.tail _ hp))
  all_goals
    refine Wait.out ?_
    (rename Fr _ _ _ _ => kF)
    (rename News _ _ _ _ => kN)
    refine unrEnd_var kF kN (fun p hp => hp) (off_lt l1) ⟨_, ti_map ?_, rfl, nk_miss hr hnk (by omega)⟩
    intro y hc
    have hc' := hc
    simp only [List.contains_cons, List.contains_nil, Bool.or_false, Bool.or_eq_false_iff, beq_eq_false_iff_ne] at hc'
    simp only [hc'.1, hc'.2.1, hc'.2.2.1, hc'.2.2.2, hc, if_false, Bool.false_eq_true]
end
end
section
theorem nin (I q : Nat) (h : @Ne Nat q I) : (q : Addr) ∉ ([I] : List Addr) := fun hm => h (List.mem_singleton.mp hm)
theorem ne_of {a b : Nat} (h : @Ne Nat a b) : @Ne Addr a b := h
/-- what a comprehension over pairs makes: pairs that pass p give a value that G tells -/
inductive Made (p : Int → Int → Bool) (G : Int → Int → Value → Prop) : List (Int × Int) → List Value → Prop
  | nil : Made p G [] []
  | take {l : List (Int × Int)} {ys : List Value} {a b : Int} {z : Value} : Made p G l ys → p a b = true → G a b z → Made p G (l ++ [(a, b)]) (ys ++ [z])
  | skip {l : List (Int × Int)} {ys : List Value} {a b : Int} : Made p G l ys → p a b = false → Made p G (l ++ [(a, b)]) ys
theorem Made.len {p : Int → Int → Bool} {G : Int → Int → Value → Prop} {l : List (Int × Int)} {ys : List Value} (x : Made p G l ys) : ys.length ≤ l.length := by
  induction x with
  | nil => exact Nat.le_refl _
  | take _ _ _ ih => simp only [List.length_append, List.length_singleton]; omega
  | skip _ _ ih => simp only [List.length_append, List.length_singleton]; omega
abbrev listObj (ys : List Value) : Obj := { cls := .type "list", data := .seq ys.toArray ys.length }
section
variable {prog : Program} {w : World} {A : Around} {E : Value → Shared → Prop} {s : Shared} {env : Env}
abbrev Tests (ifs : List Expr) (env : Env) : Sem Bool := forIn ifs true fun c r => if r = true then do let ok ← isTrue c env (eval c env); pure (ForInStep.yield ok) else pure (ForInStep.yield r)
structure PairQuiet (prog : Program) (w : World) (A : Around) (env : Env) (scope : Scope) (cl : List (Str × Addr)) (x y : Str) (ifs : List Expr) (elt : Expr) (prs : List (Int × Int)) (p : Int → Int → Bool) (G : Int → Int → Value → Prop) (H : Heap) : Prop where
  tests : ∀ C a b ta tb s₃ m₃ E', (a, b) ∈ prs → H.objs.size ≤ C → s₃.heap.Ns C m₃ → m₃ x = some (.int a ta) → m₃ y = some (.int b tb) → (∀ q o, H.get? q = some o → s₃.heap.get? q = some o) →
    wpAny (model prog w) A (Tests ifs (compEnvC scope cl C env)) (fun ok s₄ => ok = p a b ∧ Keeps s₃ s₄) E' s₃
  elt : ∀ C a b ta tb s₃ m₃ E', (a, b) ∈ prs → p a b = true → H.objs.size ≤ C → s₃.heap.Ns C m₃ → m₃ x = some (.int a ta) → m₃ y = some (.int b tb) → (∀ q o, H.get? q = some o → s₃.heap.get? q = some o) →
    wpAny (model prog w) A (eval elt (compEnvC scope cl C env)) (fun z s₄ => G a b z ∧ Keeps s₃ s₄) E' s₃
theorem turns_loop {elt target iter : Expr} {ifs : List Expr} {scope : Scope} {pos : Pos} {it acc : Value} {env : Env} {R : Result → Shared → Prop} (I : Nat → Shared → Prop)
    (turn : ∀ n s, I n s → wpAny (model prog w) A (pyNext it) (fun r s₁ => match r with
      | none => R (.ok .next) s₁
      | some v => wpAny (model prog w) A (letOwnedTupleGo target it v) (fun _ s₀ => wpAny (model prog w) A (assign target env v) (fun _ s₂ =>
          wpAny (model prog w) A (Tests ifs env) (fun ok s₃ => if ok = true then wpAny (model prog w) A (eval elt env) (fun x s₄ =>
            wpAny (model prog w) A (call (.builtin "list.append") [acc, x]) (fun _ s₅ => ∃ m, m < n ∧ I m s₅) (fun _ _ => False) s₄) (fun _ _ => False) s₃
            else ∃ m, m < n ∧ I m s₃) (fun _ _ => False) s₂) (fun _ _ => False) s₀) (fun _ _ => False) s₁) (fun _ _ => False) s)
    (n : Nat) (h : I n s) : codeAny (model prog w) A (.compLoop (.ListComp elt [⟨target, iter, ifs, 0⟩] scope pos) 0 it acc env) R s := by
  refine codeAny_loop rfl I (fun n s hI => ?_) n h
  show wpAny _ A ((compTurn (.ListComp elt [⟨target, iter, ifs, 0⟩] scope pos) 0 it acc env).onRaise (fun x => do noteFrame x env; theTreesLotGoes x)) _ _ s
  refine wpAny_noted ?_
  rw [compTurn_list]
  refine wpAny_bind (wpAny_standAt (wpAny_bind (wpAny_mono (turn n s hI) (fun r s₁ h₁ => ?_) fun _ _ f => f.elim)))
  cases r with
  | none => exact wpAny_pure h₁
  | some v =>
    refine wpAny_bind (wpAny_mono h₁ (fun _ s₀ k₀ => ?_) fun _ _ f => f.elim)
    refine wpAny_bind (wpAny_mono k₀ (fun _ s₂ k₂ => ?_) fun _ _ f => f.elim)
    refine wpAny_bind (wpAny_mono k₂ (fun ok s₃ k₃ => ?_) fun _ _ f => f.elim)
    cases ok with
    | false => exact wpAny_pure ⟨rfl, k₃⟩
    | true => exact wpAny_bind (wpAny_bind (wpAny_mono k₃ (fun z s₄ k₄ => wpAny_bind (wpAny_mono k₄ (fun _ s₅ k₅ => wpAny_pure (wpAny_pure ⟨rfl, k₅⟩)) fun _ _ f => f.elim)) fun _ _ f => f.elim))
theorem step_less {n i : Nat} (h : i < n) : n + 1 - (i + 1) < n + 1 - i := by omega
theorem comp_pairs {elt iter : Expr} {x y : Str} {px py tp : Pos} {tt} {ifs : List Expr} {scope : Scope} {cl : List (Str × Addr)} {pos : Pos} {Q : Value → Shared → Prop} (p : Int → Int → Bool) (G : Int → Int → Value → Prop)
    (hclos : closureFor scope env = pure cl) (hcell : ∀ z ∈ scope.names, z.2 ≠ .cell) (hkind : scope.kind = .function)
    (hnames : ∀ z ∈ scope.names, z.2 = .local → scope.names.lookup z.1 = some .local) (hx : scope.names.lookup x = some .local) (hy : scope.names.lookup y = some .local) (hxy : x ≠ y)
    (h : wpAny (model prog w) A (eval iter env) (fun xv s₁ => ∃ ax vs prs, xv = .ref ax ∧ A.handled = none ∧ s₁.heap.IsList ax (List.toArray vs) ∧ vs.length ≤ sizeLine ∧
      (∀ (i : Nat) (v : Value), vs[i]? = some v → ∃ t a b ta tb, prs[i]? = some (a, b) ∧ v = .ref t ∧ IsTup s₁.heap t #[.int a ta, .int b tb]) ∧ prs.length = vs.length ∧ PairQuiet prog w A env scope cl x y ifs elt prs p G s₁.heap ∧
      ∀ D ys h' tk, s₁.heap.objs.size ≤ D → h'.get? D = some (listObj ys) → (∀ q o, s₁.heap.get? q = some o → h'.get? q = some o) → Made p G prs ys → Q (.ref D) { s₁ with heap := h', toks := tk }) E s)
    (hs : ∀ z, foldedSetIterable iter env z = pure z := by intro _; rfl) :
    wpAny (model prog w) A (eval (.ListComp elt [⟨.Tuple [.Name x px, .Name y py] tt tp, iter, ifs, 0⟩] scope pos) env) Q E s := by
  rw [eval_ListComp]
  refine wpAny_comprehension_free (use := none) rfl hs hclos hkind hnames (wpAny_mono h (fun xv s₁ h₁ => ?_) fun _ _ e => e)
  obtain ⟨ax, vs, prs, rfl, hh, hl, hsz, hit, hlen, hq, fin⟩ := h₁
  refine wpAny_pyIter_list hl ?_
  refine wpAny_newObj_type (wpAny_newFunctionEnv hcell (by intro z hz; simp at hz) (fun h₁ hns hsb => ?_) hkind)
  dsimp only at hns hsb ⊢
  generalize hI : s₁.heap.objs.size = I at hns hsb ⊢
  generalize hH1 : s₁.heap.push { cls := .type "list_iterator", data := .fields #[.ref ax, .int 0 0] } = H1 at hns hsb ⊢
  have hD : H1.objs.size = I + 1 := by rw [← hH1, Heap.size_push, hI]
  generalize hH2 : H1.push { cls := .type "list", dict := none, data := .seq ([] : List Value).toArray } = H2 at hns hsb ⊢
  have hC : H2.objs.size = I + 2 := by rw [← hH2, Heap.size_push, hD]
  have gI0 : H1.get? I = some { cls := .type "list_iterator", data := .fields #[.ref ax, .int 0 0] } := by
    rw [← hH1, ← hI]; exact Heap.get?_push_size _ rfl
  have gD0 : H2.get? (I + 1) = some (listObj []) := by
    have e : (H1.push { cls := .type "list", dict := none, data := .seq ([] : List Value).toArray }).get? H1.objs.size = some { cls := .type "list", dict := none, data := .seq ([] : List Value).toArray } := Heap.get?_push_size _ rfl
    rw [hD, hH2] at e; exact e
  rw [hC] at hns hsb
  simp only [hC, hD]
  have lt0 : ∀ (q : Nat) o, s₁.heap.get? q = some o → @LT.lt Nat _ q I := fun q o e => hI ▸ Heap.lt_size e
  have n1 : @Ne Nat (I + 1) I := Nat.succ_ne_self I
  have n2 : @Ne Nat (I + 2) I := Nat.ne_of_gt (Nat.lt_add_of_pos_right (Nat.succ_pos 1))
  have n12 : @Ne Nat (I + 1) (I + 2) := Nat.ne_of_lt (Nat.lt_succ_self _)
  have m0 : ∀ q o, s₁.heap.get? q = some o → @Ne Nat q I := fun q o e => Nat.ne_of_lt (lt0 q o e)
  have m1 : ∀ q o, s₁.heap.get? q = some o → @Ne Nat q (I + 1) := fun q o e => Nat.ne_of_lt (Nat.lt_succ_of_lt (lt0 q o e))
  have m2 : ∀ q o, s₁.heap.get? q = some o → @Ne Nat q (I + 2) := fun q o e => Nat.ne_of_lt (Nat.lt_succ_of_lt (Nat.lt_succ_of_lt (lt0 q o e)))
  have le2 : s₁.heap.objs.size ≤ I + 2 := hI ▸ Nat.le_add_right _ 2
  have up1 : ∀ q o, s₁.heap.get? q = some o → H1.get? q = some o := fun q o e => hH1 ▸ Heap.get?_push_of_some _ e
  have up2 : ∀ q o, H1.get? q = some o → h₁.get? q = some o := fun q o e => hsb.extBut q o (ne_of (Nat.ne_of_lt (Nat.lt_succ_of_lt (show @LT.lt Nat _ q (I + 1) from hD ▸ Heap.lt_size e)))) (Heap.get?_push_of_some _ (hH2 ▸ Heap.get?_push_of_some _ e))
  have gI : h₁.IsListIter I ax 0 := ⟨_, up2 I _ gI0, rfl, rfl⟩
  have gL : h₁.IsList ax (List.toArray vs) := hl.at fun o e => up2 _ _ (up1 _ _ e)
  have gD : h₁.get? (I + 1) = some (listObj []) := hsb.extBut _ _ (ne_of n12) (Heap.get?_push_of_some _ gD0)
  have hax : @LT.lt Nat _ ax I := by obtain ⟨o, e, _⟩ := hl; exact lt0 _ _ e
  have ax1 : @Ne Nat ax (I + 1) := Nat.ne_of_lt (Nat.lt_succ_of_lt hax)
  have ax2 : @Ne Nat ax (I + 2) := Nat.ne_of_lt (Nat.lt_succ_of_lt (Nat.lt_succ_of_lt hax))
  have W := Walks.list (prog := prog) (w := w) (A := A) hh I ax (Nat.ne_of_lt hax) (List.toArray vs)
  have hn : (List.toArray vs).size = vs.length := by simp
  rw [hn] at W
  have loop : ∀ s₃ : Shared, s₃ = { s₁ with heap := h₁, toks := s₁.toks + ([] : List (Str × Value)).length } →
      codeAny (model prog w) A (.compLoop (.ListComp elt [⟨.Tuple [.Name x px, .Name y py] tt tp, iter, ifs, 0⟩] scope pos) 0 (.ref I) (.ref (I + 1)) (compEnvC scope cl (I + 2) env))
        (compPost (model prog w) A E none Q (.ref (I + 1)) (I + 2)) s₃ := by
    rintro s₃ rfl
    refine turns_loop (fun k s' => ∃ h' tk i ys m', s' = { s₁ with heap := h', toks := tk } ∧ i ≤ vs.length ∧ k = vs.length + 1 - i ∧ (h'.IsListIter I ax i ∧ h'.IsList ax (List.toArray vs)) ∧ h'.get? (I + 1) = some (listObj ys) ∧ h'.Ns (I + 2) m' ∧
      (∀ q o, s₁.heap.get? q = some o → h'.get? q = some o) ∧ Made p G (prs.take i) ys) ?_ (vs.length + 1) ⟨h₁, _, 0, [], _, rfl, Nat.zero_le _, rfl, ⟨gI, gL⟩, gD, hns, fun q o e => up2 _ _ (up1 _ _ e), by rw [List.take_zero]; exact .nil⟩
    rintro k s' ⟨h', tk, i, ys, m', rfl, hi, rfl, hst, hD', hns', hb, hM⟩
    by_cases hlt : i < vs.length
    · refine W.item i _ _ _ hlt hst fun v h₂ tk₂ hP hst₂ hk₂ => ?_
      have hv : vs[i]? = some v := by simpa using hP
      obtain ⟨t, a, b, ta, tb, hpr, rfl, ht⟩ := hit i v hv
      have hb₂ : ∀ q o, s₁.heap.get? q = some o → h₂.get? q = some o := fun q o e => hk₂ q o (nin I q (m0 q o e)) (hb q o e)
      have hD₂ : h₂.get? (I + 1) = some (listObj ys) := hk₂ _ _ (nin I _ n1) hD'
      have hns₂ : h₂.Ns (I + 2) m' := hns'.at' fun o e => hk₂ _ o (nin I _ n2) e
      have ht₂ : IsTup h₂ t #[.int a ta, .int b tb] := ht.keeps hb₂
      have htk : prs.take (i + 1) = prs.take i ++ [(a, b)] := by rw [List.take_add_one, hpr]; rfl
      have hmem : (a, b) ∈ prs := List.mem_of_getElem? hpr
      refine wpAny_letOwnedTupleGo_listiter hst₂.1 ?_
      refine assign_Tuple_tuple hh ht₂ rfl rfl fun h₅ he => ?_
      have he' : ∀ q o, h₂.get? q = some o → h₅.get? q = some o := fun q o e => he q o (Nat.ne_of_lt (Heap.lt_size e)) e
      refine assignInOrder_cons (wpAny_assign_Name (wpAny_storeName_local (lookup_relabel_local hx) (hns₂.at' fun o e => he' _ o e) (fun h₆ hn₆ hs₆ => ?_) (by simp [compEnvC, relabel, hkind])))
      refine assignInOrder_cons (wpAny_assign_Name (wpAny_storeName_local (lookup_relabel_local hy) hn₆ (fun h₃ hn₃ hs₃ => ?_) (by simp [compEnvC, relabel, hkind])))
      refine assignInOrder_nil ?_
      have k3 : ∀ q o, q ≠ I + 2 → h₂.get? q = some o → h₃.get? q = some o := fun q o hq e => hs₃.extBut q o hq (hs₆.extBut q o hq (he' q o e))
      have hb₃ : ∀ q o, s₁.heap.get? q = some o → h₃.get? q = some o := fun q o e => k3 q o (ne_of (m2 q o e)) (hb₂ q o e)
      have hD₃ := k3 _ _ (ne_of n12) hD₂
      have hst₃ : h₃.IsListIter I ax (i + 1) ∧ h₃.IsList ax (List.toArray vs) := W.frame _ _ _ hst₂ fun q hq o e => k3 q o (by
        have hq' : @Eq Nat q I ∨ @Eq Nat q ax := by simpa using hq
        exact hq'.elim (fun z => ne_of fun y => n2 (y.symm.trans z)) fun z => ne_of fun y => ax2 (z.symm.trans y)) e
      refine wpAny_mono (hq.tests _ a b ta tb _ _ _ hmem le2 hn₃ (by simp [hxy]) (by simp) hb₃) (fun ok s₄ hok => ?_) fun _ _ f => f
      obtain ⟨rfl, h₄, tk₄, rfl, hk₄⟩ := hok
      have hst₄ : h₄.IsListIter I ax (i + 1) ∧ h₄.IsList ax (List.toArray vs) := W.frame _ _ _ hst₃ fun q _ o e => hk₄ q o e
      have hn₄ := hn₃.at' fun o e => hk₄ _ o e
      have hb₄ : ∀ q o, s₁.heap.get? q = some o → h₄.get? q = some o := fun q o e => hk₄ q o (hb₃ q o e)
      have hD₄ := hk₄ _ _ hD₃
      cases hp : p a b with
      | false =>
        rw [if_neg (by simp)]
        exact ⟨vs.length + 1 - (i + 1), step_less hlt, h₄, tk₄, i + 1, ys, _, rfl, hlt, rfl, hst₄, hD₄, hn₄, hb₄, htk ▸ .skip hM hp⟩
      | true =>
        rw [if_pos rfl]
        refine wpAny_mono (hq.elt _ a b ta tb _ _ _ hmem hp le2 hn₄ (by simp [hxy]) (by simp) hb₄) (fun z s₅ hz => ?_) fun _ _ f => f
        obtain ⟨hz, h₅', tk₅, rfl, hk₅⟩ := hz
        have hylen := hM.len
        refine append_at (hsz := by show ys.toArray.size ≤ sizeLine; rw [List.size_toArray]; have := List.length_take_le i prs; omega) (hk₅ _ _ hD₄) fun h₆' hs₆' hD₆ => ?_
        have k6 : ∀ q o, q ≠ I + 1 → h₄.get? q = some o → h₆'.get? q = some o := fun q o hq e => hs₆'.extBut q o hq (hk₅ q o e)
        refine ⟨vs.length + 1 - (i + 1), step_less hlt, h₆', _, i + 1, ys ++ [z], _, rfl, hlt, rfl, W.frame _ _ _ hst₄ fun q hq o e => k6 q o (by
          have hq' : @Eq Nat q I ∨ @Eq Nat q ax := by simpa using hq
          exact hq'.elim (fun z => ne_of fun y => n1 (y.symm.trans z)) fun z => ne_of fun y => ax1 (z.symm.trans y)) e, ?_, hn₄.at' fun o e => k6 (I + 2) o (ne_of n12.symm) e, fun q o e => k6 q o (ne_of (m1 q o e)) (hb₄ q o e), htk ▸ .take hM hp hz⟩
        rw [hD₆]
        simp [listObj]
    · obtain rfl : i = vs.length := Nat.le_antisymm hi (Nat.not_lt.mp hlt)
      refine W.done _ _ _ hst fun h₂ tk₂ hk₂ => ?_
      have hM' : Made p G prs ys := by rw [List.take_of_length_le (Nat.le_of_eq hlen)] at hM; exact hM
      refine ⟨m', hns'.at' fun o e => hk₂ _ o (nin I _ n2) e, fun h'' hs'' => ?_⟩
      refine fin (I + 1) ys h'' _ (hI ▸ Nat.le_succ _) (hs''.extBut _ _ (ne_of n12) (hk₂ _ _ (nin I _ n1) hD')) (fun q o e => ?_) hM'
      exact hs''.extBut q o (ne_of (m2 q o e)) (hk₂ q o (nin I q (m0 q o e)) (hb q o e))
  exact codeAny_compStart_list (loop _ rfl) (W.self 0 _ _ _ ⟨gI, gL⟩ (loop _ rfl))
end
end
section
theorem flat_nk {h₀ : Heap} {x : Option (List Int × List Int)} (tl : List (Addr × Obj)) (v : Value) (S : Sup h₀ tl v (sD x)) : (x = none ∧ v = .none) ∨ (∃ b d, x = some d ∧ v = .ref b) := by
  cases x with
  | none => cases S; exact .inl ⟨rfl, rfl⟩
  | some d => cases S; exact .inr ⟨_, d, rfl, rfl⟩
theorem hold_in {h₀ g h : Heap} {L L' : Addr} {m m' : Str → Option Value} (G : Fr h₀ L g m) (F : Fr g L' h m') : Hold h₀ [] h := hold0 fun a o e => F.keep a o (G.keep a o e)
theorem use_nk {w : World} {mean : ExcName → Option Value} {mg mb : Str → Option Value} {dp un : Nat} {gd : Option (List Code)} {cn : Str} {cs : Scope} {a : Addr} {ccd : Value} {cl : List (Str × Addr)} {outer : List Env} {A₀ : Around} {base h₀ : Heap} {L : Addr} {m : Str → Option Value} {news : List (Addr × Obj)} {s : Shared} {Q E : Value → Shared → Prop} {c : Int} {tk : Tok} (B : Below A₀ base outer h₀) (F : Fr h₀ L s.heap m) (X : (hd.heap_39 w.params).In h₀) (N : News h₀ L s.heap news) (T : Top hd.view_39 Lo mean mg mb h₀) (hk : cs.kind = .function) (hd : dp + 2 < recursionLimit) (hu : un + 200 < cLine)
    (hn : nk c = none → ∀ (tl : List (Addr × Obj)) (h' : Heap) (tk' : Nat), Fr h₀ L h' m → News h₀ L h' (tl ++ news) → Q .none { s with heap := h', toks := tk' })
    (hs : ∀ d, nk c = some d → ∀ (b : Addr) (tl : List (Addr × Obj)) (h' : Heap) (tk' : Nat), Fr h₀ L h' m → News h₀ L h' (tl ++ news) → Q (.ref b) { s with heap := h', toks := tk' }) :
    wpAny (model PySem.Challenge.rw_nm0114_01.row.prog w) (ktrTop dp un gd cn cs L a ccd cl outer) (call (.ref 134) [.int c tk]) Q E s :=
  use_any (nk_tells c tk) B F X N T hk hd hu fun v tl h' tk' F' N' _ S => by
    rcases flat_nk _ _ S with ⟨e, rfl⟩ | ⟨b, d, e, rfl⟩
    · exact hn e tl h' tk' F' N'
    · exact hs d e b tl h' tk' F' N'
section
set_option maxHeartbeats 8000000 in
theorem form_tells (c : Int) (tk : Tok) : Tells 4 141 [.int c tk] (fD (formF c)) := by
  unfold Tells
  k_fill
  w_top off
  intro w mean mg mb dp un gd cn cs a ccd cl outer A₀ base h₀ L m news s Q E B F X N T hk hdp hun hret
  have z1 : Stop "compareOp In int ref" := trivial
  have z2 : Stop "subscriptTail" := trivial
  have z3 : Stop "call ref" := trivial
  refine wpAny_call ?_
  (first | k_dflt cell_enter | fail "not entered")
  rename Fr h₀ L _ m => G
  (rename Fr _ _ _ _ => f0)
  (with_reducible refine short f0 ?_)
  clear f0
  intro m₀ e₀ B₀ gs₀ dr₀ os₀ t₀ f0
  k_steps
  refine Wait.out ?_
  refine opt_cases (formsF c) (fun x hf => ?_) (fun hf => ?_)
  · have e : formF c = some x := by rw [formF, hf]
    refine ds_yes (forms_dsup X) (hold_in G (by k_asm)) (map_some hf) ?_
    k_steps
    refine Wait.out ?_
    refine ds_sub (forms_dsup X) (hold_in G (by k_asm)) (map_some hf) (fun v S => ?_)
    k_steps
    exact tells_flat hret (by assumption) (by assumption) (by rw [e]; exact S) (fun _ hp => hp)
  refine ds_no (forms_dsup X) (hold_in G (by k_asm)) (map_none hf) ?_
  k_steps
  refine Wait.out ?_
  refine opt_cases (loadsF c) (fun x hl => ?_) (fun hl => ?_)
  · have e : formF c = some memargS := by rw [formF, hf, hl]; rfl
    rw [← memargS_eq] at e
    refine ds_yes (loads_dsup X) (hold_in G (by k_asm)) (map_some hl) ?_
    k_steps
    exact tells_flat hret (by assumption) (by assumption) (by rw [e]; exact .str _ _) (fun _ hp => hp)
  refine ds_no (loads_dsup X) (hold_in G (by k_asm)) (map_none hl) ?_
  k_steps
  refine Wait.out ?_
  refine opt_cases (storesF c) (fun x hst => ?_) (fun hst => ?_)
  · have e : formF c = some memargS := by rw [formF, hf, hl, hst]; rfl
    rw [← memargS_eq] at e
    refine ds_yes (stores_dsup X) (hold_in G (by k_asm)) (map_some hst) ?_
    k_steps
    exact tells_flat hret (by assumption) (by assumption) (by rw [e]; exact .str _ _) (fun _ hp => hp)
  refine ds_no (stores_dsup X) (hold_in G (by k_asm)) (map_none hst) ?_
  k_steps
  refine Wait.out ?_
  refine use_nk (by k_asm) (by k_asm) (by k_asm) (by k_asm) (by k_asm) rfl (Nat.lt_of_succ_lt hdp) (un42 hun) (fun hn tl9 h' tk' F' N' => ?_) (fun d hn b tl9 h' tk' F' N' => ?_)
  · have e : formF c = none := by rw [formF, hf, hl, hst, hn]; rfl
    k_steps
    exact tells_flat hret (by assumption) (by assumption) (by rw [e]; exact .none) (fun _ hp => List.mem_append_right _ hp)
  · have e : formF c = some noneS := by rw [formF, hf, hl, hst, hn]; rfl
    rw [← noneS_eq] at e
    k_steps
    exact tells_flat hret (by assumption) (by assumption) (by rw [e]; exact .str _ _) (fun _ hp => List.mem_append_right _ hp)
end
end
section
inductive PairsAt (h : Heap) : List Value → List (Int × Int) → Prop
  | nil : PairsAt h [] []
  | cons {t : Addr} {a b : Int} {ta tb : Tok} {vs : List Value} {l : List (Int × Int)} : IsTup h t #[.int a ta, .int b tb] → PairsAt h vs l → PairsAt h (.ref t :: vs) ((a, b) :: l)
theorem PairsAt.len {h : Heap} {vs : List Value} {l : List (Int × Int)} (x : PairsAt h vs l) : l.length = vs.length := by
  induction x with
  | nil => rfl
  | cons _ _ ih => simp [ih]
theorem PairsAt.at {h : Heap} {vs : List Value} {l : List (Int × Int)} (x : PairsAt h vs l) : ∀ (i : Nat) (v : Value), vs[i]? = some v → ∃ t a b ta tb, l[i]? = some (a, b) ∧ v = .ref t ∧ IsTup h t #[.int a ta, .int b tb] := by
  induction x with
  | nil => intro i v e; simp at e
  | @cons t a b ta tb vs l ht _ ih =>
    intro i v e
    cases i with
    | zero => exact ⟨t, a, b, ta, tb, rfl, (Option.some.inj e).symm, ht⟩
    | succ i => exact ih i v (by simpa using e)
section
variable {prog : Program} {w : World} {A : Around} {E : Value → Shared → Prop} {s : Shared}
theorem chain_val {cenv : Env} {x y : Str} {p1 p2 p3 p4 : Pos} {a b c : Int} {ta tb tk : Tok} {ca : Addr} {m₃ : Str → Option Value} {Q : Value → Shared → Prop} (hk : cenv.scope.kind = .function) (hx : cenv.kindOf x = some .local) (hy : cenv.kindOf y = some .local)
    (hc : cenv.kindOf (Str.ofString "code") = some .cell) (hcl : cenv.cells.lookup (Str.ofString "code") = some ca) (hns : s.heap.Ns cenv.locals m₃) (ha : m₃ x = some (.int a ta)) (hb : m₃ y = some (.int b tb)) (hv : s.heap.IsCell ca (some (.int c tk)))
    (hdx : (x == ("__debug__" : Str)) = false) (hdy : (y == ("__debug__" : Str)) = false)
    (h : Q (.bool (decide (a ≤ c) && decide (c ≤ b))) s) :
    wpAny (model prog w) A (eval (.Compare (.Name x p1) [.LtE, .LtE] [.Name (Str.ofString "code") p2, .Name y p3] p4) cenv) Q E s := by
  refine Compare_chain (wpAny_Name (wpAny_loadName_local hk hx hns ha ?_) hdx)
  refine chain_link (wpAny_Name (wpAny_loadName_cell hk hc hcl hv ?_))
  refine le_int (wpAny_truthy_bool ?_)
  by_cases h1 : a ≤ c
  · rw [decide_eq_true h1, if_pos rfl]
    rw [decide_eq_true h1, Bool.true_and] at h
    exact chain_last (wpAny_Name (wpAny_loadName_local hk hy hns hb (le_int h)) hdy)
  · rw [decide_eq_false h1, if_neg (by simp)]
    rw [decide_eq_false h1, Bool.false_and] at h
    exact h
theorem chain_test {cenv : Env} {x y : Str} {p1 p2 p3 p4 p5 p6 : Pos} {whole : Sem Value} {a b c : Int} {ta tb tk : Tok} {ca : Addr} {m₃ : Str → Option Value} {Q : Bool → Shared → Prop} (hk : cenv.scope.kind = .function) (hx : cenv.kindOf x = some .local) (hy : cenv.kindOf y = some .local)
    (hc : cenv.kindOf (Str.ofString "code") = some .cell) (hcl : cenv.cells.lookup (Str.ofString "code") = some ca) (hns : s.heap.Ns cenv.locals m₃) (ha : m₃ x = some (.int a ta)) (hb : m₃ y = some (.int b tb)) (hv : s.heap.IsCell ca (some (.int c tk)))
    (hdx : (x == ("__debug__" : Str)) = false) (hdy : (y == ("__debug__" : Str)) = false)
    (h : ∀ tk', Q (decide (a ≤ c) && decide (c < a + b)) { s with toks := tk' }) :
    wpAny (model prog w) A (isTrue (.Compare (.Name x p1) [.LtE, .Lt] [.Name (Str.ofString "code") p2, .BinOp (.Name x p5) .Add (.Name y p3) p6] p4) cenv whole) Q E s := by
  refine isTrue_chain (wpAny_Name (wpAny_loadName_local hk hx hns ha ?_) hdx)
  refine test_link (wpAny_Name (wpAny_loadName_cell hk hc hcl hv ?_))
  refine le_int (wpAny_truthy_bool ?_)
  by_cases h1 : a ≤ c
  · rw [decide_eq_true h1, if_pos rfl]
    rw [decide_eq_true h1] at h
    refine test_last (wpAny_BinOp (wpAny_Name (wpAny_loadName_local hk hx hns ha (wpAny_Name (wpAny_loadName_local hk hy hns hb (add_int (lt_int (wpAny_truthy_bool ?_)))) hdy)) hdx))
    have := h (s.toks + 1)
    rw [Bool.true_and] at this
    exact this
  · rw [decide_eq_false h1, if_neg (by simp)]
    have := h s.toks
    rw [decide_eq_false h1, Bool.false_and] at this
    exact this
theorem made_bools {f : Int → Int → Bool} {l : List (Int × Int)} {ys : List Value} (x : Made (fun _ _ => true) (fun a b z => z = .bool (f a b)) l ys) : LSm.BoolsAre ys (l.map fun p => f p.1 p.2) := by
  have snoc : ∀ {vs : List Value} {bs : List Bool} (b : Bool), LSm.BoolsAre vs bs → LSm.BoolsAre (vs ++ [.bool b]) (bs ++ [b]) := by
    intro vs bs b h
    induction h with
    | nil => exact .cons b .nil
    | cons c _ ih => exact .cons c ih
  induction x with
  | nil => exact .nil
  | take _ _ hz ih =>
    subst hz
    rw [List.map_append]
    exact snoc _ ih
  | skip _ hp _ => cases hp
theorem made_ints {p : Int → Int → Bool} {l : List (Int × Int)} {ys : List Value} (x : Made p (fun a _ z => ∃ t, z = .int a t) l ys) : IntsAre ys ((l.filter fun q => p q.1 q.2).map (·.1)) := by
  have snoc : ∀ {vs : List Value} {ns : List Int} (n : Int) (t : Tok), IntsAre vs ns → IntsAre (vs ++ [.int n t]) (ns ++ [n]) := by
    intro vs ns n t h
    induction h with
    | nil => exact .cons n t .nil
    | cons c u _ ih => exact .cons c u ih
  induction x with
  | nil => exact .nil
  | @take l ys a b z _ hp hz ih =>
    obtain ⟨t, rfl⟩ := hz
    rw [List.filter_append, List.map_append]
    simp only [List.filter_cons, List.filter_nil, hp, if_true, List.map_cons, List.map_nil]
    exact snoc a t ih
  | @skip l ys a b _ hp ih =>
    rw [List.filter_append]
    simp only [List.filter_cons, List.filter_nil, hp, Bool.false_eq_true, if_false, List.append_nil]
    exact ih
theorem comp_frame {h₀ h h' : Heap} {L D : Addr} {m : Str → Option Value} {news : List (Addr × Obj)} {o : Obj} (F : Fr h₀ L h m) (N : News h₀ L h news) (hD : h.objs.size ≤ D) (hg : h'.get? D = some o) (hk : ∀ q o, h.get? q = some o → h'.get? q = some o) :
    Fr h₀ L h' m ∧ News h₀ L h' ((D, o) :: news) := by
  refine ⟨F.keeps hk, fun p hp => ?_⟩
  rcases List.mem_cons.mp hp with rfl | hp
  · refine ⟨hg, ?_, ?_⟩
    · rintro rfl; exact Nat.lt_irrefl _ (Nat.lt_of_lt_of_le F.ns.lt hD)
    · cases e : h₀.get? D with
      | none => rfl
      | some o' => exact absurd (Heap.lt_size (F.keep _ _ e)) (Nat.not_lt.mpr hD)
  · exact (N.grown hk) p hp
theorem left_comp {env : Env} {scope : Scope} {cl : List (Str × Addr)} {x y : Str} {px py tp p1 p2 p3 p4 pos : Pos} {tt} {iter : Expr} {h₀ : Heap} {L ax ca : Addr} {m : Str → Option Value} {news : List (Addr × Obj)} {vs : List Value} {c : Int} {tk : Tok} {Q : Value → Shared → Prop} (l : List (Int × Int))
    (F : Fr h₀ L s.heap m) (N : News h₀ L s.heap news) (hh : A.handled = none) (hclos : closureFor scope env = pure cl) (hcell : ∀ z ∈ scope.names, z.2 ≠ .cell) (hkind : scope.kind = .function)
    (hnames : ∀ z ∈ scope.names, z.2 = .local → scope.names.lookup z.1 = some .local) (hx : scope.names.lookup x = some .local) (hy : scope.names.lookup y = some .local) (hxy : x ≠ y)
    (hc : ∀ C, (compEnvC scope cl C env).kindOf (Str.ofString "code") = some .cell) (hcl : cl.lookup (Str.ofString "code") = some ca) (hv : s.heap.IsCell ca (some (.int c tk)))
    (hdx : (x == ("__debug__" : Str)) = false) (hdy : (y == ("__debug__" : Str)) = false)
    (hi : ∀ Q' : Value → Shared → Prop, Q' (.ref ax) s → wpAny (model prog w) A (eval iter env) Q' E s) (hl : s.heap.IsList ax (List.toArray vs)) (hp : PairsAt s.heap vs l) (hsz : vs.length ≤ sizeLine)
    (h : ∀ D ys h' tk', Fr h₀ L h' m → News h₀ L h' ((D, listObj ys) :: news) → (∀ p ∈ news, p.1 < D) → LSm.BoolsAre ys (l.map fun p => decide (p.1 ≤ c) && decide (c ≤ p.2)) → Q (.ref D) { s with heap := h', toks := tk' })
    (hs : ∀ z, foldedSetIterable iter env z = pure z := by intro _; rfl) :
    wpAny (model prog w) A (eval (.ListComp (.Compare (.Name x p1) [.LtE, .LtE] [.Name (Str.ofString "code") p2, .Name y p3] p4) [⟨.Tuple [.Name x px, .Name y py] tt tp, iter, [], 0⟩] scope pos) env) Q E s := by
  refine comp_pairs (fun _ _ => true) (fun a b z => z = .bool (decide (a ≤ c) && decide (c ≤ b))) hclos hcell hkind hnames hx hy hxy (hi _ ⟨ax, vs, l, rfl, hh, hl, hsz, hp.at, hp.len, ⟨?_, ?_⟩, ?_⟩) hs
  · intro C a b ta tb s₃ m₃ E' _ _ _ _ _ _
    exact wpAny_pure ⟨rfl, s₃.heap, s₃.toks, rfl, fun _ _ e => e⟩
  · intro C a b ta tb s₃ m₃ E' _ _ _ hns ha hb hk
    exact chain_val (by simp [compEnvC, relabel, hkind]) (lookup_relabel_local hx) (lookup_relabel_local hy) (hc C) hcl hns ha hb (hv.keeps hk) hdx hdy ⟨rfl, s₃.heap, s₃.toks, rfl, fun _ _ e => e⟩
  · intro D ys h' tk' hD hg hk hM
    obtain ⟨F', N'⟩ := comp_frame F N hD hg hk
    exact h D ys h' tk' F' N' (fun p hp => Nat.lt_of_lt_of_le (Heap.lt_size (N p hp).1) hD) (made_bools hM)
theorem lawleft_comp {env : Env} {scope : Scope} {cl : List (Str × Addr)} {x y : Str} {px py tp p0 p1 p2 p3 p4 p5 p6 pos : Pos} {tt} {iter : Expr} {h₀ : Heap} {L ax ca : Addr} {m : Str → Option Value} {news : List (Addr × Obj)} {vs : List Value} {c : Int} {tk : Tok} {Q : Value → Shared → Prop} (l : List (Int × Int))
    (F : Fr h₀ L s.heap m) (N : News h₀ L s.heap news) (hh : A.handled = none) (hclos : closureFor scope env = pure cl) (hcell : ∀ z ∈ scope.names, z.2 ≠ .cell) (hkind : scope.kind = .function)
    (hnames : ∀ z ∈ scope.names, z.2 = .local → scope.names.lookup z.1 = some .local) (hx : scope.names.lookup x = some .local) (hy : scope.names.lookup y = some .local) (hxy : x ≠ y)
    (hc : ∀ C, (compEnvC scope cl C env).kindOf (Str.ofString "code") = some .cell) (hcl : cl.lookup (Str.ofString "code") = some ca) (hv : s.heap.IsCell ca (some (.int c tk)))
    (hdx : (x == ("__debug__" : Str)) = false) (hdy : (y == ("__debug__" : Str)) = false)
    (hi : ∀ Q' : Value → Shared → Prop, Q' (.ref ax) s → wpAny (model prog w) A (eval iter env) Q' E s) (hl : s.heap.IsList ax (List.toArray vs)) (hp : PairsAt s.heap vs l) (hsz : vs.length ≤ sizeLine)
    (h : ∀ D ys h' tk', Fr h₀ L h' m → News h₀ L h' ((D, listObj ys) :: news) → (∀ p ∈ news, p.1 < D) → IntsAre ys ((l.filter fun p => decide (p.1 ≤ c) && decide (c < p.1 + p.2)).map (·.1)) → Q (.ref D) { s with heap := h', toks := tk' })
    (hs : ∀ z, foldedSetIterable iter env z = pure z := by intro _; rfl) :
    wpAny (model prog w) A (eval (.ListComp (.Name x p0) [⟨.Tuple [.Name x px, .Name y py] tt tp, iter, [.Compare (.Name x p1) [.LtE, .Lt] [.Name (Str.ofString "code") p2, .BinOp (.Name x p5) .Add (.Name y p3) p6] p4], 0⟩] scope pos) env) Q E s := by
  refine comp_pairs (fun a b => decide (a ≤ c) && decide (c < a + b)) (fun a _ z => ∃ t, z = .int a t) hclos hcell hkind hnames hx hy hxy (hi _ ⟨ax, vs, l, rfl, hh, hl, hsz, hp.at, hp.len, ⟨?_, ?_⟩, ?_⟩) hs
  · intro C a b ta tb s₃ m₃ E' _ _ hns ha hb hk
    refine wpAny_tests_one (chain_test (by simp [compEnvC, relabel, hkind]) (lookup_relabel_local hx) (lookup_relabel_local hy) (hc C) hcl hns ha hb (hv.keeps hk) hdx hdy fun tk' => ⟨rfl, s₃.heap, tk', rfl, fun _ _ e => e⟩)
  · intro C a b ta tb s₃ m₃ E' _ _ _ hns ha hb hk
    exact wpAny_Name (wpAny_loadName_local (by simp [compEnvC, relabel, hkind]) (lookup_relabel_local hx) hns ha ⟨⟨ta, rfl⟩, s₃.heap, s₃.toks, rfl, fun _ _ e => e⟩) hdx
  · intro D ys h' tk' hD hg hk hM
    obtain ⟨F', N'⟩ := comp_frame F N hD hg hk
    exact h D ys h' tk' F' N' (fun p hp => Nat.lt_of_lt_of_le (Heap.lt_size (N p hp).1) hD) (made_ints hM)
end
end
section
theorem leftA_of {c : Int} (h : c ≠ 253) : leftA c = ([((42 : Int), (43 : Int)), (56, 57), (67, 68), (91, 102), (139, 166), (168, 171), (174, 191), (64512, 64519)].map fun p => decide (p.1 ≤ c) && decide (c ≤ p.2)).any id := by
  unfold leftA
  rw [beq_eq_false_iff_ne.mpr h, Bool.false_or, List.any_map]
  rfl
theorem pair_at {K : Frag} {h₀ h : Heap} {L t : Addr} {m : Str → Option Value} {a b : Int} {ta tb : Tok} (F : Fr h₀ L h m) (X : K.In h₀) (e : K.lookup t = some { cls := .type "tuple", data := .seq #[.int a ta, .int b tb] }) : IsTup h t #[.int a ta, .int b tb] :=
  ⟨_, F.keep _ _ (X _ _ e), rfl, _, rfl⟩
theorem list_at {K : Frag} {h₀ h : Heap} {L t : Addr} {m : Str → Option Value} {vs : List Value} (F : Fr h₀ L h m) (X : K.In h₀) (e : K.lookup t = some { cls := .type "list", data := .seq (List.toArray vs) }) : h.IsList t (List.toArray vs) :=
  ⟨_, F.keep _ _ (X _ _ e), rfl, _, rfl⟩
theorem cell_at {h₀ h : Heap} {L ca : Addr} {o : Obj} {news : List (Addr × Obj)} {v : Value} (N : News h₀ L h news) (hm : (ca, o) ∈ news) (hd : o.data = .cell (some v)) : h.IsCell ca (some v) := ⟨o, (N _ hm).1, hd⟩
set_option maxHeartbeats 1000000 in
theorem left_tells (c : Int) (tk : Tok) : Tells 4 167 [.int c tk] (.bool (leftA c)) := by
  unfold Tells
  k_fill
  w_top off
  (have zz0 : Stop "eval ListComp" := trivial)
  (have zz1 : Stop "call builtin:any" := trivial)
  intro w mean mg mb dp un gd cn cs a ccd cl outer A₀ base h₀ L m news s Q E B F X N T hk hdp hun hret
  refine wpAny_call ?_
  (refine' code_defC ?k1 ?k2 ?k3 ?k4 ?k5 ?kA ?kF ?kK ?k6 ?k7 ?k8 ?k9 ?kB ?kD ?_ ?c2 ?c3 ?c4; (case kA => exact rfl); (case kF => exact rfl); (case kK => assumption); (case k1 => k_asm); (case k2 => k_asm); (case k3 => k_asm); (case k4 => k_asm); (case k5 => k_asm); (case k6 => k_is); (case k7 => k_is); (case k8 => ktr_room); (case k9 => first | exact BindsTo.of_eq rfl | exact binds_K (by k_in) rfl (by k_is) rfl rfl rfl | fail "k_enter: no rule for these arguments"); (case kB => exact rfl); (case kD => decide +kernel); (case c2 => exact rfl); (case c3 => exact rfl); (case c4 => exact rfl); k_whole; intro g' L' h' tk' cells' FG' F' N' Y' B' X' T' l1; (try k_lt l1); k_cells Y'; (try simp only [List.cons_append, List.nil_append] at N'); (try dsimp only); (try k_lift B'); (try k_fold))
  k_steps
  · rename c = 253 => hc9
    rw [hc9] at hret
    exact tells_flat hret (by assumption) (by assumption) (.bool _) (by intro p hp; simp [hp])
  · rename c ≠ 253 => hc9
    rw [leftA_of hc9] at hret
    refine Wait.out ?_
    (k_dflt (refine' left_comp [((42 : Int), (43 : Int)), (56, 57), (67, 68), (91, 102), (139, 166), (168, 171), (174, 191), (64512, 64519)] (ax := 44) (vs := [.ref 36, .ref 37, .ref 38, .ref 39, .ref 40, .ref 41, .ref 42, .ref 43]) ?F ?N ?hh ?a1 ?a2 ?a3 ?a4 ?a5 ?a6 ?a7 ?a8 ?a9 ?b1 ?b2 ?b3 ?b4 ?b5 ?b6 ?b7 ?_ ?hs; (case F => k_asm); (case N => k_asm); (case hh => exact rfl); (case a1 => exact rfl); (case a2 => decide); (case a3 => rfl); (case a4 => decide); (case a5 => rfl); (case a6 => rfl); (case a7 => decide); (case a8 => intro C; rfl); (case a9 => rfl); (case b1 => exact cell_at (by k_asm) (by k_mem) (by assumption)); (case b2 => decide); (case b3 => decide); (case b4 => intro Q' hq'; refine' nameX_K ?qF ?qX ?qT ?qe ?_ ?qa ?qb; (case qF => k_asm); (case qX => k_asm); (case qT => k_asm); (case qa => rfl); (case qb => rfl); (case qe => k_is); exact hq'); (case b5 => exact list_at (by k_asm) (by k_asm) (by rfl)); (case b6 => (repeat' (refine PairsAt.cons (pair_at (by k_asm) (by k_asm) (by rfl)) ?_)); exact PairsAt.nil); (case b7 => rw [sizeLine_eq]; exact Nat.le_of_ble_eq_true rfl); (case hs => intro _; rfl)); intro D' ys' h' tk' F' N' l1 hB')
    k_steps
    refine Wait.out ?_
    (k_dflt (refine' LSm.any_bools ?F ?N ?hh ?l ?b ?_; (case F => k_asm); (case N => k_asm); (case hh => with_unfolding_all rfl); (case b => assumption); (case l => exact News.isList (by k_asm) (by k_mem))); intro h' tk' F' N')
    k_steps
    exact tells_flat hret (by assumption) (by assumption) (.bool _) (by intro p hp; simp [hp])
end
section
theorem any_made (p : Int × Int → Bool) : ∀ l : List (Int × Int), (!decide ((l.filter p).map (·.1) = [])) = l.any p
  | [] => rfl
  | q :: l => by
    rw [List.filter_cons, List.any_cons]
    cases h : p q with
    | true => simp
    | false => simp only [Bool.false_eq_true, if_false, Bool.false_or]; exact any_made p l
set_option maxHeartbeats 1000000 in
theorem lawleft_tells (c : Int) (tk : Tok) : Tells 4 198 [.int c tk] (.bool (leftB c)) := by
  unfold Tells
  k_fill
  w_top off
  (have zz2 : Stop "newTuple" := trivial)
  (have zz0 : Stop "eval ListComp" := trivial)
  (have zz1 : Stop "compareOp NotEq ref ref" := trivial)
  intro w mean mg mb dp un gd cn cs a ccd cl outer A₀ base h₀ L m news s Q E B F X N T hk hdp hun hret
  refine wpAny_call ?_
  (refine' code_defC ?k1 ?k2 ?k3 ?k4 ?k5 ?kA ?kF ?kK ?k6 ?k7 ?k8 ?k9 ?kB ?kD ?_ ?c2 ?c3 ?c4; (case kA => exact rfl); (case kF => exact rfl); (case kK => assumption); (case k1 => k_asm); (case k2 => k_asm); (case k3 => k_asm); (case k4 => k_asm); (case k5 => k_asm); (case k6 => k_is); (case k7 => k_is); (case k8 => ktr_room); (case k9 => first | exact BindsTo.of_eq rfl | exact binds_K (by k_in) rfl (by k_is) rfl rfl rfl | fail "k_enter: no rule for these arguments"); (case kB => exact rfl); (case kD => decide +kernel); (case c2 => exact rfl); (case c3 => exact rfl); (case c4 => exact rfl); k_whole; intro g' L' h' tk' cells' FG' F' N' Y' B' X' T' l1; (try k_lt l1); k_cells Y'; (try simp only [List.cons_append, List.nil_append] at N'); (try dsimp only); (try k_lift B'); (try k_fold))
  (rename Fr _ _ _ _ => f0)
  (with_reducible refine foldQE ?_)
  intro q₀ r₀
  (with_reducible refine short f0 ?_)
  clear f0
  intro m₀ e₀ B₀ gs₀ dr₀ os₀ t₀ f0
  k_steps
  repeat
    refine Wait.out ?_
    (rename Fr _ _ _ _ => iF)
    (rename News _ _ _ _ => iN)
    (with_reducible refine kup_newTuple iF iN ?_ ?_)
    rotate_left
    kmk_size
    clear iF iN
    intro D' h' F' N' _
    (with_reducible refine reFN F' N' ?_)
    clear F' N'
    intro m' n' F' N'
    (try dsimp only)
    (try with_reducible refine tok_any ?_; intro t')
    k_steps
  refine Wait.out ?_
  (k_dflt (refine' lawleft_comp [((42 : Int), (2 : Int)), (56, 2), (67, 2), (91, 12), (139, 28), (168, 4), (174, 18), (64512, 8), (253, 1)] ?F ?N ?hh ?a1 ?a2 ?a3 ?a4 ?a5 ?a6 ?a7 ?a8 ?a9 ?b1 ?b2 ?b3 ?b4 ?b5 ?b6 ?b7 ?_ ?hs; (case F => k_asm); (case N => k_asm); (case hh => exact rfl); (case a1 => exact rfl); (case a2 => decide); (case a3 => rfl); (case a4 => decide); (case a5 => rfl); (case a6 => rfl); (case a7 => decide); (case a8 => intro C; rfl); (case a9 => rfl); (case b1 => exact cell_at (by k_asm) (by k_mem) (by assumption)); (case b2 => decide); (case b3 => decide); (case b4 => intro Q' hq'; refine' nameX_L ?qF ?qv ?_ ?qa ?qb; (case qF => k_asm); (case qa => rfl); (case qb => rfl); (case qv => rfl); exact hq'); (case b5 => exact News.isList (by k_asm) (by k_mem)); (case b6 => (repeat' (refine PairsAt.cons (News.isTup (by k_asm) (by k_mem)) ?_)); exact PairsAt.nil); (case b7 => rw [sizeLine_eq]; exact Nat.le_of_ble_eq_true rfl); (case hs => intro _; rfl)); intro D' ys' h' tk' F' N' l1 hB')
  k_steps
  refine Wait.out ?_
  (k_dflt (refine' ke_ne_ints ?a ?b ?i ?j ?u ?_; (case a => exact News.isList (by k_asm) (by k_mem)); (case b => exact News.isList (by k_asm) (by k_mem)); (case i => first | assumption | exact IntsAre.nil); (case j => first | exact IntsAre.nil | assumption); (case u => exact un64 hun)))
  k_steps
  exact tells_flat hret (by assumption) (by assumption) (by unfold leftB; rw [← any_made]; exact .bool _) (by intro p hp; (repeat refine List.Mem.tail _ ?_); exact hp)
end
section
theorem look_mem {α : Type} {c : Int} {x : α} : ∀ {l : List (Int × α)}, lookI c l = some x → (c, x) ∈ l
  | [], h => by cases h
  | (k, d) :: r, h => by
    have h' : (if k = c then some d else lookI c r) = some x := h
    by_cases e : k = c
    · rw [if_pos e] at h'
      cases h'
      subst e
      exact List.mem_cons_self
    · rw [if_neg e] at h'
      exact List.mem_cons_of_mem _ (look_mem h')
theorem tups3 {a b c : Addr × Obj} (h1 : isTupObj a.2) (h2 : isTupObj b.2) (h3 : isTupObj c.2) : ∀ p ∈ [a, b, c], isTupObj p.2 := fun p hp => by
  simp only [List.mem_cons, List.not_mem_nil, or_false] at hp
  rcases hp with rfl | rfl | rfl <;> assumption
theorem octs {o : Option Int} (h : o ∈ [some (1 : Int), some 2, some 4, some 8]) {b : Int} (e : o = some b) : b = 1 ∨ b = 2 ∨ b = 4 ∨ b = 8 := by
  subst e
  simpa using h
theorem loads3 {c : Int} {x : List Int} (h : loadsF c = some x) : ∃ a b d, x = [a, b, d] ∧ (b = 1 ∨ b = 2 ∨ b = 4 ∨ b = 8) := by
  have ha := List.all_eq_true.mp (by decide +kernel : (loadsL.all fun p => decide (p.2.length = 3 ∧ p.2[1]? ∈ [some (1 : Int), some 2, some 4, some 8])) = true) _ (look_mem h)
  rw [decide_eq_true_eq] at ha
  obtain ⟨a, b, d, rfl⟩ := three_of ha.1
  exact ⟨a, b, d, rfl, octs ha.2 rfl⟩
theorem stores2 {c : Int} {x : List Int} (h : storesF c = some x) : ∃ a b, x = [a, b] ∧ (b = 1 ∨ b = 2 ∨ b = 4 ∨ b = 8) := by
  have ha := List.all_eq_true.mp (by decide +kernel : (storesL.all fun p => decide (p.2.length = 2 ∧ p.2[1]? ∈ [some (1 : Int), some 2, some 4, some 8])) = true) _ (look_mem h)
  rw [decide_eq_true_eq] at ha
  obtain ⟨a, b, rfl⟩ := two_of ha.1
  exact ⟨a, b, rfl, octs ha.2 rfl⟩
section
set_option maxHeartbeats 4000000 in
theorem stack_tells (c : Int) (tk : Tok) : Tells 4 148 [.int c tk] (sD (stackF c)) := by
  unfold Tells
  k_fill
  w_top off
  (have zz0 : Stop "compareOp In int ref" := trivial)
  (have zz1 : Stop "subscriptTail" := trivial)
  (have zz2 : Stop "getItem ref int" := trivial)
  (have zz3 : Stop "call ref" := trivial)
  intro w mean mg mb dp un gd cn cs a ccd cl outer A₀ base h₀ L m news s Q E B F X N T hk hdp hun hret
  refine wpAny_call ?_
  (first | k_dflt cell_enter | fail "not entered")
  rename Fr h₀ L _ m => G
  (rename Fr _ _ _ _ => f0)
  (with_reducible refine short f0 ?_)
  clear f0
  intro m₀ e₀ B₀ gs₀ dr₀ os₀ t₀ f0
  k_steps
  refine Wait.out ?_
  refine opt_cases (fixedF c) (fun x hf => ?_) (fun hf => ?_)
  · have e : stackF c = some x := by rw [stackF, hf]
    refine ds_yes (fixed_dsup X) (hold_in G (by k_asm)) (map_some hf) ?_
    k_steps
    refine Wait.out ?_
    refine ds_sub (fixed_dsup X) (hold_in G (by k_asm)) (map_some hf) (fun v S => ?_)
    k_steps
    exact tells_flat hret (by assumption) (by assumption) (by rw [e]; exact S) (fun _ hp => hp)
  refine ds_no (fixed_dsup X) (hold_in G (by k_asm)) (map_none hf) ?_
  k_steps
  refine Wait.out ?_
  refine opt_cases (loadsF c) (fun x hl => ?_) (fun hl => ?_)
  · obtain ⟨x0, x1, x2, rfl, _⟩ := loads3 hl
    have e : stackF c = some ([-1], [x0]) := by simp [stackF, hf, hl]
    refine ds_yes (loads_dsup X) (hold_in G (by k_asm)) (map_some hl) ?_
    k_steps
    refine Wait.out ?_
    refine ds_sub (loads_dsup X) (hold_in G (by k_asm)) (map_some hl) (fun v S => ?_)
    obtain ⟨b, t1, t2, t3, rfl, hT⟩ := sup_ints3 S
    k_steps
    refine Wait.out ?_
    refine item_tupleT (hT _ (hold_in G (by k_asm))) (by decide) (by decide) rfl rfl ?_
    k_steps
    (rename News _ _ _ _ => kN)
    exact tells_led (tl := [_, _, _]) hret (by assumption) kN (fun _ hp => hp) (tups3 ⟨_, _, rfl, rfl⟩ ⟨_, _, rfl, rfl⟩ ⟨_, _, rfl, rfl⟩) (by rw [e]; exact sup_pair (.head _) rfl rfl (sup_ints (.tail _ (.tail _ (.head _))) (.cons _ _ .nil)) (sup_ints (.tail _ (.head _)) (.cons _ _ .nil)))
  refine ds_no (loads_dsup X) (hold_in G (by k_asm)) (map_none hl) ?_
  k_steps
  refine Wait.out ?_
  refine opt_cases (storesF c) (fun x hst => ?_) (fun hst => ?_)
  · obtain ⟨x0, x1, rfl, _⟩ := stores2 hst
    have e : stackF c = some ([-1, x0], []) := by simp [stackF, hf, hl, hst]
    refine ds_yes (stores_dsup X) (hold_in G (by k_asm)) (map_some hst) ?_
    k_steps
    refine Wait.out ?_
    refine ds_sub (stores_dsup X) (hold_in G (by k_asm)) (map_some hst) (fun v S => ?_)
    obtain ⟨b, t1, t2, rfl, hT⟩ := sup_ints2 S
    k_steps
    refine Wait.out ?_
    refine item_tupleT (hT _ (hold_in G (by k_asm))) (by decide) (by decide) rfl rfl ?_
    k_steps
    (rename News _ _ _ _ => kN)
    exact tells_led (tl := [_, _, _]) hret (by assumption) kN (fun _ hp => hp) (tups3 ⟨_, _, rfl, rfl⟩ ⟨_, _, rfl, rfl⟩ ⟨_, _, rfl, rfl⟩) (by rw [e]; exact sup_pair (.head _) rfl rfl (sup_ints (.tail _ (.tail _ (.head _))) (.cons _ _ (.cons _ _ .nil))) (sup_ints (.tail _ (.head _)) .nil))
  have e : stackF c = nk c := by simp [stackF, hf, hl, hst]
  refine ds_no (stores_dsup X) (hold_in G (by k_asm)) (map_none hst) ?_
  k_steps
  refine Wait.out ?_
  refine use_any (nk_tells _ _) (by k_asm) (by k_asm) (by k_asm) (by k_asm) (by k_asm) rfl (Nat.lt_of_succ_lt hdp) (un42 hun) (fun v9 tl9 h' tk' F' N' K9 S9 => ?_)
  k_steps
  exact tells_deep hret (by assumption) (by assumption) (fun p hp => List.mem_append_right _ hp) (by rw [e]; exact S9) (Has.at F' N' fun p hp => List.mem_append_left _ hp)
end
set_option maxHeartbeats 4000000 in
theorem blk_tells (c : Int) (tk : Tok) : Tells 4 162 [.int c tk] (.bool (isBlk c)) := by
  unfold Tells
  k_fill
  w_top off
  intro w mean mg mb dp un gd cn cs a ccd cl outer A₀ base h₀ L m news s Q E B F X N T hk hdp hun hret
  refine wpAny_call ?_
  (first | k_dflt cell_enter | fail "not entered")
  k_steps
  exact tells_flat hret (by assumption) (by assumption) (.bool _) (fun _ hp => .tail _ hp)
end
section
theorem oct_loads {c x0 x1 x2 : Int} (h : loadsF c = some [x0, x1, x2]) : octF c = some x1 := by simp [octF, h]
theorem oct_stores {c x0 x1 : Int} (h0 : loadsF c = none) (h : storesF c = some [x0, x1]) : octF c = some x1 := by simp [octF, h0, h]
theorem nat_of {c o n : Int} (h : octF c = some o) (hn : lookI o natL = some n) : natF c = n := by simp [natF, h, hn]
theorem made_sub {prog : Program} {w : World} {A : Around} {E : Value → Shared → Prop} {s : Shared} {h₀ : Heap} {L d : Addr} {o : Obj} {kvs : List (Int × Value)} {news : List (Addr × Obj)} {c : Int} {t : Tok} {v : Value} {Q : Value → Shared → Prop} {value slice : PySem.Expr}
    (N : News h₀ L s.heap news) (hm : (d, o) ∈ news) (hd : o.IsDictOf (intKind prog w) kvs) (hv : valueAt kvs c = some v) (h : Q v { s with toks := s.toks + 1 })
    (hsl : subscripted slice false (.ref d) (.int c t) = operate [.ref d, .int c t] (getItem (.ref d) (.int c t)) := by with_unfolding_all rfl) : wpAny (model prog w) A (subscriptTail value slice (.ref d) (.int c t)) Q E s := by
  have hD : s.heap.DictOf (intKind prog w) d kvs := Heap.dictOf_iff.mpr ⟨o, (N _ hm).1, hd⟩
  exact tail_any hD.typeIs slot_dict_getitem.lookup (wpAny_getItem_of (intKind_is prog w c t) hD.mapOf hv h) hsl
theorem nat_val {c b : Int} (ho : octF c = some b) (hx : b = 1 ∨ b = 2 ∨ b = 4 ∨ b = 8) (a1 t1 a2 t2 a3 t3 a4 t4 : Nat) : ∃ t, valueAt (intKeyPairs [(Value.int 1 a1, Value.int 0 t1), (.int 2 a2, .int 1 t2), (.int 4 a3, .int 2 t3), (.int 8 a4, .int 3 t4)]) b = some (.int (natF c) t) := by
  rcases hx with rfl | rfl | rfl | rfl
  all_goals (rw [nat_of ho rfl]; exact ⟨_, rfl⟩)
theorem made_nat {prog : Program} {w : World} {A : Around} {E : Value → Shared → Prop} {s : Shared} {h₀ : Heap} {L d : Addr} {o : Obj} {news : List (Addr × Obj)} {c b : Int} {t : Tok} {Q : Value → Shared → Prop} {value slice : PySem.Expr} {a1 t1 a2 t2 a3 t3 a4 t4 : Nat}
    (N : News h₀ L s.heap news) (hm : (d, o) ∈ news) (hd : o.IsDictOf (intKind prog w) (intKeyPairs [(Value.int 1 a1, Value.int 0 t1), (.int 2 a2, .int 1 t2), (.int 4 a3, .int 2 t3), (.int 8 a4, .int 3 t4)])) (ho : octF c = some b) (hx : b = 1 ∨ b = 2 ∨ b = 4 ∨ b = 8) (h : ∀ t n, Q (.int (natF c) t) { s with toks := n })
    (hsl : subscripted slice false (.ref d) (.int b t) = operate [.ref d, .int b t] (getItem (.ref d) (.int b t)) := by with_unfolding_all rfl) : wpAny (model prog w) A (subscriptTail value slice (.ref d) (.int b t)) Q E s := by
  obtain ⟨u, hu⟩ := nat_val ho hx a1 t1 a2 t2 a3 t3 a4 t4
  exact made_sub N hm hd hu (h _ _) hsl
section
set_option maxHeartbeats 4000000 in
theorem nat_tells (c : Int) (tk : Tok) (hc : (loadsF c).isSome = true ∨ (storesF c).isSome = true) : Tells 4 155 [.int c tk] (.int (natF c)) := by
  unfold Tells
  k_fill
  w_top off
  (have zz0 : Stop "compareOp In int ref" := trivial)
  (have zz1 : Stop "subscriptTail" := trivial)
  (have zz2 : Stop "getItem ref int" := trivial)
  intro w mean mg mb dp un gd cn cs a ccd cl outer A₀ base h₀ L m news s Q E B F X N T hk hdp hun hret
  refine wpAny_call ?_
  (first | k_dflt cell_enter | fail "not entered")
  rename Fr h₀ L _ m => G
  (rename Fr _ _ _ _ => f0)
  (with_reducible refine short f0 ?_)
  clear f0
  intro m₀ e₀ B₀ gs₀ dr₀ os₀ t₀ f0
  k_steps
  refine Wait.out ?_
  refine opt_cases (loadsF c) (fun x hl => ?_) (fun hl => ?_)
  · obtain ⟨x0, x1, x2, rfl, hx⟩ := loads3 hl
    refine ds_yes (loads_dsup X) (hold_in G (by k_asm)) (map_some hl) ?_
    k_steps
    refine Wait.out ?_
    refine ds_sub (loads_dsup X) (hold_in G (by k_asm)) (map_some hl) (fun v S => ?_)
    obtain ⟨b, t1, t2, t3, rfl, hT⟩ := sup_ints3 S
    k_steps
    refine Wait.out ?_
    refine item_tupleT (hT _ (hold_in G (by k_asm))) (by decide) (by decide) rfl rfl ?_
    k_steps
    refine Wait.out ?_
    (rename News _ _ _ _ => kN)
    (rename Obj.IsDictOf (intKind _ _) _ _ => kD)
    refine made_nat kN (List.Mem.head _) kD (oct_loads hl) hx (fun tv nv => ?_)
    k_steps
    exact tells_flat hret (by assumption) (by assumption) (.int _ _) (by intro p hp; simp [hp])
  refine opt_cases (storesF c) (fun x hst => ?_) (fun hst => by rw [hl, hst] at hc; simp at hc)
  obtain ⟨x0, x1, rfl, hx⟩ := stores2 hst
  refine ds_no (loads_dsup X) (hold_in G (by k_asm)) (map_none hl) ?_
  k_steps
  refine Wait.out ?_
  refine ds_sub (stores_dsup X) (hold_in G (by k_asm)) (map_some hst) (fun v S => ?_)
  obtain ⟨b, t1, t2, rfl, hT⟩ := sup_ints2 S
  k_steps
  refine Wait.out ?_
  refine item_tupleT (hT _ (hold_in G (by k_asm))) (by decide) (by decide) rfl rfl ?_
  k_steps
  refine Wait.out ?_
  (rename News _ _ _ _ => kN)
  (rename Obj.IsDictOf (intKind _ _) _ _ => kD)
  refine made_nat kN (List.Mem.head _) kD (oct_stores hl hst) hx (fun tv nv => ?_)
  k_steps
  exact tells_flat hret (by assumption) (by assumption) (.int _ _) (by intro p hp; simp [hp])
end
end
section
section
variable {prog : Program} {w : World} {A : Around} {E : Value → Shared → Prop} {s : Shared}
theorem near_test {cenv : Env} {p1 p2 p3 p4 p5 p6 p7 p8 p9 : Pos} {k1 k2 : Nat} {whole : Sem Value} {n : Int} {t : Tok} {ca sc : Addr} {m₃ mg mb : Str → Option Value} {ws : List Value} {ms : List Int} {g : Heap} {Q : Bool → Shared → Prop}
    (hk : cenv.scope.kind = .function) (hx : cenv.kindOf (Str.ofString "code") = some .local) (hc : cenv.kindOf (Str.ofString "script") = some .cell) (hs : cenv.kindOf (Str.ofString "sum") = some .globalImplicit)
    (hcl : cenv.cells.lookup (Str.ofString "script") = some ca) (F : Fr g cenv.locals s.heap m₃) (hm : m₃ (Str.ofString "code") = some (.int n t)) (hv : s.heap.IsCell ca (some (.ref sc))) (hl : s.heap.IsList sc (List.toArray ws)) (hi : IntsAre ws ms)
    (hg : s.heap.Ns cenv.globals mg) (hg0 : mg (Str.ofString "sum") = none) (hb : s.heap.Ns cenv.builtins mb) (hb0 : mb (Str.ofString "sum") = some (.builtin "sum")) (hh : A.handled = none)
    (h : ∀ h' tk', (∀ b o, g.get? b = some o → h'.get? b = some o) → (∀ b o, s.heap.get? b = some o → h'.get? b = some o) → Q (decide (Int.fmod n 4 = Int.fmod ms.sum 4)) { s with heap := h', toks := tk' }) :
    wpAny (model prog w) A (isTrue (.Compare (.BinOp (.Name (Str.ofString "code") p1) .Mod (.Constant (.int 4) k1 p2) p3) [.Eq] [.BinOp (.Call (.Name (Str.ofString "sum") p4) [.Name (Str.ofString "script") p5] [] p6) .Mod (.Constant (.int 4) k2 p7) p8] p9) cenv whole) Q E s := by
  refine wpAny_isTrue_Compare1 (wpAny_BinOp (wpAny_Name (wpAny_loadName_local hk hx F.ns hm (wpAny_Constant_int (mod_int (by decide) ?_)))))
  refine wpAny_BinOp (Call_ (Name_function_global hk hs (loadGlobal_builtin hg hg0 hb hb0 ?_)))
  refine callWith_builtin1 (spliced_more (wpAny_Name (wpAny_loadName_cell hk hc hcl hv ?_)))
  refine spliced_none ?_
  obtain ⟨xs, hxs⟩ := hi.allInts.items
  have hl' : s.heap.IsList sc (intItems xs) := hxs ▸ hl
  refine sum_intListG hh hl' fun h' tk t' hk' => ?_
  have e1 : ms = xs.toList.map (·.1) := by
    rw [← nums_intItems, ← hxs]
    exact (show numsOf (List.toArray ws).toList = ms from hi.numsOf).symm
  have e2 : preSum (numAt xs) xs.size = ms.sum := by
    rw [preSum_eq, List.take_of_length_le (by simp), e1]
  rw [e2]
  refine wpAny_Constant_int (mod_int (by decide) (eq_int (wpAny_truthy_bool ?_)))
  have e3 : (Int.fmod n 4 == Int.fmod ms.sum 4) = decide (Int.fmod n 4 = Int.fmod ms.sum 4) := by
    by_cases q : Int.fmod n 4 = Int.fmod ms.sum 4
    · rw [q]; simp
    · rw [decide_eq_false q]; exact beq_eq_false_iff_ne.mpr q
  rw [e3]
  exact h _ _ (fun b o e => hk' b o (F.keep b o e)) hk'
theorem ints_of_all : ∀ {l : List Value}, (∀ v ∈ l, ∃ n t, v = .int n t) → ∃ ns, IntsAre l ns
  | [], _ => ⟨[], .nil⟩
  | v :: l, h => by
    obtain ⟨n, t, rfl⟩ := h v (.head _)
    obtain ⟨ns, hn⟩ := ints_of_all (l := l) fun u hu => h u (.tail _ hu)
    exact ⟨n :: ns, .cons n t hn⟩
theorem paired_same : ∀ {l ys : List Value}, Paired (fun v z => z = v) l ys → ys = l
  | _, _, .nil => rfl
  | _, _, .cons h t => by rw [h, paired_same t]
/-- the source of the law's near, and what is behind it -/
def NearSrc (A : Around) (h₀ : Heap) (L : Addr) (m : Str → Option Value) (y : Str) (Q : Flow → Shared → Prop) (ca sc : Addr) (ws : List Value) (ms : List Int) (xv : Value) (s₁ : Shared) : Prop :=
  ∃ ax vs ns news mg mb, xv = .ref ax ∧ A.handled = none ∧ s₁.heap.IsList ax (List.toArray vs) ∧ IntsAre vs ns ∧ vs.length ≤ sizeLine ∧ Fr h₀ L s₁.heap m ∧ News h₀ L s₁.heap news ∧
    s₁.heap.IsCell ca (some (.ref sc)) ∧ s₁.heap.IsList sc (List.toArray ws) ∧ s₁.heap.Ns mainGlobals mg ∧ mg (Str.ofString "sum") = none ∧ s₁.heap.Ns builtinsNs mb ∧ mb (Str.ofString "sum") = some (.builtin "sum") ∧
    ∀ D ys nn ns' h' tk', Fr h₀ L h' (fun z => if z = y then some (.ref D) else m z) → News h₀ L h' ((D, { cls := .type "list", data := .seq (List.toArray ys) nn }) :: news) → IntsAre ys ns' → ys.length ≤ vs.length → Q .next { s₁ with heap := h', toks := tk' }
theorem near_comp {env : Env} {iter : Expr} {y : Str} {px py pe p1 p2 p3 p4 p5 p6 p7 p8 p9 pos spos : Pos} {k1 k2 : Nat} {scope : Scope} {cl : List (Str × Addr)} {h₀ : Heap} {ca : Addr} {m : Str → Option Value} {Q : Flow → Shared → Prop} {sc : Addr} {ws : List Value} {ms : List Int} (_hF : Fr h₀ env.locals s.heap m) (_hb : h₀.IsList sc (List.toArray ws)) (hsi : IntsAre ws ms)
    (hsw : swapsWith (.ListComp (.Name (Str.ofString "code") pe) [⟨.Name (Str.ofString "code") px, iter, [.Compare (.BinOp (.Name (Str.ofString "code") p1) .Mod (.Constant (.int 4) k1 p2) p3) [.Eq] [.BinOp (.Call (.Name (Str.ofString "sum") p4) [.Name (Str.ofString "script") p5] [] p6) .Mod (.Constant (.int 4) k2 p7) p8] p9], 0⟩] scope pos) (some (.Name y py)) spos.line env = pure true)
    (hclos : closureFor scope env = pure cl) (hcell : ∀ z ∈ scope.names, z.2 ≠ .cell) (hkind : scope.kind = .function)
    (hnames : ∀ z ∈ scope.names, z.2 = .local → scope.names.lookup z.1 = some .local) (hx : scope.names.lookup (Str.ofString "code") = some .local)
    (hy : env.kindOf y = some .local) (hp : (env.scope.kind == .class || (env.scope.kind == .module && env.locals != env.globals)) = false)
    (hc : ∀ C, (compEnvC scope cl C env).kindOf (Str.ofString "script") = some .cell) (hsm : ∀ C, (compEnvC scope cl C env).kindOf (Str.ofString "sum") = some .globalImplicit) (hcl : cl.lookup (Str.ofString "script") = some ca)
    (hglob : env.globals = mainGlobals) (hbui : env.builtins = builtinsNs)
    (hi : wpAny (model prog w) A (eval iter env) (NearSrc A h₀ env.locals m y Q ca sc ws ms) E s)
    (hs : ∀ x, foldedSetIterable iter env x = pure x := by intro _; rfl) :
    wpAny (model prog w) A (exec (.Assign [.Name y py] (.ListComp (.Name (Str.ofString "code") pe) [⟨.Name (Str.ofString "code") px, iter, [.Compare (.BinOp (.Name (Str.ofString "code") p1) .Mod (.Constant (.int 4) k1 p2) p3) [.Eq] [.BinOp (.Call (.Name (Str.ofString "sum") p4) [.Name (Str.ofString "script") p5] [] p6) .Mod (.Constant (.int 4) k2 p7) p8] p9], 0⟩] scope pos) spos) env) Q E s := by
  refine wpAny_Assign_ListComp_free (fun v => match v with | .int n _ => decide (Int.fmod n 4 = Int.fmod ms.sum 4) | _ => false) (fun v z => z = v) hsw hclos hcell hkind hnames hx hy hp (wpAny_mono hi (fun xv s₁ h₁ => ?_) fun _ _ e => e) hs
  obtain ⟨ax, vs, ns, news, mg, mb, rfl, hh, hl, hns, hsz, F, N, hcv, hsl, hmg, hg0, hmb, hb0, fin⟩ := h₁
  refine wpAny_pyIter_list hl ?_
  have up : ∀ b o, s₁.heap.get? b = some o → (s₁.heap.push { cls := .type "list_iterator", data := .fields #[.ref ax, .int 0 0] }).get? b = some o := fun b o e => Heap.get?_push_of_some _ e
  have hlt : ax < s₁.heap.objs.size := by obtain ⟨_, e, _⟩ := hl; exact Heap.lt_size e
  have W := Walks.list (prog := prog) (w := w) (A := A) hh s₁.heap.objs.size ax (Nat.ne_of_lt hlt) (List.toArray vs)
  have hn : (List.toArray vs).size = vs.length := by simp
  rw [hn] at W
  have nI : ∀ b o, s₁.heap.get? b = some o → b ∉ [s₁.heap.objs.size] := fun b o e hm => by
    rw [List.mem_singleton.mp hm] at e
    exact Nat.lt_irrefl _ (Heap.lt_size e)
  have hLI : env.locals ≠ s₁.heap.objs.size := Nat.ne_of_lt F.ns.lt
  refine ⟨s₁.heap.objs.size, _, _, vs.length, _, _, m, rfl, W, hsz, ⟨⟨_, Heap.get?_push_size _ rfl, rfl, rfl⟩, hl.push _⟩, ?_, ?_, (F.keeps up).ns, ⟨?_, ?_⟩, ?_⟩
  · intro b hb
    show b < (s₁.heap.push _).objs.size
    rw [Heap.size_push]
    rcases List.mem_cons.mp hb with rfl | hb
    · exact Nat.lt_succ_self _
    · rw [List.mem_singleton.mp hb]; exact Nat.lt_succ_of_lt hlt
  · intro hm; exact hLI (List.mem_singleton.mp hm)
  · intro C i v s₃ m₃ E' hC hP hnsC hm hk _
    have hv : vs[i]? = some v := by simpa using hP
    obtain ⟨n, t, rfl⟩ : ∃ n t, v = .int n t := by
      have hlen : i < ns.length := by rw [← hns.length]; exact (List.getElem?_eq_some_iff.mp hv).1
      obtain ⟨t, ht⟩ := hns.get i ns[i] (by simp [hlen])
      exact ⟨_, t, Option.some.inj (hv.symm.trans ht)⟩
    have k3 : ∀ b o, s₁.heap.get? b = some o → s₃.heap.get? b = some o := fun b o e => hk b o (nI b o e) (up b o e)
    have hC' : s₁.heap.objs.size ≤ C := by rw [show (s₁.heap.push { cls := .type "list_iterator", data := .fields #[.ref ax, .int 0 0] }).objs.size = s₁.heap.objs.size + 1 from Heap.size_push ..] at hC; exact Nat.le_of_succ_le hC
    have F₃ : Fr s₁.heap (compEnvC scope cl C env).locals s₃.heap m₃ := ⟨hnsC, k3, hC'⟩
    refine wpAny_tests_one (near_test (by simp [compEnvC, relabel, hkind]) (lookup_relabel_local hx) (hc C) (hsm C) hcl F₃ hm (hcv.keeps k3) (hsl.at fun o e => k3 _ o e) hsi (by show s₃.heap.Ns env.globals mg; rw [hglob]; exact hmg.keeps k3) hg0 (by show s₃.heap.Ns env.builtins mb; rw [hbui]; exact hmb.keeps k3) hb0 hh fun h' tk' _ hk' => ⟨rfl, h', tk', rfl, hk'⟩)
  · intro C i v s₃ m₃ E' hC hP _ hnsC hm hk _
    exact wpAny_Name (wpAny_loadName_local (by simp [compEnvC, relabel, hkind]) (lookup_relabel_local hx) hnsC hm ⟨rfl, s₃.heap, s₃.toks, rfl, fun _ _ e => e⟩)
  · intro D h' tk ys vs' hD hlD hplD hlen hP hPr hnsL hk
    have k3 : ∀ b o, b ≠ env.locals → s₁.heap.get? b = some o → h'.get? b = some o := fun b o hb e => hk b o hb (nI b o e) (up b o e)
    have hL₀ : h₀.get? env.locals = none := Heap.get?_none_of_le F.above
    have F' : Fr h₀ env.locals h' (fun z => if z = y then some (.ref D) else m z) := ⟨hnsL, fun b o e => k3 b o (fun q => by rw [q, hL₀] at e; cases e) (F.keep b o e), F.above⟩
    have hys := paired_same hPr
    have hall : ∀ u ∈ ys.toList, ∃ n t, u = .int n t := fun u hu => by
      rw [hys] at hu
      obtain ⟨j, hj⟩ := List.mem_iff_getElem?.mp (List.mem_filter.mp hu).1
      have hv : vs[j]? = some u := by simpa using hP j u hj
      have hl' : j < ns.length := by rw [← hns.length]; exact (List.getElem?_eq_some_iff.mp hv).1
      obtain ⟨t, ht⟩ := hns.get j ns[j] (by simp [hl'])
      exact ⟨_, t, Option.some.inj (hv.symm.trans ht)⟩
    obtain ⟨ns', hns'⟩ := ints_of_all hall
    obtain ⟨nn, hobj⟩ := hplD
    have hDs : s₁.heap.get? D = none := by
      cases e : s₁.heap.get? D with
      | none => rfl
      | some o => rw [up _ _ e] at hD; cases hD
    have hDn : s₁.heap.objs.size ≤ D ∨ D < s₁.heap.objs.size := Nat.lt_or_ge D _ |>.symm.imp id id
    refine fin D ys.toList nn ns' h' tk F' (fun p hp => ?_) hns' ?_
    · rcases List.mem_cons.mp hp with rfl | hp
      · refine ⟨by simpa using hobj, ?_, ?_⟩
        · rintro rfl
          obtain ⟨o, _, _, ho, _⟩ := F.ns
          rw [hDs] at ho; cases ho
        · cases e : h₀.get? D with
          | none => rfl
          | some o => rw [F.keep _ _ e] at hDs; cases hDs
      · exact ⟨k3 _ _ (N p hp).2.1 (N p hp).1, (N p hp).2⟩
    · rw [hys, ← hlen]
      exact List.length_filter_le _ _
theorem near_src {h₀ : Heap} {L : Addr} {m : Str → Option Value} {y : Str} {Q : Flow → Shared → Prop} {ca sc ax : Addr} {ws vs : List Value} {ms ns : List Int} {s₁ : Shared} {news : List (Addr × Obj)} {n : Nat} {o : Obj} {mg mb : Str → Option Value} (hh : A.handled = none) (F : Fr h₀ L s₁.heap m) (N : News h₀ L s₁.heap news) (hm : (ax, { cls := .type "list", data := .seq vs.toArray n }) ∈ news) (hi : IntsAre vs ns) (hsz : vs.length ≤ sizeLine) (hc : (ca, o) ∈ news) (hd : o.data = .cell (some (.ref sc)))
    (hl : h₀.IsList sc ws.toArray) (Tg : h₀.Ns mainGlobals mg) (hg0 : mg (Str.ofString "sum") = none) (Tb : h₀.Ns builtinsNs mb) (hb0 : mb (Str.ofString "sum") = some (.builtin "sum"))
    (fin : ∀ D ys nn ns' h' tk', Fr h₀ L h' (fun z => if z = y then some (.ref D) else m z) → News h₀ L h' ((D, { cls := .type "list", data := .seq (List.toArray ys) nn }) :: news) → IntsAre ys ns' → ys.length ≤ vs.length → Q .next { s₁ with heap := h', toks := tk' }) : NearSrc A h₀ L m y Q ca sc ws ms (.ref ax) s₁ :=
  ⟨ax, vs, ns, news, mg, mb, rfl, hh, N.isList hm, hi, hsz, F, N, ⟨o, (N _ hc).1, hd⟩, hl.at fun x e => F.keep _ x e, Tg.keeps F.keep, hg0, Tb.keeps F.keep, hb0, fin⟩
end
end
section
theorem add_near {prog : Program} {w : World} {A : Around} {E : Value → Shared → Prop} {s : Shared} {h₀ : Heap} {L l b : Addr} {m : Str → Option Value} {news : List (Addr × Obj)} {vs ws : List Value} {ns ms : List Int} {n n' : Nat} {Q : Value → Shared → Prop} (F : Fr h₀ L s.heap m) (N : News h₀ L s.heap news)
    (hl : (l, { cls := .type "list", data := .seq vs.toArray n }) ∈ news) (hb : (b, { cls := .type "list", data := .seq ws.toArray n' }) ∈ news) (hi : IntsAre vs ns) (hj : IntsAre ws (List.take 10 ms)) (hB : vs.length ≤ 276)
    (h : ∀ h' us ks, Fr h₀ L h' m → News h₀ L h' ((s.heap.objs.size, listOf (List.toArray us) 0) :: news) → IntsAre us ks → us.length ≤ sizeLine → Q (.ref s.heap.objs.size) { s with heap := h' }) :
    wpAny (model prog w) A (binaryOp .Add (.ref l) (.ref b)) Q E s := by
  have hz : vs.length + ws.length ≤ 286 := by
    have := hj.length
    have h2 := List.length_take_le 10 ms
    omega
  refine add_lists_ints (hsz := ?_) F N (N.isList hl) (N.isList hb) hi hj fun h' F' N' hu => h h' _ _ F' N' hu ?_
  · rw [List.length_append, sizeLine_eq]
    exact Nat.le_trans hz (Nat.le_of_ble_eq_true rfl)
  · rw [← hi.length, ← hj.length, sizeLine_eq]
    exact Nat.le_trans hz (Nat.le_of_ble_eq_true rfl)
end
section
/-- a dict as it stands behind the first j entries of a table -/
structure TFacts (w : World) (h₀ : Heap) (tab : List (Int × PyData)) (o : Obj) (kvs : List (Int × Value)) (tups : List (Addr × Obj)) (j : Nat) : Prop where
  tup : ∀ p ∈ tups, isTupObj p.2
  dict : o.IsDictOf (intKind prg w) kvs
  len : kvs.length ≤ j
  old : ∀ c, OptSup h₀ tups (valueAt kvs c) (lookI c (tab.take j))
noncomputable def TI (S : List Str) (w : World) (h₀ : Heap) (tab : List (Int × PyData)) (M : Str → Option Value) (fl : List (Addr × Obj)) (d : Addr) (base : List (Addr × Obj)) (j : Nat) (m₁ : Str → Option Value) (n₁ : List (Addr × Obj)) : Prop :=
  ∃ (u : Str → Option Value) (o : Obj) (kvs : List (Int × Value)) (tups : List (Addr × Obj)), m₁ = (fun y => if S.contains y then u y else M y) ∧ n₁ = fl ++ (d, o) :: (tups ++ base) ∧ TFacts w h₀ tab o kvs tups j
section
variable {w : World} {h₀ : Heap} {tab : List (Int × PyData)} {o o' : Obj} {kvs : List (Int × Value)} {tups tl base : List (Addr × Obj)} {j : Nat} {k : Int} {r : PyData} {v : Value} {d : Addr} {M : Str → Option Value}
theorem TFacts.zero (hd : o.IsDictOf (intKind prg w) []) : TFacts w h₀ tab o [] [] 0 := ⟨(fun _ hp => nomatch hp), hd, Nat.le_refl _, fun _ => trivial⟩
theorem TFacts.next (x : TFacts w h₀ tab o kvs tups j) (nd : (tab.map (·.1)).Nodup) (e : tab[j]? = some (k, r)) (S : Sup h₀ tl v r) (ht : ∀ p ∈ tl, isTupObj p.2)
    (hd : o'.IsDictOf (intKind prg w) (stored kvs k v)) : TFacts w h₀ tab o' (stored kvs k v) (tl ++ tups) (j + 1) where
  tup := fun p hp => (List.mem_append.mp hp).elim (ht p) (x.tup p)
  dict := hd
  len := Nat.le_trans (stored_length_le _ _ _) (Nat.succ_le_succ x.len)
  old := by
    rw [take_next e]
    exact opt_next (lookI_fresh nd e) (fun c => x.old c) (S.mono fun p hp => List.mem_append_left _ hp) fun p hp => List.mem_append_right _ hp
theorem TFacts.dsup (x : TFacts w h₀ tab o kvs tups j) (hj : tab.length ≤ j) (hlo : (d == sysModules) = false) : DSup prg w h₀ ((d, o) :: tups) d fun c => lookI c tab := by
  refine ⟨hlo, o, kvs, .inr (.head _), x.dict, fun c => ?_⟩
  have := (x.old c).mono (led' := (d, o) :: tups) fun p hp => .tail _ hp
  rw [List.take_of_length_le hj] at this
  exact this
theorem TI.start (S : List Str) (fl : List (Addr × Obj)) (x : TFacts w h₀ tab o kvs tups j) : TI S w h₀ tab M fl d base j M (fl ++ (d, o) :: (tups ++ base)) :=
  ⟨M, o, kvs, tups, any_map, rfl, x⟩
end
theorem dict_cls {w : World} {o : Obj} {kvs : List (Int × Value)} (h : o.IsDictOf (intKind prg w) kvs) : o.cls = .type "dict" := by
  obtain ⟨es, ep, ⟨hc, _, _⟩, _⟩ := h
  exact hc
theorem tup_cls {o : Obj} (h : isTupObj o) : o.cls = .type "tuple" := by
  obtain ⟨_, _, hc, _⟩ := h
  exact hc
section
variable {w : World} {A : Around} {E : Value → Shared → Prop} {s : Shared} {g h₀ : Heap} {tab : List (Int × PyData)} {env : Env} {target : Expr} {body : List Stmt} {Q : Flow → Shared → Prop} {I l d : Addr} {lo : Obj} {fl base : List (Addr × Obj)} {M : Str → Option Value} {S : List Str}
theorem tab_enum {vs : List Value} (j : Nat) {m : Str → Option Value} {n : List (Addr × Obj)} (start : TI S w h₀ tab M fl d base j m n) (hk : (l, lo) ∈ fl)
    (turn : ∀ (i : Nat) (x : Value), vs[i]? = some x → ∀ (u : Str → Option Value) (o : Obj) (kvs : List (Int × Value)) (tups : List (Addr × Obj)), TFacts w h₀ tab o kvs tups (j + i) →
      ∀ T t h tk oe oi, IsTup h T #[.int (i : Int) t, x] → Fr g env.locals h (fun y => if S.contains y then u y else M y) → oe.cls = .type "enumerate" → oi.cls = .type "list_iterator" → News g env.locals h ((I + 1, oe) :: (I, oi) :: (fl ++ (d, o) :: (tups ++ base))) →
      ∀ P : Flow → Shared → Prop, (∀ s₂, UnrEndW g env.locals { s with heap := h, toks := tk } [(I + 1, oe), (I, oi)] (fun m' n' => TI S w h₀ tab M fl d base (j + (i + 1)) m' n') s₂ → P .next s₂) →
      wpAny (model prg w) A (assign target env (.ref T)) (fun _ s₂ => wpAny (model prg w) A (execs body env) P E s₂) E { s with heap := h, toks := tk })
    (done : ∀ (u : Str → Option Value) (o : Obj) (kvs : List (Int × Value)) (tups : List (Addr × Obj)) (h : Heap) (tk : Nat), TFacts w h₀ tab o kvs tups (j + vs.length) →
      Fr g env.locals h (fun y => if S.contains y then u y else M y) → News g env.locals h (fl ++ (d, o) :: (tups ++ base)) → Q .next { s with heap := h, toks := tk }) :
    ItemsRest prg w A E g env target body Q s [(I + 1, "enumerate"), (I, "list_iterator")] [(l, lo)] (enumItems 0 vs) m n :=
  enum_ind (fun i => TI S w h₀ tab M fl d base (j + i)) (fun i m n ⟨_, _, _, _, _, e, _⟩ => by subst e; exact ⟨List.mem_append_left _ hk, trivial⟩)
    (fun i x hx m₁ n₁ ⟨u, o, kvs, tups, e1, e2, a⟩ T t h tk oe oi hT F ce ci N => by subst e1 e2; exact turn i x hx u o kvs tups a T t h tk oe oi hT F ce ci N _ fun _ y => y)
    (fun m₁ n₁ h tk ⟨u, o, kvs, tups, e1, e2, a⟩ F N => by subst e1 e2; exact done u o kvs tups h tk a F N) vs 0 m n rfl (Nat.zero_le _) start
/-- the end of an inner turn -/
theorem tab_end {L : Addr} {o' oe oi : Obj} {s₁ : Shared} {h' : Heap} {tk : Nat} {m' : Str → Option Value} {tups tl : List (Addr × Obj)} {kvs : List (Int × Value)} {j : Nat} (fl : List (Addr × Obj)) (ce : oe.cls = .type "enumerate") (ci : oi.cls = .type "list_iterator") (F : Fr g L h' m')
    (N : News g L h' (tl ++ (I + 1, oe) :: (I, oi) :: (fl ++ (d, o') :: (tups ++ base)))) (x : TFacts w h₀ tab o' kvs (tl ++ tups) j)
    (hfl : ∀ p ∈ fl, p.1 < I) (hb : ∀ p ∈ base, p.1 < I) (hm : ∀ y, S.contains y = false → m' y = M y) :
    UnrEndW g L s₁ [(I + 1, oe), (I, oi)] (fun m' n' => TI S w h₀ tab M fl d base j m' n') { s₁ with heap := h', toks := tk } := by
  refine enum_end ce ci F N (fl ++ (d, o') :: ((tl ++ tups) ++ base)) (fun p hp => ?_) (fun p hp => ?_) ⟨m', o', kvs, tl ++ tups, ti_map hm, rfl, x⟩
  · simp only [List.mem_append, List.mem_cons] at hp ⊢
    rcases hp with hp | hp | hp | hp | (hp | hp) | hp
    · exact .inr (.inl hp)
    · exact .inr (.inr (.inl hp))
    · exact .inr (.inr (.inr (.inl hp)))
    · exact .inr (.inr (.inr (.inr (.inl hp))))
    · exact .inl hp
    · exact .inr (.inr (.inr (.inr (.inr (.inl hp)))))
    · exact .inr (.inr (.inr (.inr (.inr (.inr hp)))))
  · rcases List.mem_append.mp hp with hp | hp
    · exact .inl (hfl p hp)
    rcases List.mem_cons.mp hp with rfl | hp
    · exact .inr (dict_not x.dict)
    rcases List.mem_append.mp hp with hp | hp
    · exact .inr (tup_not (x.tup p hp))
    · exact .inl (hb p hp)
end
section
variable {w : World} {A : Around} {E : Value → Shared → Prop} {s : Shared} {g h₀ : Heap} {tab : List (Int × PyData)} {L I d : Addr} {m : Str → Option Value} {o oe oi : Obj} {kvs : List (Int × Value)} {k : Int} {tk : Tok} {v : Value} {tl tups base : List (Addr × Obj)}
theorem tab_set {Q : Unit → Shared → Prop} {j : Nat} (fl : List (Addr × Obj)) (F : Fr g L s.heap m) (N : News g L s.heap (tl ++ (I + 1, oe) :: (I, oi) :: (fl ++ (d, o) :: (tups ++ base)))) (x : TFacts w h₀ tab o kvs tups j) (htl : ∀ p ∈ tl, isTupObj p.2) (ce : oe.cls = .type "enumerate") (ci : oi.cls = .type "list_iterator")
    (hfl : ∀ p ∈ fl, p.2.cls ≠ .type "dict") (hb : ∀ p ∈ base, p.1 ≠ d) (hsz : j ≤ sizeLine)
    (h : ∀ h' o', Fr g L h' m → News g L h' (tl ++ (I + 1, oe) :: (I, oi) :: (fl ++ (d, o') :: (tups ++ base))) → o'.IsDictOf (intKind prg w) (stored kvs k v) → Q () { s with heap := h', toks := s.toks + 1 }) : wpAny (model prg w) A (setItem (.ref d) (.int k tk) v) Q E s := by
  have hin : (d, o) ∈ tl ++ (I + 1, oe) :: (I, oi) :: (fl ++ (d, o) :: (tups ++ base)) := List.mem_append_right _ (.tail _ (.tail _ (List.mem_append_right _ (.head _))))
  have hm := N (d, o) hin
  have hdc := dict_cls x.dict
  have off : ∀ p, p ∈ tl ++ (I + 1, oe) :: (I, oi) :: (fl ++ (d, o) :: (tups ++ base)) → p.2.cls ≠ .type "dict" → p.1 ≠ d := fun p hp hc e => by
    have h1 := (N p hp).1
    rw [e] at h1
    have h2 : o = p.2 := Option.some.inj (hm.1.symm.trans h1)
    exact hc (h2 ▸ hdc)
  have tupd : ∀ o : Obj, isTupObj o → o.cls ≠ .type "dict" := fun o h => by rw [tup_cls h]; decide
  have e : ∀ o : Obj, tl ++ (I + 1, oe) :: (I, oi) :: (fl ++ (d, o) :: (tups ++ base)) = (tl ++ (I + 1, oe) :: (I, oi) :: fl) ++ (d, o) :: (tups ++ base) := fun o => by simp
  refine wpAny_setItem_pairs (hsz := Nat.le_trans x.len hsz) (intKind_is _ _ _ _) (Heap.dictOf_iff.mpr ⟨o, hm.1, x.dict⟩) fun h' hmm hs => ?_
  obtain ⟨o', ho', hd'⟩ := Heap.dictOf_iff.mp hmm
  refine h h' o' (F.change hs hm.2.1 hm.2.2) ?_ hd'
  rw [e] at N ⊢
  refine N.setIn (fun p hp => ?_) (fun p hp => ?_) hs ho'
  · rcases List.mem_append.mp hp with hp' | hp'
    · exact off p (List.mem_append_left _ hp') (tupd _ (htl p hp'))
    rcases List.mem_cons.mp hp' with rfl | hp'
    · exact off _ (List.mem_append_right _ (.head _)) (by rw [ce]; decide)
    rcases List.mem_cons.mp hp' with rfl | hp'
    · exact off _ (List.mem_append_right _ (.tail _ (.head _))) (by rw [ci]; decide)
    exact off p (List.mem_append_right _ (.tail _ (.tail _ (List.mem_append_left _ hp')))) (hfl p hp')
  · rcases List.mem_append.mp hp with hp' | hp'
    · exact off p (List.mem_append_right _ (.tail _ (.tail _ (List.mem_append_right _ (.tail _ (List.mem_append_left _ hp')))))) (tupd _ (x.tup p hp'))
    · exact hb p hp'
end
end
section
noncomputable def accP : List (Int × PyData) := accL.map fun p => (p.1, intsD p.2)
noncomputable def accD (c : Int) : Option PyData := (accF c).map intsD
theorem accP_nodup : (accP.map (·.1)).Nodup := by decide +kernel
theorem accP_look (c : Int) : lookI c accP = accD c := lookI_map intsD c accL
theorem newInts {M : Model} {A : Around} {E : Value → Shared → Prop} {s : Shared} {g : Heap} {L : Addr} {m : Str → Option Value} {news : List (Addr × Obj)} {vs : List Value} {Q : Value → Shared → Prop} (ns : List Int) (hi : IntsAre vs ns) (hsz : ns.length ≤ sizeLine) (F : Fr g L s.heap m) (N : News g L s.heap news)
    (h : ∀ vs' l h', IntsAre vs' ns → Fr g L h' m → News g L h' ((l, listOf vs'.toArray 0) :: news) → (∀ p ∈ news, p.1 < l) → Q (.ref l) { s with heap := h' }) : wpAny M A (newList vs) Q E s :=
  newList_K F N (fun l h' F' N' l1 => h vs l h' hi F' N' l1) (by rw [hi.length]; exact hsz)
theorem list_sub {prog : Program} {w : World} {A : Around} {E : Value → Shared → Prop} {s : Shared} {l : Addr} {vs : List Value} {k : Int} {u : Tok} {x : Value} {Q : Value → Shared → Prop} {value slice : PySem.Expr} (hl : s.heap.IsList l vs.toArray) (h0 : 0 ≤ k) (hk : k < 2 ^ 63) (hx : vs[k.toNat]? = some x) (h : Q x s)
    (hsl : subscripted slice false (.ref l) (.int k u) = operate [.ref l, .int k u] (getItem (.ref l) (.int k u)) := by with_unfolding_all rfl) : wpAny (model prog w) A (subscriptTail value slice (.ref l) (.int k u)) Q E s :=
  tail_any hl.typeIs slot_list_getitem.lookup (wpAny_getItem_list hl h0 hk (by simpa using hx) h) hsl
theorem drop_two {g h : Heap} {L : Addr} {a b c : Addr × Obj} {r : List (Addr × Obj)} (N : News g L h (a :: b :: c :: r)) : News g L h ([a] ++ r) := fun p hp => N p (by
  rcases List.mem_cons.mp hp with rfl | hp
  · exact .head _
  · exact .tail _ (.tail _ (.tail _ hp)))
theorem small12 : ([4, 8, 1, 1, 2, 2, 1, 1, 2, 2, 4, 4] : List Int).length ≤ sizeLine := by rw [sizeLine_eq]; exact Nat.le_of_ble_eq_true rfl
theorem small7 : ([4, 8, 1, 2, 1, 2, 4] : List Int).length ≤ sizeLine := by rw [sizeLine_eq]; exact Nat.le_of_ble_eq_true rfl
theorem small2 {a b : Int} : [a, b].length ≤ sizeLine := by rw [sizeLine_eq]; exact Nat.le_of_ble_eq_true rfl
theorem ints_get : ∀ {vs : List Value} {ns : List Int}, IntsAre vs ns → ∀ {i : Nat}, i < ns.length → ∃ o t, vs[i]? = some (.int o t) ∧ ns[i]? = some o
  | _, _, .nil, _, h => nomatch h
  | _, _, .cons o t _, 0, _ => ⟨o, t, rfl, rfl⟩
  | _, _, .cons _ _ r, _ + 1, h => ints_get r (Nat.lt_of_succ_lt_succ h)
noncomputable def codes1 : List Int := [40, 41] ++ [44, 45, 46, 47, 48, 49, 50, 51, 52, 53]
noncomputable def codes2 : List Int := [54, 55] ++ [58, 59, 60, 61, 62]
noncomputable def octs1 : List Int := [4, 8, 1, 1, 2, 2, 1, 1, 2, 2, 4, 4]
noncomputable def octs2 : List Int := [4, 8, 1, 2, 1, 2, 4]
theorem acc1_at {i : Nat} {j o : Int} (hj : codes1[i]? = some j) (ho : octs1[i]? = some o) : accP[0 + i]? = some (j, intsD [if (i : Int) = 0 ∨ 2 ≤ (i : Int) ∧ (i : Int) < 6 then -1 else -2, o, if 1 < (i : Int) ∧ (i : Int).fmod 2 = 0 then 1 else 0]) := by
  have hi : i < 12 := (List.getElem?_eq_some_iff.mp ho).1
  have := List.all_eq_true.mp (by decide +kernel : ((List.range 12).all fun i => decide (accL[i]? = some (codes1.getD i 0, [if (i : Int) = 0 ∨ 2 ≤ (i : Int) ∧ (i : Int) < 6 then -1 else -2, octs1.getD i 0, if 1 < (i : Int) ∧ (i : Int).fmod 2 = 0 then 1 else 0]))) = true) i (List.mem_range.mpr hi)
  rw [decide_eq_true_eq, List.getD_eq_getElem?_getD, List.getD_eq_getElem?_getD, hj, ho] at this
  rw [Nat.zero_add, accP, List.getElem?_map, this]; rfl
theorem acc2_at {i : Nat} {j o : Int} (hj : codes2[i]? = some j) (ho : octs2[i]? = some o) : accP[12 + i]? = some (j, intsD [if ([(0 : Int), 2, 3].any fun x => x == (i : Int)) = true then -1 else -2, o]) := by
  have hi : i < 7 := (List.getElem?_eq_some_iff.mp ho).1
  have := List.all_eq_true.mp (by decide +kernel : ((List.range 7).all fun i => decide (accL[12 + i]? = some (codes2.getD i 0, [if ([(0 : Int), 2, 3].any fun x => x == (i : Int)) = true then -1 else -2, octs2.getD i 0]))) = true) i (List.mem_range.mpr hi)
  rw [decide_eq_true_eq, List.getD_eq_getElem?_getD, List.getD_eq_getElem?_getD, hj, ho] at this
  rw [accP, List.getElem?_map, this]; rfl
theorem join_if {M : Model} {A : Around} {E : Value → Shared → Prop} {s : Shared} {Q : Value → Shared → Prop} {x : Sem Value} {v : Int} (hv : ∀ P : Value → Shared → Prop, (∀ t n, P (.int v t) { s with toks := n }) → wpAny M A x P E s) (h : ∀ t n, Q (.int v t) { s with toks := n }) : wpAny M A x Q E s := hv Q h
theorem leaf {s : Shared} {P : Value → Shared → Prop} {v u : Int} (e : v = u) (hP : ∀ t n, P (.int v t) { s with toks := n }) (t n : Nat) : P (.int u t) { s with toks := n } := e ▸ hP t n
theorem join_if2 {M : Model} {A : Around} {E : Value → Shared → Prop} {s : Shared} {Q : Value → Shared → Prop} {x : Sem Value} {g h : Heap} {L : Addr} {m : Str → Option Value} {news : List (Addr × Obj)} {v : Int} (_ : Fr g L h m) (_ : News g L h news) (hv : ∀ P : Value → Shared → Prop, (∀ t n h' c, Fr g L h' m → News g L h' (c :: news) → P (.int v t) { s with heap := h', toks := n }) → wpAny M A x P E s)
    (k : ∀ t n h' c, Fr g L h' m → News g L h' (c :: news) → Q (.int v t) { s with heap := h', toks := n }) : wpAny M A x Q E s := hv Q k
theorem leaf2 {s : Shared} {P : Value → Shared → Prop} {g h' : Heap} {L : Addr} {m : Str → Option Value} {news : List (Addr × Obj)} {c : Addr × Obj} {v u : Int} (e : v = u) (F : Fr g L h' m) (N : News g L h' (c :: news)) (hP : ∀ t n h' c, Fr g L h' m → News g L h' (c :: news) → P (.int v t) { s with heap := h', toks := n }) (t n : Nat) : P (.int u t) { s with heap := h', toks := n } := e ▸ hP t n h' c F N
theorem no_one {a b c : Prop} (h : ¬ a) (k : ¬ b) : ¬ (a ∨ b ∧ c) := fun x => x.elim h fun y => k y.1
theorem no_two {a b c : Prop} (h : ¬ a) (k : ¬ c) : ¬ (a ∨ b ∧ c) := fun x => x.elim h fun y => k y.2
theorem no_l {a b : Prop} (h : ¬ a) : ¬ (a ∧ b) := fun x => h x.1
theorem no_r {a b : Prop} (h : ¬ b) : ¬ (a ∧ b) := fun x => h x.2
theorem small_i {i : Nat} (h : i < 12) : (i : Int) < 2 ^ 63 := by omega
theorem small_n {k i : Nat} (h : i < 12) (hk : k ≤ 12) : k + i ≤ sizeLine := by rw [sizeLine_eq]; omega
theorem one_tup {a : Addr × Obj} (h : isTupObj a.2) : ∀ p ∈ [a], isTupObj p.2 := fun p hp => by rw [List.mem_singleton.mp hp]; exact h
section
local macro_rules | `(tactic| walk_at "exec For Tuple Call cons nil") => `(tactic| ((rename Fr _ _ _ _ => lF'); (with_unfolding_all refine' For_turns lF' ?_; k_whole)))
abbrev AccTells : Prop :=
  ∀ (w : World) (mean : ExcName → Option Value) (mg mb : Str → Option Value) (dp un : Nat) (gd : Option (List Code)) (cn : Str) (cs : Scope) (a : Addr) (ccd : Value) (cl : List (Str × Addr)) (outer : List Env) (A₀ : Around) (base h₀ : Heap) (L : Addr) (m : Str → Option Value) (news : List (Addr × Obj)) (s : Shared) (Q E : Value → Shared → Prop),
    Below A₀ base outer h₀ → Fr h₀ L s.heap m → (hd.heap_39 w.params).In h₀ → News h₀ L s.heap news → Top hd.view_39 Lo mean mg mb h₀ → cs.kind = .function →
    dp + 4 < recursionLimit → un + 400 < cLine →
    (∀ (b : Addr) (tl : List (Addr × Obj)) (h' : Heap) (tk' : Nat), Fr h₀ L h' m → News h₀ L h' (tl ++ news) → (∀ p ∈ tl, p.2.cls ≠ .type "dict" ∨ ∀ q ∈ news, q.1 < p.1) → DSup prg w h₀ tl b accD → Q (.ref b) { s with heap := h', toks := tk' }) →
    wpAny (model PySem.Challenge.rw_nm0114_01.row.prog w) (ktrTop dp un gd cn cs L a ccd cl outer) (call (.ref 193) []) Q E s
set_option maxHeartbeats 16000000 in
theorem acc_tells : AccTells := by
  unfold AccTells
  k_fill
  w_top off
  (have zz0 : Stop "binaryOp Add ref ref" := trivial)
  (have zz1 : Stop "setItem ref int" := trivial)
  (have zz2 : Stop "call type:enumerate" := trivial)
  (have zz3 : Stop "subscriptTail" := trivial)
  (have zz4 : Stop "subscriptTail Name Name ref int" := trivial)
  (have zz5 : Stop "newList" := trivial)
  (have zz6 : Stop "eval Dict nil nil" := trivial)
  (have zz7 : Stop "eval IfExp" := trivial)
  intro w mean mg mb dp un gd cn cs a ccd cl outer A₀ base h₀ L m news s Q E B F X N T hk hdp hun hret
  refine wpAny_call ?_
  (first | k_dflt cell_enter | fail "not entered")
  (rename Fr _ _ _ _ => f0)
  (with_reducible refine short f0 ?_)
  clear f0
  intro m₀ e₀ B₀ gs₀ dr₀ os₀ t₀ f0
  k_steps
  refine Wait.out ?_
  try dsimp only
  refine' newDict_K ?kk1 ?kk2 ?kk3 ?_
  case kk1 => assumption
  case kk2 => assumption
  case kk3 => exact Top.nolimit (by assumption)
  intro d gd1 od Fd Nd ld hlo _ _ hid _
  k_steps
  refine Wait.out ?_
  try dsimp only
  refine' newInts octs1 (by repeat (first | exact .nil | refine .cons _ _ ?_)) small12 ?kk4 ?kk5 ?_
  case kk4 => k_asm
  case kk5 => k_asm
  intro v1 la g1 oI F5 N5 l5
  k_steps
  refine Wait.out ?_
  try dsimp only
  refine' newInts [40, 41] (.cons _ _ (.cons _ _ .nil)) small2 ?kk6 ?kk7 ?_
  case kk6 => k_asm
  case kk7 => k_asm
  intro v2 lb g2 oJ F6 N6 l6
  k_steps
  refine Wait.out ?_
  try dsimp only
  rename CarriedAll _ _ => lC
  refine add_lists_ints (ns := [40, 41]) (ms := [44, 45, 46, 47, 48, 49, 50, 51, 52, 53]) (by k_asm) (by k_asm) (News.isList (by k_asm) (by k_mem)) (by assumption) (by assumption) (IntsAre.ofCarried lC) (fun h1 F1 N1 I1 => ?_) (by rw [sizeLine_eq]; exact Nat.le_of_ble_eq_true rfl)
  k_steps
  refine Wait.out ?_
  try dsimp only
  rename Obj.IsDictOf (intKind _ _) _ _ => lD
  rename Fr _ _ _ _ => lF
  rename News _ _ _ _ => lN
  refine' ktu_enum ?hh1 lF lN ?hm1 ?hc1 ?hd1 ?hx1 ?_
  case hh1 => rfl
  case hm1 => exact List.mem_cons_self ..
  case hc1 => rfl
  case hd1 => rfl
  case hx1 => rfl
  intro I l1
  try dsimp only
  refine tab_enum (h₀ := h₀) (tab := accP) 0 (TI.start [Str.ofString "k", Str.ofString "code", Str.ofString "kind"] [_, _, _, _] (TFacts.zero lD)) (List.mem_cons_self ..) ?turn1 ?done1
  case turn1 =>
    intro i x hx u o kvs tups hTF T t h tk oe oi hT F2 ce ci N2 P hP
    simp only [List.cons_append, List.nil_append] at N2
    (with_reducible refine reFN F2 N2 ?_)
    clear F2 N2
    intro m₁ n₁ F2 N2
    obtain ⟨j, t0, hxj, hj⟩ := I1.at i x hx
    subst hxj
    have hi12 : i < 12 := (List.getElem?_eq_some_iff.mp hj).1
    obtain ⟨oc, ot, ho1, ho2⟩ := ints_get (ns := octs1) oI hi12
    k_steps
    refine Wait.out ?_
    refine join_if (v := if (i : Int) = 0 ∨ 2 ≤ (i : Int) ∧ (i : Int) < 6 then -1 else -2) (fun P' hP' => ?_) (fun t1 k1 => ?_)
    · refine IfExp_ ?_
      k_steps
      all_goals exact leaf (by first | exact if_pos (.inl (by assumption)) | exact if_pos (.inr ⟨by assumption, by assumption⟩) | exact if_neg (no_one (by assumption) (by assumption)) | exact if_neg (no_two (by assumption) (by assumption))) hP' _ _
    k_steps
    refine Wait.out ?_
    try dsimp only
    (refine' item_listL (l := v1) ?_ (Int.natCast_nonneg i) (small_i hi12) (x := .int oc ot) ho1 ?_)
    · exact News.isList (by k_asm) (by k_mem)
    k_steps
    refine Wait.out ?_
    refine join_if (v := if 1 < (i : Int) ∧ (i : Int).fmod 2 = 0 then 1 else 0) (fun P' hP' => ?_) (fun t2 k2 => ?_)
    · refine IfExp_ ?_
      k_steps
      all_goals exact leaf (by first | exact if_pos ⟨by assumption, by assumption⟩ | exact if_neg (no_l (by assumption)) | exact if_neg (no_r (by assumption))) hP' _ _
    k_steps
    have e := acc1_at hj ho2
    refine Wait.out ?_
    try dsimp only
    (rename Fr _ _ _ _ => kF)
    (rename News _ _ _ _ => kN)
    refine' tab_set (tl := [_]) [_, _, _, _] kF kN hTF (one_tup ⟨_, _, rfl, rfl⟩) ce ci (fun p hp => ?_) (fun p hp => Nat.ne_of_lt (ld p hp)) (small_n hi12 (by decide)) ?_
    · simp only [List.mem_cons, List.not_mem_nil, or_false] at hp
      rcases hp with rfl | rfl | rfl | rfl
      all_goals first | (show Value.type "tuple" ≠ Value.type "dict"; decide) | (show Value.type "list" ≠ Value.type "dict"; decide)
    intro h' o' F' N' hd'
    simp only [List.cons_append, List.nil_append] at N'
    k_steps
    refine hP _ ?_
    (rename Fr _ _ _ _ => kF2)
    (rename News _ _ _ _ => kN2)
    refine' tab_end (tl := [_]) [_, _, _, _] ce ci kF2 kN2 (hTF.next accP_nodup e (sup_ints (List.Mem.head _) (.cons _ _ (.cons _ _ (.cons _ _ .nil)))) (one_tup ⟨_, _, rfl, rfl⟩) hd') (fun p hp => l1 p (List.mem_append_left _ hp)) (fun p hp => l1 p (List.mem_append_right [_, _, _, _] (.tail _ hp))) ?_
    intro y hc
    have hc' := hc
    simp only [List.contains_cons, List.contains_nil, Bool.or_false, Bool.or_eq_false_iff, beq_eq_false_iff_ne] at hc'
    simp only [m₁, hc'.1, hc'.2.1, hc'.2.2, hc, if_false, Bool.false_eq_true]
  intro u o kvs tups h tk hTF F2 N2
  rw [I1.length] at hTF
  simp only [List.cons_append, List.nil_append] at N2
  k_steps
  refine Wait.out ?_
  try dsimp only
  refine' newInts [54, 55] (.cons _ _ (.cons _ _ .nil)) small2 ?kk8 ?kk9 ?_
  case kk8 => k_asm
  case kk9 => k_asm
  intro v3 lc g3 oK F7 N7 l7
  k_steps
  refine Wait.out ?_
  try dsimp only
  clear lC
  rename CarriedAll _ _ => lC2
  refine add_lists_ints (ns := [54, 55]) (ms := [58, 59, 60, 61, 62]) (by k_asm) (by k_asm) (News.isList (by k_asm) (by k_mem)) (by assumption) (by assumption) (IntsAre.ofCarried lC2) (fun h2 F8 N8 I2 => ?_) (by rw [sizeLine_eq]; exact Nat.le_of_ble_eq_true rfl)
  k_steps
  refine Wait.out ?_
  try dsimp only
  rename Fr _ _ _ _ => mF
  rename News _ _ _ _ => mN
  refine' ktu_enum ?hh2 mF mN ?hm2 ?hc2 ?hd2 ?hx2 ?_
  case hh2 => rfl
  case hm2 => exact List.mem_cons_self ..
  case hc2 => rfl
  case hd2 => rfl
  case hx2 => rfl
  intro J l2
  try dsimp only
  refine tab_enum (h₀ := h₀) (tab := accP) 12 (TI.start [Str.ofString "k", Str.ofString "code", Str.ofString "kind"] [_, _, _, _, _, _] hTF) (List.mem_cons_self ..) ?turn2 ?done2
  case turn2 =>
    intro i x hx u o kvs tups hTF T t h tk oe oi hT F2 ce ci N2 P hP
    simp only [List.cons_append, List.nil_append] at N2
    (with_reducible refine reFN F2 N2 ?_)
    clear F2 N2
    intro m₁ n₁ F2 N2
    obtain ⟨j, t0, hxj, hj⟩ := I2.at i x hx
    subst hxj
    have hi7 : i < 7 := (List.getElem?_eq_some_iff.mp hj).1
    k_steps
    refine Wait.out ?_
    try dsimp only
    (rename Fr _ _ _ _ => jF)
    (rename News _ _ _ _ => jN)
    refine join_if2 (v := if ([(0 : Int), 2, 3].any fun x => x == (i : Int)) = true then -1 else -2) jF jN (fun P' hP' => ?_) (fun t1 k1 h1 c1 F8 N8 => ?_)
    · refine IfExp_ ?_
      k_steps
      all_goals
        (rename Fr _ _ _ _ => iF)
        (rename News _ _ _ _ => iN)
        exact leaf2 (by first | exact if_pos (by assumption) | exact if_neg (ne_true_of_eq_false (by assumption))) iF iN hP' _ _
    clear jF jN
    k_steps
    refine Wait.out ?_
    try dsimp only
    refine newInts octs2 (by repeat (first | exact .nil | refine .cons _ _ ?_)) small7 (by k_asm) (by k_asm) ?_
    intro v4 le g4 oM F9 N9 l9
    obtain ⟨oc, ot, ho1, ho2⟩ := ints_get oM hi7
    have e := acc2_at hj ho2
    k_steps
    refine Wait.out ?_
    try dsimp only
    refine list_sub (vs := v4) ?_ (Int.natCast_nonneg i) (small_i (Nat.lt_of_lt_of_le hi7 (by decide))) ho1 ?_
    · exact News.isList (by k_asm) (by k_mem)
    k_steps
    refine Wait.out ?_
    try dsimp only
    (rename Fr _ _ _ _ => kF)
    (rename News _ _ _ _ => kN)
    have kM := drop_two kN
    refine' tab_set (tl := [_]) [_, _, _, _, _, _] kF kM hTF (one_tup ⟨_, _, rfl, rfl⟩) ce ci (fun p hp => ?_) (fun p hp => Nat.ne_of_lt (ld p hp)) (small_n (Nat.lt_of_lt_of_le hi7 (by decide)) (by decide)) ?_
    · simp only [List.mem_cons, List.not_mem_nil, or_false] at hp
      rcases hp with rfl | rfl | rfl | rfl | rfl | rfl
      all_goals first | (show Value.type "tuple" ≠ Value.type "dict"; decide) | (show Value.type "list" ≠ Value.type "dict"; decide)
    intro h' o' F' N' hd'
    simp only [List.cons_append, List.nil_append] at N'
    clear kN kM
    k_steps
    refine hP _ ?_
    (rename Fr _ _ _ _ => kF2)
    (rename News _ _ _ _ => kN2)
    refine' tab_end (tl := [_]) [_, _, _, _, _, _] ce ci kF2 kN2 (hTF.next accP_nodup e (sup_ints (List.Mem.head _) (.cons _ _ (.cons _ _ .nil))) (one_tup ⟨_, _, rfl, rfl⟩) hd') (fun p hp => l2 p (List.mem_append_left _ hp)) (fun p hp => l2 p (List.mem_append_right [_, _, _, _, _, _] (.tail _ (List.mem_append_right _ hp)))) ?_
    intro y hc
    have hc' := hc
    simp only [List.contains_cons, List.contains_nil, Bool.or_false, Bool.or_eq_false_iff, beq_eq_false_iff_ne] at hc'
    simp only [m₁, hc'.1, hc'.2.1, hc'.2.2, hc, if_false, Bool.false_eq_true]
  intro u o kvs tups h tk hTF F2 N2
  rw [I2.length] at hTF
  simp only [List.cons_append, List.nil_append] at N2
  k_steps
  (rename Fr _ _ _ _ => kF)
  (rename News _ _ _ _ => kN)
  refine hret _ ((_, o) :: tups) _ _ kF (fun p hp => kN p (List.mem_append_right [_, _, _, _, _, _] hp)) (List.forall_mem_cons.mpr ⟨.inr ld, fun p hp => .inl (by rw [tup_cls (hTF.tup p hp)]; decide)⟩) ((hTF.dsup (Nat.le_of_eq rfl) hlo).congr accP_look)
end
end
section
noncomputable def tabD (c : Int) : Option PyData := (rowF c).map rowD
theorem shape_f : ∀ c, SeqAt.shaped (fD (formG c)) = true := all_codes _ (by decide +kernel) (by decide +kernel) fun c hc => by
  simp only [formG, row_out hc, Option.map_none]
  decide +kernel
theorem shape_s : ∀ c, SeqAt.shaped (sD (stackG c)) = true := all_codes _ (by decide +kernel) (by decide +kernel) fun c hc => by
  simp only [stackG, row_out hc, Option.bind_none]
  decide +kernel
theorem shape_ints : ∀ c, ∀ l, accF c = some l → SeqAt.shaped (intsD l) = true := fun c l h => by
  have key : ∀ c, SeqAt.shaped (intsD ((accF c).getD [])) = true := all_codes _ (by decide +kernel) (by decide +kernel) fun c hc => by
    rw [acc_out hc]
    decide +kernel
  have := key c
  rw [h] at this
  exact this
theorem tab_get (c : Int) : (tabD c).getD (.tuple [.none, .none]) = .tuple [fD (formG c), sD (stackG c)] := by
  unfold tabD formG stackG
  cases rowF c with
  | none => rfl
  | some r => rfl
section
variable {prog : Program} {w : World} {A : Around} {E : Value → Shared → Prop} {s : Shared} {h₀ : Heap} {L d : Addr} {m : Str → Option Value} {led led' news : List (Addr × Obj)} {c : Int} {t : Tok} {Q : Value → Shared → Prop}
theorem law_get {T : Addr} {n : Nat} (x : DSup prog w h₀ led d tabD) (F : Fr h₀ L s.heap m) (N : News h₀ L s.heap news) (hs : ∀ p ∈ led, p ∈ news) (hT : (T, { cls := .type "tuple", data := .seq #[.none, .none] n }) ∈ news)
    (h : ∀ b u v, IsTup s.heap b #[u, v] → Sup h₀ news u (fD (formG c)) → Sup h₀ news v (sD (stackG c)) → Q (.ref b) { s with toks := s.toks + 1 }) : wpAny (model prog w) A (call (.builtin "dict.get") [.ref d, .int c t, .ref T]) Q E s := by
  refine ds_get2 (DD := .tuple [.none, .none]) x (Has.at F N hs) hs (sup_pair hT rfl rfl .none .none) fun v S => ?_
  rw [tab_get] at S
  obtain ⟨b, u, v, rfl, ht, h1, h2⟩ := sup_two S
  exact h b u v (ht _ (Has.at F N fun _ y => y)) h1 h2
theorem law_ne {v v' : Value} {D D' : PyData} (S : Sup h₀ led v D) (S' : Sup h₀ led' v' D') (k : Hold h₀ led s.heap) (k' : Hold h₀ led' s.heap) (e : D = D')
    (ha : SeqAt.shaped D' = true) (hu : A.units + 64 < cLine) (h : Q (.bool false) s) : wpAny (model prog w) A (compareOp .NotEq v v') Q E s := by
  subst e
  exact sup_ne S S' k k' ha hu h
theorem law_neb {a b : Bool} (e : a = b) (hu : A.units + 64 < cLine) (h : Q (.bool false) s) : wpAny (model prog w) A (compareOp .NotEq (.bool a) (.bool b)) Q E s := by
  subst e
  exact ne_dataH (Reads.bool a) (Reads.bool a) rfl rfl hu (by rw [SeqAt.eqv_refl _ rfl]; exact h)
theorem law_nn (hu : A.units + 64 < cLine) (h : Q (.bool false) s) : wpAny (model prog w) A (compareOp .NotEq .none .none) Q E s :=
  ne_dataH Reads.none Reads.none rfl rfl hu (by rw [SeqAt.eqv_refl _ rfl]; exact h)
theorem law_eqb {v : Value} {x : Str} {tx : Tok} {o : Option Str} (S : Sup h₀ led v (fD o)) (k : Hold h₀ led s.heap) (ha : SeqAt.shaped (fD o) = true) (hx : SeqAt.shaped (.str x) = true) (hu : A.units + 64 < cLine)
    (h : Q (.bool (decide (o = some x))) s) : wpAny (model prog w) A (compareOp .Eq v (.str x tx)) Q E s := by
  refine eq_dataH (SV.reads k S) (Reads.str x tx) ha hx hu ?_
  have e : PyData.eqv (fD o) (.str x) = decide (o = some x) := by
    cases o with
    | none => rfl
    | some y =>
      by_cases q : y = x
      · subst q; simp [fD, PyData.eqv]
      · simp [fD, PyData.eqv, q]
  rw [e]; exact h
end
end
section
def LawJ (x : Str) (stored : List Str) (m₀ : Str → Option Value) (led : List (Addr × Obj)) (m : Str → Option Value) (nx : List (Addr × Obj)) : Prop := nx = led ∧ ∀ z, z ≠ x → stored.contains z = false → m z = m₀ z
section
variable {prog : Program} {w : World} {A : Around} {E : Value → Shared → Prop} {s : Shared} {env : Env} {h₀ : Heap} {x : Str} {body : List Stmt} {Q : Flow → Shared → Prop}
/-- a loop over ints whose turns leave everything as it was, but for their own names -/
theorem law_loop {l : Addr} {vs : List Value} {ns : List Int} {nn : Nat} {m₀ : Str → Option Value} {led : List (Addr × Obj)} (stored : List Str)
    (hh : A.handled = none) (hl : (l, listOf vs.toArray nn) ∈ led) (hi : IntsAre vs ns) (F : Fr h₀ env.locals s.heap m₀) (N : News h₀ env.locals s.heap led)
    (turn : ∀ n t (u : Str → Option Value) h tk own, Fr h₀ env.locals h (fun y => if y = x then some (.int n t) else if stored.contains y then u y else m₀ y) → News h₀ env.locals h (led ++ own) →
      ∀ P : Flow → Shared → Prop, (∀ s₂, InvEndN h₀ env.locals (LawJ x stored m₀ led) own (led.map (·.1)) { s with heap := h, toks := tk } s₂ → P .next s₂) →
      wpAny (model prog w) A (execs body env) P E { s with heap := h, toks := tk })
    (done : ∀ (u : Str → Option Value) h tk, Fr h₀ env.locals h (fun y => if y = x then u y else if stored.contains y then u y else m₀ y) → News h₀ env.locals h led → Q .next { s with heap := h, toks := tk }) :
    wpAny (model prog w) A (pyIter (.ref l)) (fun it s₂ => LoopAtV prog w A h₀ env x body Q E it s₂) E s := by
  have same : ∀ {m₁ : Str → Option Value}, (∀ z, z ≠ x → stored.contains z = false → m₁ z = m₀ z) → ∀ y, y ≠ x → (if stored.contains y then m₁ y else m₀ y) = m₁ y := fun {m₁} hm y hy => by
    cases hc : stored.contains y with
    | true => simp
    | false => simp [hm y hy hc]
  refine iter_invNL (fun _ m nx => LawJ x stored m₀ led m nx) hh hl hi F N ⟨rfl, fun _ _ _ => rfl⟩ ?_ ?_
  · rintro i n t m₁ nx h tk own hn _ hoff _ ⟨rfl, hm⟩ F₁ N₁
    have e : (fun y => if y = x then some (Value.int n t) else if stored.contains y then m₁ y else m₀ y) = fun y => if y = x then some (.int n t) else m₁ y := by
      funext y
      by_cases hy : y = x
      · simp [hy]
      · rw [if_neg hy, if_neg hy]; exact same hm y hy
    refine wpAny_mono (turn n t m₁ h tk own (e ▸ F₁) N₁ (fun f s₂ => f = .next ∧ InvEndN h₀ env.locals (LawJ x stored m₀ nx) own (nx.map (·.1)) { s with heap := h, toks := tk } s₂) fun _ y => ⟨rfl, y⟩) (fun f s₂ p => ?_) fun _ _ y => y
    have up : InvEndN h₀ env.locals (LawJ x stored m₀ nx) own (nx.map (·.1)) { s with heap := h, toks := tk } s₂ → InvEndN h₀ env.locals (fun m' nx' => (l, listOf vs.toArray nn) ∈ nx' ∧ LawJ x stored m₀ nx m' nx') own (nx.map (·.1)) { s with heap := h, toks := tk } s₂ := by
      rintro ⟨h', tk', m', news', nx', e', F', N', hn', ho', ha, hS⟩
      refine ⟨h', tk', m', news', nx', e', F', N', hn', ho', ha, ?_, hS⟩
      rw [hS.1]; exact hl
    obtain ⟨rfl, p⟩ := p
    exact up p
  · rintro m₁ nx h tk _ ⟨rfl, hm⟩ F₁ N₁
    have e : (fun y => if y = x then m₁ y else if stored.contains y then m₁ y else m₀ y) = m₁ := by
      funext y
      by_cases hy : y = x
      · simp [hy]
      · rw [if_neg hy]; exact same hm y hy
    exact done m₁ h tk (e.symm ▸ F₁) N₁
theorem law_end {L : Addr} {m' : Str → Option Value} {m₀ : Str → Option Value} {stored : List Str} {led own news' : List (Addr × Obj)} {s₁ : Shared} {h' : Heap} {tk : Nat} (F : Fr h₀ L h' m') (N : News h₀ L h' news') (hn : ∀ p ∈ led, p ∈ news') (ho : ∀ p ∈ own, p ∈ news') (hm : ∀ z, z ≠ x → stored.contains z = false → m' z = m₀ z) :
    InvEndN h₀ L (LawJ x stored m₀ led) own (led.map (·.1)) s₁ { s₁ with heap := h', toks := tk } :=
  ⟨h', tk, m', news', led, rfl, F, N, hn, ho, rfl, rfl, hm⟩
end
end
section
/-- of a code: what is told of it by `access`, whole -/
theorem acc_cases (c : Int) : (accF c = none) ∨ (∃ x y z, accF c = some [x, y, z]) ∨ (∃ x y, accF c = some [x, y]) := by
  rcases plain_acc_len c with h | ⟨l, h, hl | hl⟩
  · exact .inl h
  · obtain ⟨x, y, z, rfl⟩ := three_of hl
    exact .inr (.inl ⟨x, y, z, h⟩)
  · obtain ⟨x, y, rfl⟩ := two_of hl
    exact .inr (.inr ⟨x, y, h⟩)
theorem loads_of3 (c : Int) {x y z : Int} (h : accF c = some [x, y, z]) : loadsF c = some [x, y, z] ∧ storesF c = none := ⟨by rw [plain_loads, h]; rfl, by rw [plain_stores, h]; rfl⟩
theorem stores_of2 (c : Int) {x y : Int} (h : accF c = some [x, y]) : loadsF c = none ∧ storesF c = some [x, y] := ⟨by rw [plain_loads, h]; rfl, by rw [plain_stores, h]; rfl⟩
theorem pow_law (c : Int) {l : List Int} {y : Int} (h : accF c = some l) (hy : l[1]? = some y) : (0 ≤ natF c ∧ natF c ≤ 3) ∧ (2 : Int) ^ (natF c).toNat = y := by
  rcases plain_nat c with h' | ⟨k, hk, h1, h2, h3⟩
  · rw [h] at h'; cases h'
  · rw [h] at h3
    have e : y = k.1 := Option.some.inj (hy.symm.trans h3)
    rw [h2, e]
    simp only [natL, List.mem_cons, List.not_mem_nil, or_false] at hk
    rcases hk with rfl | rfl | rfl | rfl <;> decide
section
variable {prog : Program} {w : World} {A : Around} {E : Value → Shared → Prop} {s : Shared} {Q : Value → Shared → Prop}
theorem law_pow {k y : Int} {t u : Tok} (hp : (0 ≤ k ∧ k ≤ 3) ∧ (2 : Int) ^ k.toNat = y) (h : ∀ t', Q (.int y t') { s with toks := s.toks + 1 }) : wpAny (model prog w) A (binaryOp .Pow (.int 2 t) (.int k u)) Q E s :=
  pow_int_small hp.1.1 (Int.le_trans hp.1.2 (by decide)) (by decide) (by rw [hp.2]; exact h _)
theorem law_nei {y : Int} {t u : Tok} (hu : A.units + 64 < cLine) (h : Q (.bool false) s) : wpAny (model prog w) A (compareOp .NotEq (.int y t) (.int y u)) Q E s := by
  refine ne_dataH (Reads.int y t) (Reads.int y u) rfl rfl hu ?_
  rw [SeqAt.eqv_refl _ rfl]
  exact h
end
section
variable {prog : Program} {w : World} {A : Around} {E : Value → Shared → Prop} {s : Shared} {Q : Value → Shared → Prop} {b : Addr}
theorem law_len3 {u v z : Value} (t : IsTup s.heap b #[u, v, z]) (h : ∀ k n, Q (.int 3 k) { s with toks := n }) : wpAny (model prog w) A (call (.builtin "len") [.ref b]) Q E s := PyProof.Rows.len_tuple t (by show (3 : Int) < 2 ^ 63; decide) (h _ _)
theorem law_len2 {u v : Value} (t : IsTup s.heap b #[u, v]) (h : ∀ k n, Q (.int 2 k) { s with toks := n }) : wpAny (model prog w) A (call (.builtin "len") [.ref b]) Q E s := PyProof.Rows.len_tuple t (by show (2 : Int) < 2 ^ 63; decide) (h _ _)
end
theorem law_end4 {g : Heap} {L : Addr} {m' : Str → Option Value} {m₀ : Str → Option Value} {led own news' : List (Addr × Obj)} {s₁ : Shared} {h' : Heap} {tk : Nat} (F : Fr g L h' m') (N : News g L h' news') (hn : ∀ p ∈ led ++ own, p ∈ news')
    (hm : ∀ z, z ≠ Str.ofString "code" → [Str.ofString "form", Str.ofString "stack", Str.ofString "is_load", Str.ofString "is_store"].contains z = false → z ≠ Str.ofString "form" → z ≠ Str.ofString "stack" → z ≠ Str.ofString "is_load" → z ≠ Str.ofString "is_store" → m' z = m₀ z) :
    InvEndN g L (LawJ (Str.ofString "code") [Str.ofString "form", Str.ofString "stack", Str.ofString "is_load", Str.ofString "is_store"] m₀ led) own (led.map (·.1)) s₁ { s₁ with heap := h', toks := tk } :=
  law_end F N (fun p hp => hn p (List.mem_append_left _ hp)) (fun p hp => hn p (List.mem_append_right _ hp)) fun z hz hc => by
    have hc' := hc
    simp only [List.contains_cons, List.contains_nil, Bool.or_false, Bool.or_eq_false_iff, beq_eq_false_iff_ne] at hc'
    exact hm z hz hc hc'.1 hc'.2.1 hc'.2.2.1 hc'.2.2.2
theorem len_K {prog : Program} {w : World} {K : Frag} {h₀ : Heap} (X : K.In h₀) {d : Addr} {es : Array DictEntry} {ep : Nat} {l : List (Int × PyData)}
    (hl : K.lookup d = some ⟨.type "dict", none, .dict es ep, #[]⟩) (he : (es.toList.mapM (readE K)).map (fun r => r.map fun x => (x.1, x.2.2)) = some l) (hn : (l.map (·.1)).Nodup) :
    ∃ kvs, kvs.length = l.length ∧ h₀.DictOf (intKind prog w) d kvs := by
  obtain ⟨r, hr, rfl⟩ := Option.map_eq_some_iff.mp he
  obtain ⟨a, b, _⟩ := dsup_entries (prog := prog) (w := w) X hr
  refine ⟨r.map fun x => (x.1, x.2.1), by simp, Heap.dictOf_iff.mpr ⟨_, X _ _ hl, es, ep, ⟨rfl, rfl, rfl⟩, rfl, fun e hm => a e (by simpa using hm), b, ?_⟩⟩
  rw [List.map_map] at hn ⊢; exact hn
section
variable {w : World} {A : Around} {E : Value → Shared → Prop} {s : Shared} {Q : Value → Shared → Prop} {h₀ : Heap} {L : Addr} {m : Str → Option Value}
theorem len_loads (X : (hd.heap_39 w.params).In h₀) (F : Fr h₀ L s.heap m) (h : ∀ k n, Q (.int 12 k) { s with toks := n }) : wpAny (model prg w) A (call (.builtin "len") [.ref 15]) Q E s := by
  obtain ⟨kvs, e, hd'⟩ := len_K (prog := prg) (w := w) (d := 15) (l := loadsL.map fun p => (p.1, intsD p.2)) X rfl (by kernel_rfl) (by decide +kernel)
  have e' : kvs.length = 12 := e
  exact call_len_dict rfl (hd'.keep F.keep) (by rw [e']; decide) (by rw [e']; exact h _ _)
theorem len_stores (X : (hd.heap_39 w.params).In h₀) (F : Fr h₀ L s.heap m) (h : ∀ k n, Q (.int 7 k) { s with toks := n }) : wpAny (model prg w) A (call (.builtin "len") [.ref 28]) Q E s := by
  obtain ⟨kvs, e, hd'⟩ := len_K (prog := prg) (w := w) (d := 28) (l := storesL.map fun p => (p.1, intsD p.2)) X rfl (by kernel_rfl) (by decide +kernel)
  have e' : kvs.length = 7 := e
  exact call_len_dict rfl (hd'.keep F.keep) (by rw [e']; decide) (by rw [e']; exact h _ _)
end
end
section
/-- what a letter stands for -/
noncomputable def ltrI (c : Nat) : Int := if c = 105 then -1 else if c = 73 then -2 else -16
noncomputable def ltrOk (c : Nat) : Bool := c == 105 || c == 73 || c == 102
noncomputable def ltrS (x : Str) : List Int := x.cps.toList.map ltrI
section
variable {prog : Program} {w : World} {A : Around} {E : Value → Shared → Prop} {s : Shared} {env : Env} {C : Addr} {scope : Scope} {m₂ : Str → Option Value}
theorem letter_elt {c : Nat} {t : Tok} {k1 k2 k3 k4 k5 k6 : Nat} {p1 p2 p3 p4 p5 p6 p7 p8 p9 q1 q2 q3 : Pos} (hc : ltrOk c = true) (hn : s.heap.Ns C m₂) (hx : m₂ (Str.ofString "letter") = some (.str ⟨#[c]⟩ t)) (hkf : scope.kind = .function) (hkk : (compEnv scope C env).kindOf (Str.ofString "letter") = some .local)
    (hsl : ∀ o i, subscripted (.Name (Str.ofString "letter") p8) false o i = operate [o, i] (getItem o i)) :
    wpAny (model prog w) A (eval (.Subscript (.Dict [some (.Constant (.str (Str.ofString "i")) k1 p1), some (.Constant (.str (Str.ofString "I")) k2 p2), some (.Constant (.str (Str.ofString "f")) k3 p3)] [.UnaryOp .USub (.Constant (.int 1) k4 p4) q1, .UnaryOp .USub (.Constant (.int 2) k5 p5) q2, .UnaryOp .USub (.Constant (.int 16) k6 p6) q3] p7) (.Name (Str.ofString "letter") p8) p9) (compEnv scope C env)) (fun r s₃ => Carried r (.int (ltrI c)) ∧ Keeps s s₃) E s := by
  refine Subscript_ ?_
  refine wpAny_Dict_walk (knd := PySem.strKind prog w) rfl rfl (List.cons_ne_nil _ _) (Nat.le_of_ble_eq_true rfl) ?_
  refine pairTrees_cons_walk (wpAny_Constant_str ?_)
  refine wpAny_UnaryOp (wpAny_Constant_int (P.neg_int ?_))
  refine pairTrees_cons_walk (wpAny_Constant_str ?_)
  refine wpAny_UnaryOp (wpAny_Constant_int (P.neg_int ?_))
  refine pairTrees_cons_walk (wpAny_Constant_str ?_)
  refine wpAny_UnaryOp (wpAny_Constant_int (P.neg_int ?_))
  refine pairTrees_nil_walk ?_
  refine display_done_str rfl (by show ([Str.ofString "i", Str.ofString "I", Str.ofString "f"] : List Str).Nodup; decide +kernel) (Heap.DictOf.new (knd := PySem.strKind prog w) s.heap) fun h' hd hs => ?_
  have up : ∀ b o, s.heap.get? b = some o → h'.get? b = some o := fun b o e => hs.extBut b o (Nat.ne_of_lt (Heap.lt_size e)) (Heap.get?_push_of_some _ e)
  refine wpAny_Name (wpAny_loadName_local hkf hkk (hn.at' fun o e => up C o e) hx ?_)
  refine tail_any hd.typeIs slot_dict_getitem.lookup ?_ (hsl _ _)
  have fin : ∀ (r : Value) (tk : Nat), Carried r (.int (ltrI c)) → Carried r (.int (ltrI c)) ∧ Keeps s { s with heap := h', toks := tk } := fun r tk hr => ⟨hr, h', tk, rfl, up⟩
  have hc' : c = 105 ∨ c = 73 ∨ c = 102 := by simpa [ltrOk, or_assoc] using hc
  rcases hc' with rfl | rfl | rfl
  · exact wpAny_getItem_of (strKind_is prog w _ t) hd.mapOf (v := .int (-1) _) rfl (fin _ _ (Carried.int _ _))
  · exact wpAny_getItem_of (strKind_is prog w _ t) hd.mapOf (v := .int (-2) _) rfl (fin _ _ (Carried.int _ _))
  · exact wpAny_getItem_of (strKind_is prog w _ t) hd.mapOf (v := .int (-16) _) rfl (fin _ _ (Carried.int _ _))
end
section
variable {prog : Program} {w : World} {A : Around} {E : Value → Shared → Prop} {s₁ : Shared} {env : Env} {scope : Scope} {h₀ : Heap} {L : Addr} {m : Str → Option Value} {news : List (Addr × Obj)}
theorem ltr_paired {y : Str} : ∀ {l : List Nat} {vs ys : List Value}, (∀ (j : Nat) (v : Value), vs[j]? = some v → ∃ c u, l[j]? = some c ∧ v = .str ⟨#[c]⟩ u) → vs.length = l.length →
    Paired (fun v r => ∃ c t, v = Value.str ⟨#[c]⟩ t ∧ Carried r (.int (ltrI c))) vs ys → IntsAre ys (l.map ltrI)
  | [], [], _, _, _, .nil => .nil
  | _ :: _, [], _, _, hl, _ => by simp at hl
  | [], _ :: _, _, _, hl, _ => by simp at hl
  | c :: l, v :: vs, _, hP, hl, .cons (b := b) hF hr => by
    obtain ⟨c1, u1, e1, e2⟩ := hP 0 v rfl
    obtain ⟨c2, u2, e3, hc⟩ := hF
    have ec : c = c1 := Option.some.inj e1
    rw [e2] at e3
    have e4 : c1 = c2 := by injection e3 with e5 e6; injection e5 with e7; simpa using e7
    subst ec e4
    cases hc with
    | int i t => exact .cons _ t (ltr_paired (y := y) (fun j v hj => hP (j + 1) v hj) (by simpa using hl) hr)
theorem ltr_src {x : Str} {elt : Expr} {Q : Value → Shared → Prop} {y : Str} {t : Tok} (hh : A.handled = none) (F : Fr h₀ L s₁.heap m) (N : News h₀ L s₁.heap news) (hok : y.cps.toList.all ltrOk = true)
    (helt : ∀ C c t s₃ m₃ (E' : Value → Shared → Prop), ltrOk c = true → s₃.heap.Ns C m₃ → m₃ x = some (.str ⟨#[c]⟩ t) → wpAny (model prog w) A (eval elt (compEnv scope C env)) (fun r s₄ => Carried r (.int (ltrI c)) ∧ Keeps s₃ s₄) E' s₃)
    (fin : ∀ D (ys : List Value) h' tk, Fr h₀ L h' m → News h₀ L h' news → h₀.get? D = none → h'.IsList D ys.toArray → NewPlain h' news D ys.toArray → IntsAre ys (ltrS y) → Q (.ref D) { s₁ with heap := h', toks := tk }) (hsz : y.length ≤ sizeLine) :
    wpAny (model prog w) A (pyIter (.str y t)) (CompPost prog w A env scope x [] elt Q) E s₁ := by
  unfold CompPost
  refine wpAny_pyIter_str fun o St W hst => ?_
  have up : ∀ (h' : Heap), (∀ b o', b ∉ [s₁.heap.objs.size] → (s₁.heap.push o).get? b = some o' → h'.get? b = some o') → ∀ b o', s₁.heap.get? b = some o' → h'.get? b = some o' :=
    fun h' hk b o' e => hk b o' (fun hb => Nat.lt_irrefl _ (List.mem_singleton.mp hb ▸ Heap.lt_size e)) (Heap.get?_push_of_some _ e)
  have mem : ∀ {c : Nat} {i : Nat}, y.cps[i]? = some c → ltrOk c = true := fun {c i} e => List.all_eq_true.mp hok c (by
    have e' : y.cps.toList[i]? = some c := by simpa using e
    exact List.mem_of_getElem? e')
  refine ⟨fun _ => true, fun v r => ∃ c t, v = Value.str ⟨#[c]⟩ t ∧ Carried r (.int (ltrI c)), s₁.heap.objs.size, [s₁.heap.objs.size], [s₁.heap.objs.size], y.cps.size, SignAt y, St, rfl, W A hh, hsz, hst, ?_, ⟨?_, ?_⟩, ?_⟩
  · intro b hb
    rw [List.mem_singleton.mp hb]
    show _ < (s₁.heap.push o).objs.size
    rw [Heap.size_push]
    exact Nat.lt_succ_self _
  · intro C i v s₃ m₃ E' _ _ _ _ _
    refine wpAny_pure ?_
    exact ⟨rfl, s₃.heap, s₃.toks, rfl, fun _ _ e => e⟩
  · intro C i v s₃ m₃ E' hP _ hn hm _ _
    obtain ⟨c, u, hc, rfl⟩ := hP
    exact wpAny_mono (helt C c u s₃ m₃ E' (mem hc) hn hm) (fun r s₄ h₄ => ⟨⟨c, u, rfl, h₄.1⟩, h₄.2⟩) fun _ _ e => e
  · intro D h' tk ys vs hnew hlD hplD hlen hP hF hk
    have up' := up h' hk
    refine fin D ys.toList h' tk (F.keeps up') (N.grown up') ?_ (by rw [Array.toArray_toList]; exact hlD) ⟨by rw [Array.toArray_toList]; exact hplD, fun p hp e => by rw [← e, Heap.get?_push_of_some _ (N p hp).1] at hnew; cases hnew⟩ ?_
    · cases e : h₀.get? D with
      | none => rfl
      | some o' => rw [Heap.get?_push_of_some _ (F.keep _ _ e)] at hnew; cases hnew
    · rw [filter_allG] at hF
      refine ltr_paired (y := y) (l := y.cps.toList) (fun j v hj => ?_) (by simpa using hlen) hF
      obtain ⟨c, u, hc, e⟩ := hP j v hj
      exact ⟨c, u, by simpa using hc, e⟩
end
theorem ltr_len (x : Str) : ((ltrS x).map PyData.int).length = x.length := by simp [ltrS, Str.length]
theorem tup_ints {h : Heap} {D : Addr} {vs : List Value} {ns : List Int} (t : IsTup h D vs.toArray) (hi : IntsAre vs ns) : SV (fun a o => h.get? a = some o ∧ isTupObj o) (.ref D) (intsD ns) := by
  obtain ⟨o, ho, hc, n, hd⟩ := t
  refine .tuple ⟨ho, _, _, hc, hd⟩ hc hd (by simp [hi.length]) fun i v d e1 e2 => ?_
  obtain ⟨j, t, rfl, hj⟩ := hi.at i v (by simpa using e1)
  rw [List.getElem?_map, hj] at e2
  rw [← Option.some.inj e2]
  exact .int j t
section
set_option maxHeartbeats 4000000 in
theorem let_tells (x : Str) (tk : Tok) (hok : x.cps.toList.all ltrOk = true) (hsz : x.length ≤ sizeLine) : Tells 2 179 [.str x tk] (intsD (ltrS x)) := by
  unfold Tells
  k_fill
  w_top off
  (have zz0 : Stop "pyIter str" := trivial)
  (have zz1 : Stop "call type:tuple" := trivial)
  intro w mean mg mb dp un gd cn cs a ccd cl outer A₀ base h₀ L m news s Q E B F X N T hk hdp hun hret
  refine wpAny_call ?_
  (first | k_dflt cell_enter | fail "not entered")
  (rename Fr _ _ _ _ => f0)
  (with_reducible refine short f0 ?_)
  clear f0
  intro m₀ e₀ B₀ gs₀ dr₀ os₀ t₀ f0
  k_steps
  refine Wait.out ?_
  (refine' ltr_src ?a1 ?a2 ?a3 hok ?a5 ?_ hsz; (case a1 => with_unfolding_all rfl); (case a2 => k_asm); (case a3 => k_asm); (case a5 => exact fun C c t s₃ m₃ E' h1 h2 h3 => letter_elt h1 h2 h3 rfl rfl (fun _ _ => by with_unfolding_all rfl)))
  intro D ys h1 tk1 F1 N1 hD hl hp hI
  k_steps
  refine Wait.out ?_
  refine tuple_ofLC F1 N1 hl (IntsAre.carried hI) ?_ (by rw [ltr_len]; exact hsz)
  intro D2 h2 F2 N2 k2 n2 t2 c2
  k_steps
  exact tells_sv hret (by assumption) (by assumption) (fun _ hp => hp) (tup_ints t2 hI)
end
end
section
noncomputable def slashS : Str := Str.ofString "/"
noncomputable def gtS : Str := Str.ofString ">"
noncomputable def noSlash (x : Str) : Bool := (Builtin.Str.occurrences x (Str.ofString "/") 0 x.length 1).isEmpty
/-- the row that a word stands for -/
noncomputable def rowW (x : Str) : Str × Option (List Int × List Int) :=
  if noSlash x = true then (x, none) else match Txt.split x (Str.ofString "/") with
  | [form, told] => match Txt.split told (Str.ofString ">") with
    | [a, b] => (form, some (ltrS a, ltrS b))
    | _ => (x, none)
  | _ => (x, none)
noncomputable def wordOk (x : Str) : Bool := noSlash x || match Txt.split x (Str.ofString "/") with
  | [_, told] => match Txt.split told (Str.ofString ">") with
    | [a, b] => a.cps.toList.all ltrOk && b.cps.toList.all ltrOk && decide (x.length ≤ 1000 ∧ told.length ≤ 1000 ∧ a.length ≤ 1000 ∧ b.length ≤ 1000)
    | _ => false
  | _ => false
theorem thousand {n : Nat} (h : n ≤ 1000) : n + 2 ≤ sizeLine := by rw [sizeLine_eq]; omega
section
variable {prog : Program} {w : World} {A : Around} {E : Value → Shared → Prop} {s : Shared} {h₀ : Heap} {L : Addr} {m : Str → Option Value} {news : List (Addr × Obj)} {x y p q : Str} {t u : Tok} {Q : Value → Shared → Prop}
theorem split_two (hF : Fr h₀ L s.heap m) (hN : News h₀ L s.heap news) (hy : (y.length == 0) = false) (hs : Txt.split x y = [p, q]) (hsz : x.length ≤ 1000)
    (h : ∀ D t1 t2 h' k, Fr h₀ L h' m → News h₀ L h' ((D, listOf [Value.str p t1, Value.str q t2].toArray 0) :: news) → (∀ p ∈ news, p.1 < D) → Q (.ref D) { s with heap := h', toks := k }) :
    wpAny (model prog w) A (call (.builtin "str.split") [.str x t, .str y u]) Q E s :=
  KSpl.split1 hF hN hy (fun D l h' k e _ F N l1 => by
    rw [hs] at e
    obtain ⟨t1, l', e1, ee⟩ := KSpl.cons_of e
    obtain ⟨t2, l'', e2, e3⟩ := KSpl.cons_of ee
    have e0 := KSpl.nil_of e3
    subst e0 e2 e1
    exact h D t1 t2 h' k F N l1) (thousand hsz)
end
section
set_option maxHeartbeats 4000000 in
theorem row_a (x : Str) (tk : Tok) (hx : (Builtin.Str.occurrences x (Str.ofString "/") 0 x.length 1).isEmpty = true) : Tells 4 186 [.str x tk] (rowD (x, none)) := by
  unfold Tells
  k_fill
  w_top off
  (have zz0 : Stop "call builtin:str.split" := trivial)
  (have zz1 : Stop "call ref" := trivial)
  intro w mean mg mb dp un gd cn cs a ccd cl outer A₀ base h₀ L m news s Q E B F X N T hk hdp hun hret
  refine wpAny_call ?_
  (first | k_dflt cell_enter | fail "not entered")
  (rename Fr _ _ _ _ => f0)
  (with_reducible refine short f0 ?_)
  clear f0
  intro m₀ e₀ B₀ gs₀ dr₀ os₀ t₀ f0
  k_steps
  rename News _ _ _ _ => kN
  exact tells_led (tl := [_]) hret (by assumption) kN (fun _ hp => hp) (fun p hp => by rw [List.mem_singleton.mp hp]; exact ⟨_, _, rfl, rfl⟩) (sup_pair (.head _) rfl rfl (.str _ _) .none)
set_option maxHeartbeats 4000000 in
theorem row_b (x form told a' b' : Str) (tk : Tok) (hx : (Builtin.Str.occurrences x (Str.ofString "/") 0 x.length 1).isEmpty = false) (h1 : Txt.split x (Str.ofString "/") = [form, told]) (h2 : Txt.split told (Str.ofString ">") = [a', b']) (o1 : a'.cps.toList.all ltrOk = true) (o2 : b'.cps.toList.all ltrOk = true)
    (z1 : x.length ≤ 1000) (z2 : told.length ≤ 1000) (z3 : a'.length ≤ 1000) (z4 : b'.length ≤ 1000) : Tells 4 186 [.str x tk] (rowD (form, some (ltrS a', ltrS b'))) := by
  unfold Tells
  k_fill
  w_top off
  (have zz0 : Stop "call builtin:str.split" := trivial)
  (have zz1 : Stop "call ref" := trivial)
  intro w mean mg mb dp un gd cn cs a ccd cl outer A₀ base h₀ L m news s Q E B F X N T hk hdp hun hret
  refine wpAny_call ?_
  (first | k_dflt cell_enter | fail "not entered")
  (rename Fr _ _ _ _ => f0)
  (with_reducible refine short f0 ?_)
  clear f0
  intro m₀ e₀ B₀ gs₀ dr₀ os₀ t₀ f0
  k_steps
  refine Wait.out ?_
  refine split_two (by k_asm) (by k_asm) (by decide) h1 z1 (fun D1 t1 t2 g1 q1 F1 N1 l1 => ?_)
  k_steps
  refine Wait.out ?_
  refine split_two (by k_asm) (by k_asm) (by decide) h2 z2 (fun D2 t3 t4 g2 q2 F2 N2 l2 => ?_)
  k_steps
  refine Wait.out ?_
  refine use_any (let_tells _ _ o1 (Nat.le_of_add_right_le (thousand z3))) (by k_asm) (by k_asm) (by k_asm) (by k_asm) (by k_asm) rfl (Nat.lt_of_succ_lt hdp) (un42 hun) (fun v3 tl3 g3 q3 F3 N3 K3 S3 => ?_)
  k_steps
  refine Wait.out ?_
  refine use_any (let_tells _ _ o2 (Nat.le_of_add_right_le (thousand z4))) (by k_asm) (by k_asm) (by k_asm) (by k_asm) (by k_asm) rfl (Nat.lt_of_succ_lt hdp) (un42 hun) (fun v4 tl4 g4 q4 F4 N4 K4 S4 => ?_)
  k_steps
  rename News h₀ _ _ _ => kN
  exact tells_deep (tl := [(_, { cls := .type "tuple", data := .seq [.str form t1, .ref _].toArray }), (_, { cls := .type "tuple", data := .seq [v3, v4].toArray })] ++ (tl4 ++ tl3)) hret (by assumption) kN (fun p hp => .tail _ (.tail _ (List.mem_append_right _ (List.mem_append_right _ (.tail _ (.tail _ hp))))))
    (sup_pair (.head _) rfl rfl (.str _ _) (sup_pair (.tail _ (.head _)) rfl rfl (S3.mono fun p hp => .tail _ (.tail _ (List.mem_append_right _ hp))) (S4.mono fun p hp => .tail _ (.tail _ (List.mem_append_left _ hp)))))
    (Has.at (by assumption) (by assumption) (fun p hp => by
      rcases List.mem_append.mp hp with hp | hp
      · rcases List.mem_cons.mp hp with rfl | hp
        · exact .head _
        · rw [List.mem_singleton.mp hp]; exact .tail _ (.head _)
      · rcases List.mem_append.mp hp with hp | hp
        · exact .tail _ (.tail _ (List.mem_append_left _ hp))
        · exact .tail _ (.tail _ (List.mem_append_right _ (List.mem_append_left _ hp)))))
theorem row_tells (x : Str) (tk : Tok) (h : wordOk x = true) : Tells 4 186 [.str x tk] (rowD (rowW x)) := by
  unfold wordOk at h
  unfold rowW
  cases hn : noSlash x with
  | true => rw [if_pos rfl]; exact row_a x tk hn
  | false =>
    rw [if_neg (by decide)]
    rw [hn, Bool.false_or] at h
    split at h
    · rename_i form told h1
      (try rw [h1])
      (try dsimp only)
      split at h
      · rename_i a b h2
        (try rw [h2])
        (try dsimp only)
        simp only [Bool.and_eq_true, decide_eq_true_eq] at h
        exact row_b x form told a b tk hn h1 h2 h.1.1 h.1.2 h.2.1 h.2.2.1 h.2.2.2.1 h.2.2.2.2
      · cases h
    · cases h
end
end
section
/-! a text cut at each sign c, in plain lists -/
noncomputable def cutAt (c : Nat) : List Nat → List (List Nat)
  | [] => [[]]
  | a :: r => if a = c then [] :: cutAt c r else match cutAt c r with
    | [] => [[a]]
    | h :: t => (a :: h) :: t
noncomputable def glueAt (c : Nat) : List (List Nat) → List Nat
  | [] => []
  | [x] => x
  | x :: rest => x ++ c :: glueAt c rest
theorem cut_step {c : Nat} : ∀ (x : List Nat) {y : List Nat}, c ∉ x → cutAt c (x ++ c :: y) = x :: cutAt c y
  | [], y, _ => by simp [cutAt]
  | a :: x, y, h => by
    have h1 : ¬ a = c := fun e => h (e ▸ .head _)
    have h2 : c ∉ x := fun e => h (.tail _ e)
    simp [cutAt, h1, cut_step x h2]
theorem cut_one {c : Nat} : ∀ (x : List Nat), c ∉ x → cutAt c x = [x]
  | [], _ => rfl
  | a :: x, h => by
    have h1 : ¬ a = c := fun e => h (e ▸ .head _)
    have h2 : c ∉ x := fun e => h (.tail _ e)
    simp [cutAt, h1, cut_one x h2]
theorem cut_glue {c : Nat} : ∀ (l : List (List Nat)), l ≠ [] → (∀ x ∈ l, c ∉ x) → cutAt c (glueAt c l) = l
  | [], h, _ => absurd rfl h
  | [x], _, h => cut_one x (h x (.head _))
  | x :: y :: r, _, h => by
    show cutAt c (x ++ c :: glueAt c (y :: r)) = _
    rw [cut_step x (h x (.head _)), cut_glue (y :: r) (by simp) fun z hz => h z (.tail _ hz)]
theorem glue_join {c : Nat} : ∀ l : List Str, (Str.join ⟨#[c]⟩ l).cps.toList = glueAt c (l.map fun x => x.cps.toList)
  | [] => rfl
  | [x] => rfl
  | x :: y :: r => by
    have e : Str.join ⟨#[c]⟩ (x :: y :: r) = x ++ ⟨#[c]⟩ ++ Str.join ⟨#[c]⟩ (y :: r) := rfl
    rw [e, PySem.Str.cps_append, PySem.Str.cps_append, Array.toList_append, Array.toList_append, glue_join (y :: r)]
    simp [glueAt]
theorem split_cut (x : Str) (c : Nat) : Txt.split x ⟨#[c]⟩ = (cutAt c x.cps.toList).map fun l => ⟨l.toArray⟩ := by
  have e : (Str.join ⟨#[c]⟩ (Txt.split x ⟨#[c]⟩)).cps.toList = x.cps.toList := by rw [StrLaws.join_split]
  rw [glue_join] at e
  have hne : Txt.split x ⟨#[c]⟩ ≠ [] := fun h => by
    have := split_pos x ⟨#[c]⟩
    rw [h] at this
    simp at this
  rw [← e, cut_glue _ (by simpa using hne) (fun z hz => by
    obtain ⟨p, hp, rfl⟩ := List.mem_map.mp hz
    exact StrLaws.split_free x c p hp), List.map_map]
  exact (List.map_id _).symm
/-- the law's own rows: the first code, the words, how many entries stand ahead -/
noncomputable def wordsL : List (Int × Str × Nat) :=
  [(0, Str.mk #[110, 111, 110, 101, 32, 110, 111, 110, 101, 47, 62, 32, 98, 108, 111, 99, 107, 32, 98, 108, 111, 99, 107, 32, 98, 108, 111, 99, 107, 32, 110, 111, 110, 101], 0),
   (11, Str.mk #[110, 111, 110, 101, 32, 108, 97, 98, 101, 108, 32, 108, 97, 98, 101, 108, 32, 108, 97, 98, 101, 108, 115, 32, 110, 111, 110, 101, 32, 102, 117, 110, 99, 32, 105, 110, 100, 105, 114, 101, 99, 116, 32, 102, 117, 110, 99, 32, 105, 110, 100, 105, 114, 101, 99, 116], 6),
   (26, Str.mk #[110, 111, 110, 101, 32, 110, 111, 110, 101, 32, 107, 105, 110, 100, 115], 15),
   (32, Str.mk #[108, 111, 99, 97, 108, 32, 108, 111, 99, 97, 108, 32, 108, 111, 99, 97, 108, 32, 103, 108, 111, 98, 97, 108, 32, 103, 108, 111, 98, 97, 108, 32, 116, 97, 98, 108, 101, 32, 116, 97, 98, 108, 101], 18),
   (40, Str.mk #[109, 101, 109, 97, 114, 103, 47, 105, 62, 105, 32, 109, 101, 109, 97, 114, 103, 47, 105, 62, 73], 25),
   (44, Str.mk #[109, 101, 109, 97, 114, 103, 47, 105, 62, 105, 32, 109, 101, 109, 97, 114, 103, 47, 105, 62, 105, 32, 109, 101, 109, 97, 114, 103, 47, 105, 62, 105, 32, 109, 101, 109, 97, 114, 103, 47, 105, 62, 105, 32, 109, 101, 109, 97, 114, 103, 47, 105, 62, 73, 32, 109, 101, 109, 97, 114, 103, 47, 105, 62, 73, 32, 109, 101, 109, 97, 114, 103, 47, 105, 62, 73, 32, 109, 101, 109, 97, 114, 103, 47, 105, 62, 73, 32, 109, 101, 109, 97, 114, 103, 47, 105, 62, 73, 32, 109, 101, 109, 97, 114, 103, 47, 105, 62, 73], 27),
   (54, Str.mk #[109, 101, 109, 97, 114, 103, 47, 105, 105, 62, 32, 109, 101, 109, 97, 114, 103, 47, 105, 73, 62], 37),
   (58, Str.mk #[109, 101, 109, 97, 114, 103, 47, 105, 105, 62, 32, 109, 101, 109, 97, 114, 103, 47, 105, 105, 62, 32, 109, 101, 109, 97, 114, 103, 47, 105, 73, 62, 32, 109, 101, 109, 97, 114, 103, 47, 105, 73, 62, 32, 109, 101, 109, 97, 114, 103, 47, 105, 73, 62, 32, 109, 101, 109, 111, 114, 121, 47, 62, 105, 32, 109, 101, 109, 111, 114, 121, 47, 105, 62, 105, 32, 105, 51, 50, 47, 62, 105, 32, 105, 54, 52, 47, 62, 73], 39),
   (69, Str.mk #[110, 111, 110, 101, 47, 105, 62, 105, 32, 110, 111, 110, 101, 47, 105, 105, 62, 105, 32, 110, 111, 110, 101, 47, 105, 105, 62, 105, 32, 110, 111, 110, 101, 47, 105, 105, 62, 105, 32, 110, 111, 110, 101, 47, 105, 105, 62, 105, 32, 110, 111, 110, 101, 47, 105, 105, 62, 105, 32, 110, 111, 110, 101, 47, 105, 105, 62, 105, 32, 110, 111, 110, 101, 47, 105, 105, 62, 105, 32, 110, 111, 110, 101, 47, 105, 105, 62, 105, 32, 110, 111, 110, 101, 47, 105, 105, 62, 105, 32, 110, 111, 110, 101, 47, 105, 105, 62, 105, 32, 110, 111, 110, 101, 47, 73, 62, 105, 32, 110, 111, 110, 101, 47, 73, 73, 62, 105, 32, 110, 111, 110, 101, 47, 73, 73, 62, 105, 32, 110, 111, 110, 101, 47, 73, 73, 62, 105, 32, 110, 111, 110, 101, 47, 73, 73, 62, 105, 32, 110, 111, 110, 101, 47, 73, 73, 62, 105, 32, 110, 111, 110, 101, 47, 73, 73, 62, 105, 32, 110, 111, 110, 101, 47, 73, 73, 62, 105, 32, 110, 111, 110, 101, 47, 73, 73, 62, 105, 32, 110, 111, 110, 101, 47, 73, 73, 62, 105, 32, 110, 111, 110, 101, 47, 73, 73, 62, 105], 48),
   (103, Str.mk #[110, 111, 110, 101, 47, 105, 62, 105, 32, 110, 111, 110, 101, 47, 105, 62, 105, 32, 110, 111, 110, 101, 47, 105, 62, 105, 32, 110, 111, 110, 101, 47, 105, 105, 62, 105, 32, 110, 111, 110, 101, 47, 105, 105, 62, 105, 32, 110, 111, 110, 101, 47, 105, 105, 62, 105, 32, 110, 111, 110, 101, 47, 105, 105, 62, 105, 32, 110, 111, 110, 101, 47, 105, 105, 62, 105, 32, 110, 111, 110, 101, 47, 105, 105, 62, 105, 32, 110, 111, 110, 101, 47, 105, 105, 62, 105, 32, 110, 111, 110, 101, 47, 105, 105, 62, 105, 32, 110, 111, 110, 101, 47, 105, 105, 62, 105, 32, 110, 111, 110, 101, 47, 105, 105, 62, 105, 32, 110, 111, 110, 101, 47, 105, 105, 62, 105, 32, 110, 111, 110, 101, 47, 105, 105, 62, 105, 32, 110, 111, 110, 101, 47, 105, 105, 62, 105, 32, 110, 111, 110, 101, 47, 105, 105, 62, 105, 32, 110, 111, 110, 101, 47, 105, 105, 62, 105, 32, 110, 111, 110, 101, 47, 73, 62, 73, 32, 110, 111, 110, 101, 47, 73, 62, 73, 32, 110, 111, 110, 101, 47, 73, 62, 73, 32, 110, 111, 110, 101, 47, 73, 73, 62, 73, 32, 110, 111, 110, 101, 47, 73, 73, 62, 73, 32, 110, 111, 110, 101, 47, 73, 73, 62, 73, 32, 110, 111, 110, 101, 47, 73, 73, 62, 73, 32, 110, 111, 110, 101, 47, 73, 73, 62, 73, 32, 110, 111, 110, 101, 47, 73, 73, 62, 73, 32, 110, 111, 110, 101, 47, 73, 73, 62, 73, 32, 110, 111, 110, 101, 47, 73, 73, 62, 73, 32, 110, 111, 110, 101, 47, 73, 73, 62, 73, 32, 110, 111, 110, 101, 47, 73, 73, 62, 73, 32, 110, 111, 110, 101, 47, 73, 73, 62, 73, 32, 110, 111, 110, 101, 47, 73, 73, 62, 73, 32, 110, 111, 110, 101, 47, 73, 73, 62, 73, 32, 110, 111, 110, 101, 47, 73, 73, 62, 73, 32, 110, 111, 110, 101, 47, 73, 73, 62, 73], 70),
   (167, Str.mk #[110, 111, 110, 101, 47, 73, 62, 105], 106),
   (172, Str.mk #[110, 111, 110, 101, 47, 105, 62, 73, 32, 110, 111, 110, 101, 47, 105, 62, 73], 107),
   (192, Str.mk #[110, 111, 110, 101, 47, 105, 62, 105, 32, 110, 111, 110, 101, 47, 105, 62, 105, 32, 110, 111, 110, 101, 47, 73, 62, 73, 32, 110, 111, 110, 101, 47, 73, 62, 73, 32, 110, 111, 110, 101, 47, 73, 62, 73], 109),
   (208, Str.mk #[114, 101, 102, 107, 105, 110, 100, 32, 110, 111, 110, 101, 32, 102, 117, 110, 99, 47, 62, 102], 114),
   (64520, Str.mk #[109, 101, 109, 111, 114, 121, 95, 105, 110, 105, 116, 47, 105, 105, 105, 62, 32, 100, 97, 116, 97, 47, 62, 32, 116, 119, 111, 95, 109, 101, 109, 111, 114, 105, 101, 115, 47, 105, 105, 105, 62, 32, 109, 101, 109, 111, 114, 121, 47, 105, 105, 105, 62, 32, 116, 97, 98, 108, 101, 95, 105, 110, 105, 116, 47, 105, 105, 105, 62, 32, 101, 108, 101, 109, 47, 62, 32, 116, 97, 98, 108, 101, 95, 99, 111, 112, 121, 47, 105, 105, 105, 62, 32, 116, 97, 98, 108, 101, 32, 116, 97, 98, 108, 101, 47, 62, 105, 32, 116, 97, 98, 108, 101], 117)]
noncomputable def wordTab : List (Str × (Str × Option (List Int × List Int))) :=
  [(Str.mk #[110, 111, 110, 101], (Str.mk #[110, 111, 110, 101], none)),
   (Str.mk #[110, 111, 110, 101, 47, 62], (Str.mk #[110, 111, 110, 101], some ([], []))),
   (Str.mk #[98, 108, 111, 99, 107], (Str.mk #[98, 108, 111, 99, 107], none)),
   (Str.mk #[108, 97, 98, 101, 108], (Str.mk #[108, 97, 98, 101, 108], none)),
   (Str.mk #[108, 97, 98, 101, 108, 115], (Str.mk #[108, 97, 98, 101, 108, 115], none)),
   (Str.mk #[102, 117, 110, 99], (Str.mk #[102, 117, 110, 99], none)),
   (Str.mk #[105, 110, 100, 105, 114, 101, 99, 116], (Str.mk #[105, 110, 100, 105, 114, 101, 99, 116], none)),
   (Str.mk #[107, 105, 110, 100, 115], (Str.mk #[107, 105, 110, 100, 115], none)),
   (Str.mk #[108, 111, 99, 97, 108], (Str.mk #[108, 111, 99, 97, 108], none)),
   (Str.mk #[103, 108, 111, 98, 97, 108], (Str.mk #[103, 108, 111, 98, 97, 108], none)),
   (Str.mk #[116, 97, 98, 108, 101], (Str.mk #[116, 97, 98, 108, 101], none)),
   (Str.mk #[109, 101, 109, 97, 114, 103, 47, 105, 62, 105], (Str.mk #[109, 101, 109, 97, 114, 103], some ([(-1)], [(-1)]))),
   (Str.mk #[109, 101, 109, 97, 114, 103, 47, 105, 62, 73], (Str.mk #[109, 101, 109, 97, 114, 103], some ([(-1)], [(-2)]))),
   (Str.mk #[109, 101, 109, 97, 114, 103, 47, 105, 105, 62], (Str.mk #[109, 101, 109, 97, 114, 103], some ([(-1), (-1)], []))),
   (Str.mk #[109, 101, 109, 97, 114, 103, 47, 105, 73, 62], (Str.mk #[109, 101, 109, 97, 114, 103], some ([(-1), (-2)], []))),
   (Str.mk #[109, 101, 109, 111, 114, 121, 47, 62, 105], (Str.mk #[109, 101, 109, 111, 114, 121], some ([], [(-1)]))),
   (Str.mk #[109, 101, 109, 111, 114, 121, 47, 105, 62, 105], (Str.mk #[109, 101, 109, 111, 114, 121], some ([(-1)], [(-1)]))),
   (Str.mk #[105, 51, 50, 47, 62, 105], (Str.mk #[105, 51, 50], some ([], [(-1)]))),
   (Str.mk #[105, 54, 52, 47, 62, 73], (Str.mk #[105, 54, 52], some ([], [(-2)]))),
   (Str.mk #[110, 111, 110, 101, 47, 105, 62, 105], (Str.mk #[110, 111, 110, 101], some ([(-1)], [(-1)]))),
   (Str.mk #[110, 111, 110, 101, 47, 105, 105, 62, 105], (Str.mk #[110, 111, 110, 101], some ([(-1), (-1)], [(-1)]))),
   (Str.mk #[110, 111, 110, 101, 47, 73, 62, 105], (Str.mk #[110, 111, 110, 101], some ([(-2)], [(-1)]))),
   (Str.mk #[110, 111, 110, 101, 47, 73, 73, 62, 105], (Str.mk #[110, 111, 110, 101], some ([(-2), (-2)], [(-1)]))),
   (Str.mk #[110, 111, 110, 101, 47, 73, 62, 73], (Str.mk #[110, 111, 110, 101], some ([(-2)], [(-2)]))),
   (Str.mk #[110, 111, 110, 101, 47, 73, 73, 62, 73], (Str.mk #[110, 111, 110, 101], some ([(-2), (-2)], [(-2)]))),
   (Str.mk #[110, 111, 110, 101, 47, 105, 62, 73], (Str.mk #[110, 111, 110, 101], some ([(-1)], [(-2)]))),
   (Str.mk #[114, 101, 102, 107, 105, 110, 100], (Str.mk #[114, 101, 102, 107, 105, 110, 100], none)),
   (Str.mk #[102, 117, 110, 99, 47, 62, 102], (Str.mk #[102, 117, 110, 99], some ([], [(-16)]))),
   (Str.mk #[109, 101, 109, 111, 114, 121, 95, 105, 110, 105, 116, 47, 105, 105, 105, 62], (Str.mk #[109, 101, 109, 111, 114, 121, 95, 105, 110, 105, 116], some ([(-1), (-1), (-1)], []))),
   (Str.mk #[100, 97, 116, 97, 47, 62], (Str.mk #[100, 97, 116, 97], some ([], []))),
   (Str.mk #[116, 119, 111, 95, 109, 101, 109, 111, 114, 105, 101, 115, 47, 105, 105, 105, 62], (Str.mk #[116, 119, 111, 95, 109, 101, 109, 111, 114, 105, 101, 115], some ([(-1), (-1), (-1)], []))),
   (Str.mk #[109, 101, 109, 111, 114, 121, 47, 105, 105, 105, 62], (Str.mk #[109, 101, 109, 111, 114, 121], some ([(-1), (-1), (-1)], []))),
   (Str.mk #[116, 97, 98, 108, 101, 95, 105, 110, 105, 116, 47, 105, 105, 105, 62], (Str.mk #[116, 97, 98, 108, 101, 95, 105, 110, 105, 116], some ([(-1), (-1), (-1)], []))),
   (Str.mk #[101, 108, 101, 109, 47, 62], (Str.mk #[101, 108, 101, 109], some ([], []))),
   (Str.mk #[116, 97, 98, 108, 101, 95, 99, 111, 112, 121, 47, 105, 105, 105, 62], (Str.mk #[116, 97, 98, 108, 101, 95, 99, 111, 112, 121], some ([(-1), (-1), (-1)], []))),
   (Str.mk #[116, 97, 98, 108, 101, 47, 62, 105], (Str.mk #[116, 97, 98, 108, 101], some ([], [(-1)])))]
theorem blank_one : Str.ofString " " = ⟨#[32]⟩ := by decide +kernel
theorem wordTab_ok : (wordTab.all fun p => wordOk p.1 && decide (rowW p.1 = p.2)) = true := by decide +kernel
noncomputable def nextAt (i : Nat) : Nat := ((wordsL[i]?).map (·.2.2)).getD 127
noncomputable def partOk (i : Nat) (p : Int × Str × Nat) : List (List Nat) → Nat → Bool
  | [], k => decide (nextAt (i + 1) = p.2.2 + k)
  | y :: r, k => (match wordTab.find? (fun q => q.1.cps.toList == y) with
      | some q => decide (rowsL[p.2.2 + k]? = some (p.1 + (k : Int), q.2))
      | none => false) && partOk i p r (k + 1)
theorem parts_ok : (wordsL.zipIdx.all fun q => decide (q.1.2.1.cps.toList.length ≤ 1000) && partOk q.2 q.1 (cutAt 32 q.1.2.1.cps.toList) 0) = true := by decide +kernel
theorem rows_nodup : (rowsL.map (·.1)).Nodup := by decide +kernel
theorem partOk_at {i : Nat} {p : Int × Str × Nat} : ∀ {l : List (List Nat)} {k : Nat}, partOk i p l k = true →
    nextAt (i + 1) = p.2.2 + (k + l.length) ∧ ∀ (j : Nat) (y : List Nat), l[j]? = some y → ∃ q ∈ wordTab, q.1.cps.toList = y ∧ rowsL[p.2.2 + (k + j)]? = some (p.1 + ((k + j : Nat) : Int), q.2)
  | [], k, h => ⟨by simpa [partOk] using h, fun j y e => by simp at e⟩
  | z :: r, k, h => by
    unfold partOk at h
    rw [Bool.and_eq_true] at h
    obtain ⟨h1, h2⟩ := h
    obtain ⟨a, b⟩ := partOk_at h2
    refine ⟨by rw [a]; simp; omega, fun j y e => ?_⟩
    cases j with
    | zero =>
      have e' : z = y := Option.some.inj e
      subst e'
      split at h1
      · rename_i q hq
        refine ⟨q, List.mem_of_find?_eq_some hq, by simpa using List.find?_some hq, ?_⟩
        simpa using h1
      · cases h1
    | succ j =>
      obtain ⟨q, m, e1, e2⟩ := b j y (by simpa using e)
      refine ⟨q, m, e1, ?_⟩
      have ez : k + 1 + j = k + (j + 1) := by omega
      rw [ez] at e2
      exact e2
/-- what the rows say, whole -/
theorem rows_at {i : Nat} {p : Int × Str × Nat} (h : wordsL[i]? = some p) : p.2.1.length ≤ 1000 ∧ nextAt (i + 1) = p.2.2 + (Txt.split p.2.1 (Str.ofString " ")).length ∧
    ∀ (j : Nat) (y : Str), (Txt.split p.2.1 (Str.ofString " "))[j]? = some y → wordOk y = true ∧ rowsL[p.2.2 + j]? = some (p.1 + (j : Int), rowW y) := by
  have hz : (p, i) ∈ wordsL.zipIdx := List.mem_zipIdx_iff_getElem?.mpr h
  have := List.all_eq_true.mp parts_ok _ hz
  rw [Bool.and_eq_true] at this
  obtain ⟨h1, h2⟩ := this
  obtain ⟨a, b⟩ := partOk_at h2
  rw [blank_one, split_cut]
  refine ⟨by simpa [Str.length] using h1, by simpa using a, fun j y e => ?_⟩
  rw [List.getElem?_map] at e
  obtain ⟨l, hl, rfl⟩ := Option.map_eq_some_iff.mp e
  obtain ⟨q, hm, e1, e2⟩ := b j l hl
  have eq : q.1 = ⟨l.toArray⟩ := by rw [← e1]
  have hq := List.all_eq_true.mp wordTab_ok q hm
  rw [Bool.and_eq_true, decide_eq_true_eq] at hq
  rw [← eq]
  refine ⟨hq.1, ?_⟩
  rw [hq.2]
  simpa using e2
end
section
abbrev RowsAre (h₀ : Heap) (tl : List (Addr × Obj)) (vs : List Value) (ps : List (Int × Str × Nat)) : Prop :=
  vs.length = ps.length ∧ ∀ (i : Nat) (v : Value), vs[i]? = some v → ∃ p, ps[i]? = some p ∧ Sup h₀ tl v (.tuple [.int p.1, .str p.2.1])
theorem rows_nil {h₀ : Heap} {tl : List (Addr × Obj)} : RowsAre h₀ tl [] [] := ⟨rfl, fun _ _ e => nomatch e⟩
theorem rows_cons {h₀ : Heap} {tl : List (Addr × Obj)} {v : Value} {p : Int × Str × Nat} {vs : List Value} {ps : List (Int × Str × Nat)} (S : Sup h₀ tl v (.tuple [.int p.1, .str p.2.1])) (R : RowsAre h₀ tl vs ps) : RowsAre h₀ tl (v :: vs) (p :: ps) :=
  ⟨congrArg (· + 1) R.1, fun i x e => by
    cases i with
    | zero => rw [← Option.some.inj (show some v = some x from e)]; exact ⟨p, rfl, S⟩
    | succ i => exact R.2 i x e⟩
theorem sup_row {h₀ : Heap} {tl : List (Addr × Obj)} {D : Addr} {n : Nat} {f : Int} {x y : Str} {t u : Tok} (hm : (D, { cls := .type "tuple", data := .seq #[.int f t, .str x u] n }) ∈ tl) (e : x = y) : Sup h₀ tl (.ref D) (.tuple [.int f, .str y]) := by
  subst e
  exact sup_pair hm rfl rfl (.int _ _) (.str _ _)
theorem lit_row {x : Str} {l : List Char} {y : Array Nat} (e : x = Str.ofString (String.ofList l)) (h : (l.map Char.toNat).toArray = y) : x = ⟨y⟩ := by
  rw [e, PySem.W.Fast.ofString_ofList, h]
theorem fold_app : ∀ (l : List (Array Nat)) (acc : Array Nat), (l.foldl (· ++ ·) acc).toList = acc.toList ++ (l.map Array.toList).flatten
  | [], acc => by simp
  | a :: l, acc => by rw [List.foldl_cons, fold_app l]; simp
theorem mul_list {x : Str} {n : Int} (h1 : ¬ n < 1) (h2 : (n == 1 || x.length == 0) = false) : (Txt.mul x n).cps.toList = (List.replicate n.toNat x.cps.toList).flatten := by
  unfold Txt.mul
  rw [if_neg h1, if_neg (by rw [h2]; decide)]
  show ((List.replicate n.toNat x.cps).foldl (· ++ ·) #[]).toList = _
  rw [fold_app, List.map_replicate]
  simp
theorem comp_row {x₁ x₂ x₃ x₄ a₁ a₂ a₃ a₄ y : Str} (h₁ : x₁ = a₁) (h₂ : x₂ = a₂) (h₃ : x₃ = a₃) (h₄ : x₄ = a₄) (n₂ : (a₂.length == 0) = false) (n₃ : (a₃.length == 0) = false) (n₄ : (a₄.length == 0) = false)
    (e : a₁.cps.toList ++ (List.replicate 15 a₂.cps.toList).flatten ++ (List.replicate 3 a₃.cps.toList).flatten ++ (List.replicate 15 a₄.cps.toList).flatten = y.cps.toList) : x₁ ++ Txt.mul x₂ 15 ++ Txt.mul x₃ 3 ++ Txt.mul x₄ 15 = y := by
  rw [h₁, h₂, h₃, h₄]
  refine PySem.Str.ext' (Array.toList_inj.mp ?_)
  rw [PySem.Str.cps_append, PySem.Str.cps_append, PySem.Str.cps_append, Array.toList_append, Array.toList_append, Array.toList_append, mul_list (by decide) (by rw [n₂]; rfl), mul_list (by decide) (by rw [n₃]; rfl), mul_list (by decide) (by rw [n₄]; rfl)]
  exact e
theorem comp_row2 {x₁ x₂ x₃ x₄ a₁ a₂ a₃ a₄ y : Str} (h₁ : x₁ = a₁) (h₂ : x₂ = a₂) (h₃ : x₃ = a₃) (h₄ : x₄ = a₄) (n₂ : (a₂.length == 0) = false) (n₄ : (a₄.length == 0) = false)
    (e : a₁.cps.toList ++ (List.replicate 10 a₂.cps.toList).flatten ++ a₃.cps.toList ++ (List.replicate 10 a₄.cps.toList).flatten = y.cps.toList) : x₁ ++ Txt.mul x₂ 10 ++ x₃ ++ Txt.mul x₄ 10 = y := by
  rw [h₁, h₂, h₃, h₄]
  refine PySem.Str.ext' (Array.toList_inj.mp ?_)
  rw [PySem.Str.cps_append, PySem.Str.cps_append, PySem.Str.cps_append, Array.toList_append, Array.toList_append, Array.toList_append, mul_list (by decide) (by rw [n₂]; rfl), mul_list (by decide) (by rw [n₄]; rfl)]
  exact e
theorem cut_row {f : Str → Str} {x a y : Str} (h : x = a) (e : f a = y) : f x = y := by rw [h, e]
abbrev WordsTells : Prop :=
  ∀ (w : World) (mean : ExcName → Option Value) (mg mb : Str → Option Value) (dp un : Nat) (gd : Option (List Code)) (cn : Str) (cs : Scope) (a : Addr) (ccd : Value) (cl : List (Str × Addr)) (outer : List Env) (A₀ : Around) (base h₀ : Heap) (L : Addr) (m : Str → Option Value) (news : List (Addr × Obj)) (s : Shared) (Q E : Value → Shared → Prop),
    Below A₀ base outer h₀ → Fr h₀ L s.heap m → (hd.heap_39 w.params).In h₀ → News h₀ L s.heap news → Top hd.view_39 Lo mean mg mb h₀ → cs.kind = .function →
    dp + 4 < recursionLimit → un + 400 < cLine →
    (∀ (b : Addr) (vs : List Value) (tl : List (Addr × Obj)) (h' : Heap) (tk' : Nat), Fr h₀ L h' m → News h₀ L h' ((b, listOf vs.toArray 0) :: (tl ++ news)) → (∀ p ∈ tl, isTupObj p.2) → RowsAre h₀ tl vs wordsL → Q (.ref b) { s with heap := h', toks := tk' }) →
    wpAny (model PySem.Challenge.rw_nm0114_01.row.prog w) (ktrTop dp un gd cn cs L a ccd cl outer) (call (.ref 174) []) Q E s
section
set_option maxHeartbeats 8000000 in
theorem words_tells : WordsTells := by
  unfold WordsTells
  k_fill
  w_top off
  have zz0 : Stop "newTuple" := trivial
  intro w mean mg mb dp un gd cn cs a ccd cl outer A₀ base h₀ L m news s Q E B F X N T hk hdp hun hret
  refine wpAny_call ?_
  (first | k_dflt cell_enter | fail "not entered")
  (rename Fr _ _ _ _ => f0)
  (with_reducible refine short f0 ?_)
  clear f0
  intro m₀ e₀ B₀ gs₀ dr₀ os₀ t₀ f0
  k_steps
  repeat
    refine Wait.out ?_
    (rename Fr _ _ _ _ => iF)
    (rename News _ _ _ _ => iN)
    (with_reducible refine kup_newTuple iF iN ?_ ?_)
    rotate_left
    kmk_size
    clear iF iN
    intro D' h' F' N' _
    (with_reducible refine reFN F' N' ?_)
    clear F' N'
    intro m' n' F' N'
    (try dsimp only)
    (try with_reducible refine tok_any ?_; intro t')
    k_steps
  rename News _ _ _ _ => kN
  rename Fr _ _ _ _ => kF
  refine hret _ [_, _, _, _, _, _, _, _, _, _, _, _, _, _, _] [_, _, _, _, _, _, _, _, _, _, _, _, _, _, _] _ _ kF kN ?g1 ?g2
  case g1 =>
    intro p hp
    simp only [List.mem_cons, List.not_mem_nil, or_false] at hp
    rcases hp with rfl | rfl | rfl | rfl | rfl | rfl | rfl | rfl | rfl | rfl | rfl | rfl | rfl | rfl | rfl
    all_goals exact ⟨_, _, rfl, rfl⟩
  case g2 =>
    unfold wordsL
    refine rows_cons (sup_row (by repeat (first | exact List.Mem.head _ | refine List.Mem.tail _ ?_)) (lit_row rfl rfl)) ?_
    refine rows_cons (sup_row (by repeat (first | exact List.Mem.head _ | refine List.Mem.tail _ ?_)) (lit_row rfl rfl)) ?_
    refine rows_cons (sup_row (by repeat (first | exact List.Mem.head _ | refine List.Mem.tail _ ?_)) (lit_row rfl rfl)) ?_
    refine rows_cons (sup_row (by repeat (first | exact List.Mem.head _ | refine List.Mem.tail _ ?_)) (lit_row rfl rfl)) ?_
    refine rows_cons (sup_row (by repeat (first | exact List.Mem.head _ | refine List.Mem.tail _ ?_)) (lit_row rfl rfl)) ?_
    refine rows_cons (sup_row (by repeat (first | exact List.Mem.head _ | refine List.Mem.tail _ ?_)) (cut_row (f := fun z => Txt.slice z (some 1) none) (lit_row rfl rfl) (by decide +kernel))) ?_
    refine rows_cons (sup_row (by repeat (first | exact List.Mem.head _ | refine List.Mem.tail _ ?_)) (lit_row rfl rfl)) ?_
    refine rows_cons (sup_row (by repeat (first | exact List.Mem.head _ | refine List.Mem.tail _ ?_)) (lit_row rfl rfl)) ?_
    refine rows_cons (sup_row (by repeat (first | exact List.Mem.head _ | refine List.Mem.tail _ ?_)) (comp_row2 (lit_row rfl rfl) (lit_row rfl rfl) (lit_row rfl rfl) (lit_row rfl rfl) (by decide +kernel) (by decide +kernel) (by decide +kernel))) ?_
    refine rows_cons (sup_row (by repeat (first | exact List.Mem.head _ | refine List.Mem.tail _ ?_)) (comp_row (lit_row rfl rfl) (lit_row rfl rfl) (lit_row rfl rfl) (lit_row rfl rfl) (by decide +kernel) (by decide +kernel) (by decide +kernel) (by decide +kernel))) ?_
    refine rows_cons (sup_row (by repeat (first | exact List.Mem.head _ | refine List.Mem.tail _ ?_)) (lit_row rfl rfl)) ?_
    refine rows_cons (sup_row (by repeat (first | exact List.Mem.head _ | refine List.Mem.tail _ ?_)) (lit_row rfl rfl)) ?_
    refine rows_cons (sup_row (by repeat (first | exact List.Mem.head _ | refine List.Mem.tail _ ?_)) (lit_row rfl rfl)) ?_
    refine rows_cons (sup_row (by repeat (first | exact List.Mem.head _ | refine List.Mem.tail _ ?_)) (lit_row rfl rfl)) ?_
    refine rows_cons (sup_row (by repeat (first | exact List.Mem.head _ | refine List.Mem.tail _ ?_)) (lit_row rfl rfl)) ?_
    exact rows_nil
end
end
section
noncomputable def rowsP : List (Int × PyData) := rowsL.map fun p => (p.1, rowD p.2)
theorem rowsP_at {j : Nat} {k : Int} {r : Str × Option (List Int × List Int)} (e : rowsL[j]? = some (k, r)) : rowsP[j]? = some (k, rowD r) := by
  unfold rowsP
  rw [List.getElem?_map, e]; rfl
theorem rowsP_nodup : (rowsP.map (·.1)).Nodup := by
  unfold rowsP
  rw [List.map_map]
  exact rows_nodup
theorem rowsP_look (c : Int) : lookI c rowsP = tabD c := lookI_map rowD c rowsL
section
variable {w : World} {A : Around} {E : Value → Shared → Prop} {s : Shared} {h₀ : Heap} {env : Env} {target : Expr} {body : List Stmt} {Q : Flow → Shared → Prop} {I l d : Addr} {lo : Obj} {fl base : List (Addr × Obj)} {M : Str → Option Value} {S : List Str}
theorem tab_outer {vs : List Value} {tlW : List (Addr × Obj)} {m : Str → Option Value} {n : List (Addr × Obj)} (R : RowsAre h₀ tlW vs wordsL) (htl : ∀ p ∈ tlW, p ∈ base) (start : TI S w h₀ rowsP M fl d base 0 m n) (hk : (l, lo) ∈ fl)
    (turn : ∀ (i : Nat) (f : Int) (x : Str) (j : Nat), wordsL[i]? = some (f, x, j) → ∀ (u : Str → Option Value) (o : Obj) (kvs : List (Int × Value)) (tups : List (Addr × Obj)), TFacts w h₀ rowsP o kvs tups j →
      ∀ T t1 t2 h tk oi, IsTup h T #[.int f t1, .str x t2] → Fr h₀ env.locals h (fun y => if S.contains y then u y else M y) → oi.cls = .type "list_iterator" → News h₀ env.locals h ((I, oi) :: (fl ++ (d, o) :: (tups ++ base))) →
      ∀ P : Flow → Shared → Prop, (∀ s₂, UnrEndW h₀ env.locals { s with heap := h, toks := tk } [(I, oi)] (fun m' n' => TI S w h₀ rowsP M fl d base (nextAt (i + 1)) m' n') s₂ → P .next s₂) →
      wpAny (model prg w) A (assign target env (.ref T)) (fun _ s₂ => wpAny (model prg w) A (execs body env) P E s₂) E { s with heap := h, toks := tk })
    (hlo : (d == sysModules) = false)
    (done : ∀ (u : Str → Option Value) (tl : List (Addr × Obj)) (h : Heap) (tk : Nat), DSup prg w h₀ tl d tabD →
      Fr h₀ env.locals h (fun y => if S.contains y then u y else M y) → News h₀ env.locals h (fl ++ (tl ++ base)) → Q .next { s with heap := h, toks := tk }) :
    ItemsRest prg w A E h₀ env target body Q s [(I, "list_iterator")] [(l, lo)] (vs.map .val) m n := by
  refine val_ind (fun i => TI S w h₀ rowsP M fl d base (nextAt i)) (fun i m n ⟨_, _, _, _, _, e, _⟩ => by subst e; exact ⟨List.mem_append_left _ hk, trivial⟩) ?_ ?_ vs 0 m n rfl (Nat.zero_le _) start
  · rintro i x hx m₁ n₁ ⟨u, o, kvs, tups, e1, e2, a⟩ h tk oi F ci N
    subst e1 e2
    obtain ⟨⟨f, y, j⟩, hp, Sx⟩ := R.2 i x hx
    have ej : nextAt i = j := by simp [nextAt, hp]
    rw [ej] at a
    obtain ⟨b, u1, u2, rfl, ht, q1, q2⟩ := sup_two Sx
    cases q1
    cases q2
    exact turn i f y j hp u o kvs tups a b _ _ h tk oi (ht _ (Has.at F N fun p hp => .tail _ (List.mem_append_right _ (.tail _ (List.mem_append_right _ (htl p hp)))))) F ci N _ fun _ y => y
  · rintro m₁ n₁ h tk ⟨u, o, kvs, tups, e1, e2, a⟩ F N
    subst e1 e2
    have e : nextAt vs.length = 127 := by rw [R.1]; rfl
    rw [e] at a
    exact done u ((d, o) :: tups) h tk ((a.dsup (Nat.le_of_eq rfl) hlo).congr rowsP_look) F N
/-- the end of an outer turn -/
theorem tab_lend {L : Addr} {o oi : Obj} {s₁ : Shared} {h' : Heap} {tk : Nat} {m' : Str → Option Value} {tups : List (Addr × Obj)} {kvs : List (Int × Value)} {j : Nat} (ex : List (Addr × Obj)) (fl : List (Addr × Obj)) (ci : oi.cls = .type "list_iterator") (F : Fr h₀ L h' m')
    (N : News h₀ L h' (ex ++ (I, oi) :: (fl ++ (d, o) :: (tups ++ base)))) (x : TFacts w h₀ rowsP o kvs tups j)
    (hfl : ∀ p ∈ fl, p.1 < I) (hb : ∀ p ∈ base, p.1 < I) (hm : ∀ y, S.contains y = false → m' y = M y) :
    UnrEndW h₀ L s₁ [(I, oi)] (fun m' n' => TI S w h₀ rowsP M fl d base j m' n') { s₁ with heap := h', toks := tk } := by
  refine ⟨h', tk, m', fl ++ (d, o) :: (tups ++ base), rfl, F, fun p hp => N p (List.mem_append_right _ hp), fun p hp q hq e => ?_, m', o, kvs, tups, ti_map hm, rfl, x⟩
  rw [List.mem_singleton.mp hq] at e
  have e' : p.1 = I := e
  have hp' := (N p (List.mem_append_right _ (.tail _ hp))).1
  have hi := (N (I, oi) (List.mem_append_right _ (.head _))).1
  rw [e'] at hp'
  have h2 : oi = p.2 := Option.some.inj (hi.symm.trans hp')
  rcases List.mem_append.mp hp with hp | hp
  · exact absurd (hfl p hp) (by rw [e']; exact Nat.lt_irrefl _)
  rcases List.mem_cons.mp hp with rfl | hp
  · exact (dict_not x.dict).2 ((show oi = o from h2) ▸ ci)
  rcases List.mem_append.mp hp with hp | hp
  · exact (tup_not (x.tup p hp)).2 (h2 ▸ ci)
  · exact absurd (hb p hp) (by rw [e']; exact Nat.lt_irrefl _)
end
theorem str_at {l : List (Str × Tok)} {ss : List Str} (e : l.map (·.1) = ss) {i : Nat} {v : Value} (h : (strValues l)[i]? = some v) : ∃ y t, v = .str y t ∧ ss[i]? = some y := by
  subst e
  unfold strValues at h
  rw [List.getElem?_map] at h
  obtain ⟨⟨y, t⟩, hp, rfl⟩ := Option.map_eq_some_iff.mp h
  exact ⟨y, t, rfl, by rw [List.getElem?_map, hp]; rfl⟩
theorem strs_len {l : List (Str × Tok)} {ss : List Str} (e : l.map (·.1) = ss) : (strValues l).length = ss.length := by
  subst e
  simp [strValues]
theorem tab_reorder {g : Heap} {L : Addr} {h : Heap} {a b d c : Addr × Obj} {tW t : List (Addr × Obj)} (N : News g L h (a :: (tW ++ b :: (t ++ [d, c])))) : News g L h ([a] ++ d :: ([] ++ (tW ++ b :: (t ++ [c])))) := fun p hp => N p (by
  simp only [List.mem_append, List.mem_cons, List.not_mem_nil, or_false, false_or] at hp ⊢
  rcases hp with hp | hp | hp | hp | hp | hp
  · exact .inl hp
  · exact .inr (.inr (.inr (.inr (.inl hp))))
  · exact .inr (.inl hp)
  · exact .inr (.inr (.inl hp))
  · exact .inr (.inr (.inr (.inl hp)))
  · exact .inr (.inr (.inr (.inr (.inr hp)))))
theorem tab_off {w : World} {g : Heap} {L : Addr} {h : Heap} {a b d c : Addr × Obj} {tW t : List (Addr × Obj)} (N : News g L h (a :: (tW ++ b :: (t ++ [d, c])))) (hd : d.2.IsDictOf (intKind prg w) []) (hW : ∀ p ∈ tW, isTupObj p.2) (hb : ∀ p ∈ t ++ [d, c], p.1 < b.1)
    (ht : ∀ p ∈ t, p.2.cls ≠ .type "dict" ∨ ∀ q ∈ [d, c], q.1 < p.1) (hc : c.1 < d.1) : ∀ p ∈ tW ++ b :: (t ++ [c]), p.1 ≠ d.1 := by
  have hin : d ∈ a :: (tW ++ b :: (t ++ [d, c])) := .tail _ (List.mem_append_right _ (.tail _ (List.mem_append_right _ (.head _))))
  have off : ∀ p, p ∈ a :: (tW ++ b :: (t ++ [d, c])) → p.2.cls ≠ .type "dict" → p.1 ≠ d.1 := fun p hp hq e => by
    have h1 := (N p hp).1
    rw [e] at h1
    have h2 : d.2 = p.2 := Option.some.inj ((N d hin).1.symm.trans h1)
    exact hq (h2 ▸ dict_cls hd)
  intro p hp
  rcases List.mem_append.mp hp with hp | hp
  · exact off p (.tail _ (List.mem_append_left _ hp)) (by rw [tup_cls (hW p hp)]; decide)
  rcases List.mem_cons.mp hp with rfl | hp
  · exact (Nat.ne_of_lt (hb d (List.mem_append_right _ (.head _)))).symm
  rcases List.mem_append.mp hp with hp | hp
  · rcases ht p hp with hq | hq
    · exact off p (.tail _ (List.mem_append_right _ (.tail _ (List.mem_append_left _ hp)))) hq
    · exact (Nat.ne_of_lt (hq d (.head _))).symm
  · rw [List.mem_singleton.mp hp]
    exact Nat.ne_of_lt hc
theorem rowsP_small {n : Nat} {x : Int × PyData} (h : rowsP[n]? = some x) : n ≤ sizeLine := by
  have : n < 127 := (List.getElem?_eq_some_iff.mp h).1
  rw [sizeLine_eq]; omega
end
section
section
local macro_rules | `(tactic| walk_at "subscriptTail") => `(tactic| ((with_reducible show wpAny _ _ (subscriptTail _ _ (Value.ref _) (Value.int _ _)) _ _ _); refine Wait.intro ?_))
local macro_rules | `(tactic| walk_at "exec For Tuple Call cons nil") => `(tactic| ((rename Fr _ _ _ _ => lF'); (with_unfolding_all refine' For_turns lF' ?_; k_whole)))
local macro_rules | `(tactic| walk_at "eval Name") => `(tactic| ((with_reducible show wpAny _ _ (eval (Expr.Name (Str.ofString "script") _) _) _ _ _); refine Wait.intro ?_))
set_option maxHeartbeats 16000000 in
theorem law_holds : PySem.Challenge.rw_nm0114_01.Holds := hd (by
  w_strict (
    k_go0
    (all_goals try k_fold)
    have zz0 : Stop "call ref" := trivial
    have zz1 : Stop "pyIter ref" := trivial
    have zz2 : Stop "call builtin:str.split" := trivial
    have zz3 : Stop "call type:enumerate" := trivial
    have zz4 : Stop "setItem ref int" := trivial
    have zz5 : Stop "exec Assign cons ListComp" := trivial
    have zz6 : Stop "binaryOp Add ref ref" := trivial
    have zz7 : Stop "NearSrc" := trivial
    have zz8 : Stop "exec For Name BinOp cons nil" := trivial
    have zz9 : Stop "getMethod ref" := trivial
    have zz10 : Stop "call builtin:dict.get" := trivial
    have zz11 : Stop "compareOp NotEq" := trivial
    have zz12 : Stop "compareOp Eq" := trivial
    have zz13 : Stop "compareOp NotEq bool bool" := trivial
    have zz14 : Stop "compareOp In int ref" := trivial
    have zz15 : Stop "call builtin:len" := trivial
    have zz16 : Stop "binaryOp Pow int int" := trivial
    have zz17 : Stop "compareOp NotEq int int" := trivial
    (rename Below _ _ _ _ => k0)
    (rename Frag.In _ _ => k1)
    (rename Top _ _ _ _ _ _ => k2)
    (rename Fr _ _ _ _ => k3)
    (rename News _ _ _ _ => k4)
    refine shortC k0 k1 k2 k3 k4 ?_ rfl
    clear k3 k4 k1 k0
    intro h₀ L₀ mean₀ m₀ e₀ B₀ gs₀ dr₀ os₀ ca₀ news₀ t₀ k0 k1 k2 k3 k4
    have hr₀ : callerA.depth + 1 + 4 < recursionLimit := by decide
    have hu₀ : callerA.units + 3 + 100 * 4 < cLine := by decide
    have hv₀ : callerA.units + 3 + 64 < cLine := by decide
    k_steps
    refine Wait.out ?_
    try dsimp only
    refine' acc_tells _ _ _ _ _ _ _ _ _ _ _ _ _ _ _ _ _ _ _ _ _ _ ?h1B ?h1F ?h1X ?h1N ?h1T ?h1k ?h1d ?h1u ?_
    case h1B => k_asm
    case h1F => k_asm
    case h1X => k_asm
    case h1N => k_asm
    case h1T => k_asm
    case h1k => exact rfl
    case h1d => exact hr₀
    case h1u => exact hu₀
    intro bA tlA h9 k9 F9 N9 hA1 hA
    k_steps
    refine Wait.out ?_
    try dsimp only
    refine' words_tells _ _ _ _ _ _ _ _ _ _ _ _ _ _ _ _ _ _ _ _ _ _ ?h2B ?h2F ?h2X ?h2N ?h2T ?h2k ?h2d ?h2u ?_
    case h2B => k_asm
    case h2F => k_asm
    case h2X => k_asm
    case h2N => k_asm
    case h2T => k_asm
    case h2k => exact rfl
    case h2d => exact hr₀
    case h2u => exact hu₀
    intro bW vW tlW h9 k9 F9 N9 hW1 hW2
    k_steps
    refine Wait.out ?_
    try dsimp only
    (rename Fr _ _ _ _ => zF)
    (rename News _ _ _ _ => zN)
    (rename Obj.IsDictOf (intKind _ _) _ _ => zD)
    have zM := tab_reorder zN
    have zO := tab_off zN zD hW1 (by assumption) hA1 ((by assumption : ∀ p ∈ news₀, p.1 < _) _ (List.Mem.head _))
    refine' iter_listTurns ?h3a zF zM ?h3b ?h3c ?h3d ?_
    case h3a => rfl
    case h3b => exact List.Mem.head _
    case h3c => rfl
    case h3d => rfl
    intro I l1
    refine' tab_outer hW2 ?yE (TI.start [Str.ofString "first", Str.ofString "words", Str.ofString "k", Str.ofString "word"] [(_, _)] (TFacts.zero zD)) (List.Mem.head _) ?yF ?yG ?yH
    case yE => exact fun p hp => List.mem_append_left _ hp
    case yG => assumption
    case yF =>
      intro i f x j hp u o kvs tups hTF T t1 t2 h tk oi hT F9 ci N9 P hP
      simp only [List.cons_append, List.nil_append, List.append_assoc] at N9
      have hx1 : x.length ≤ 1000 := (rows_at hp).1
      have hx2 := (rows_at hp).2.1
      have hx3 := (rows_at hp).2.2
      k_steps
      refine Wait.out ?_
      try dsimp only
      refine' KSpl.split1 ?h4a ?h4b ?h4c ?_ ?h4e
      case h4a => k_asm
      case h4b => k_asm
      case h4c => decide
      case h4e => exact thousand hx1
      intro D8 q8 h8 k8 yL a8 yF9 yN9 l8
      k_steps
      refine Wait.out ?_
      try dsimp only
      refine' ktu_enum ?h5a yF9 yN9 ?h5b ?h5c ?h5d ?h5e ?_
      case h5a => rfl
      case h5b => exact List.Mem.head _
      case h5c => rfl
      case h5d => rfl
      case h5e => rfl
      intro I2 l2
      refine' tab_enum (tab := rowsP) j (TI.start [Str.ofString "k", Str.ofString "word"] [(_, _), (_, _), (_, _)] hTF) (List.Mem.head _) ?zF ?zG
      case zG =>
        intro u2 o2 kvs2 tups2 h2 tk2 hTF2 F2 N2
        simp only [List.cons_append, List.nil_append, List.append_assoc] at N2
        k_steps
        refine hP _ ?_
        (rename Fr _ _ _ _ => kF9)
        (rename News _ _ _ _ => kN9)
        have eJ : j + (strValues _).length = nextAt (i + 1) := (congrArg (fun z => j + z) (strs_len yL)).trans hx2.symm
        rw [eJ] at hTF2
        refine' tab_lend [(_, _)] [(_, _)] ci kF9 kN9 hTF2 (fun p hp => l1 p (List.mem_append_left _ hp)) (fun p hp => l1 p (List.mem_append_right [_] (.tail _ hp))) ?_
        intro y hc
        have hc' := hc
        simp only [List.contains_cons, List.contains_nil, Bool.or_false, Bool.or_eq_false_iff, beq_eq_false_iff_ne] at hc'
        simp only [hc'.1, hc'.2.1, hc'.2.2.1, hc'.2.2.2, hc, List.contains_cons, List.contains_nil, Bool.or_false, beq_eq_false_iff_ne.mpr hc'.2.2.1, beq_eq_false_iff_ne.mpr hc'.2.2.2, if_false, Bool.false_eq_true]
      intro i2 x2 hi2 u2 o2 kvs2 tups2 hTF2 T2 t3 h2 tk2 oe2 oi2 hT2 F2 ce2 ci2 N2 P2 hP2
      simp only [List.cons_append, List.nil_append, List.append_assoc] at N2
      obtain ⟨y, ty, hxy, hy⟩ := str_at yL hi2
      subst hxy
      have hrow := rowsP_at (show rowsL[j + i2]? = some (f + (i2 : Int), rowW y) from (hx3 i2 y hy).2)
      k_steps
      refine Wait.out ?_
      try dsimp only
      refine' use_any (row_tells _ _ (hx3 i2 y hy).1) ?h6B ?h6F ?h6X ?h6N ?h6T ?h6k ?h6d ?h6u ?_
      case h6B => k_asm
      case h6F => k_asm
      case h6X => k_asm
      case h6N => k_asm
      case h6T => k_asm
      case h6k => exact rfl
      case h6d => exact hr₀
      case h6u => exact hu₀
      intro v9 tl9 h9 k9 F9 N9 kK9 kS9
      k_steps
      refine Wait.out ?_
      try dsimp only
      (rename Fr _ _ _ _ => kF9)
      (rename News _ _ _ _ => kN9)
      refine' tab_set [(_, _), (_, _), (_, _)] kF9 kN9 hTF2 kK9 ce2 ci2 (fun p hp => ?_) zO (rowsP_small hrow) ?_
      · simp only [List.mem_cons, List.not_mem_nil, or_false] at hp
        rcases hp with rfl | rfl | rfl
        all_goals first | (show Value.type "list" ≠ Value.type "dict"; decide) | (rw [ci]; decide)
      intro h7 o7 F7 N7 hd7
      simp only [List.cons_append, List.nil_append, List.append_assoc] at N7
      k_steps
      refine hP2 _ ?_
      (rename Fr _ _ _ _ => kF8)
      (rename News _ _ _ _ => kN8)
      refine' tab_end [(_, _), (_, _), (_, _)] ce2 ci2 kF8 kN8 (hTF2.next rowsP_nodup hrow kS9 kK9 hd7) (fun p hp => l2 p (List.mem_append_left _ hp)) (fun p hp => l2 p (List.mem_append_right [_, _, _] (.tail _ (List.mem_append_right _ hp)))) ?_
      intro y hc
      have hc' := hc
      simp only [List.contains_cons, List.contains_nil, Bool.or_false, Bool.or_eq_false_iff, beq_eq_false_iff_ne] at hc'
      simp only [hc'.1, hc'.2, hc, if_false, Bool.false_eq_true]
    intro u tl h tk hT' F9 N9
    simp only [List.cons_append, List.nil_append, List.append_assoc] at N9
    refine reFN F9 N9 ?_
    clear F9 N9
    intro m₁ n₁ F9 N9
    have rT : ∀ p ∈ tl, p ∈ n₁ := (by (intro p9 hp9; repeat (first | (with_reducible exact hp9) | (with_reducible exact List.mem_append_left _ hp9) | refine List.mem_cons_of_mem _ ?_ | refine List.mem_append_right _ ?_)))
    have rA : ∀ p ∈ tlA, p ∈ n₁ := (by (intro p9 hp9; repeat (first | (with_reducible exact hp9) | (with_reducible exact List.mem_append_left _ hp9) | refine List.mem_cons_of_mem _ ?_ | refine List.mem_append_right _ ?_)))
    clear zM zN zO zF zD
    k_steps
    refine Wait.out ?_
    try dsimp only
    refine' near_comp ?h7F0 ?h7hb ?h7si ?h7a1 ?h7a2 ?h7a3 ?h7a4 ?h7a5 ?h7a6 ?h7a7 ?h7a8 ?h7a9 ?h7b1 ?h7b2 ?h7b3 ?h7b4 ?_ ?h7hs
    case h7F0 => k_asm
    case h7hb => assumption
    case h7si => assumption
    case h7a1 => exact rfl
    case h7a2 => exact rfl
    case h7a3 => decide
    case h7a4 => rfl
    case h7a5 => decide
    case h7a6 => rfl
    case h7a7 => rfl
    case h7a8 => rfl
    case h7a9 => (intro C; rfl)
    case h7b1 => (intro C; rfl)
    case h7b2 => rfl
    case h7b3 => rfl
    case h7b4 => rfl
    case h7hs => (intro _; rfl)
    k_steps
    refine Wait.out ?_
    try dsimp only
    refine' add_lists_ints ?h8F ?h8N ?h8L ?h8B ?h8I ?h8J ?_ ?h8Z
    case h8F => k_asm
    case h8N => k_asm
    case h8L => first | (with_reducible assumption) | (refine' Heap.IsList.at ?qa ?qb; (case qa => assumption); (case qb => intro o9 e9; apply_assumption; apply_assumption; exact e9))
    case h8B => assumption
    case h8I => exact IntsAre.ofCarried (by assumption)
    case h8J => exact IntsAre.ofCarried (by assumption)
    case h8Z => (rw [sizeLine_eq]; exact Nat.le_of_ble_eq_true rfl)
    intro h9 F9 N9 hJ9
    k_steps
    refine Wait.out ?_
    try dsimp only
    refine' near_src ?h9h ?h9F ?h9N ?h9m ?h9i ?h9z ?h9c ?h9d ?h9l ?h9T ?h9g ?h9b ?h9B ?_
    case h9h => rfl
    case h9F => k_asm
    case h9N => k_asm
    case h9m => exact List.Mem.head _
    case h9i => assumption
    case h9c => (repeat (first | exact List.Mem.head _ | refine List.Mem.tail _ ?_ | refine List.mem_append_right _ ?_))
    case h9d => first | assumption | rfl
    case h9l => assumption
    case h9T => exact Top.g (by k_asm)
    case h9g => exact mg_none_of (by k_asm) (Top.g (by k_asm)) (by k_is)
    case h9b => exact Top.b (by k_asm)
    case h9B => exact (Top.builtins (by k_asm) _ (by decide)).trans (by rfl)
    case h9z => (rw [hJ9.length, sizeLine_eq]; exact Nat.le_of_ble_eq_true rfl)
    intro D8 y8 n8 m8 h8 k8 F8 N8 I8 L8
    have B8 : y8.length ≤ 276 := Nat.le_trans L8 (by rw [hJ9.length]; exact Nat.le_of_ble_eq_true rfl)
    k_steps
    refine Wait.out ?_
    try dsimp only
    (rename Fr _ _ _ _ => wF)
    (with_unfolding_all refine' For_invVF wF ?wk1 ?wk2 ?_; (case wk1 => exact rfl); (case wk2 => exact rfl); k_whole)
    k_steps
    refine Wait.out ?_
    try dsimp only
    refine' wpAny_Name (wpAny_loadName_cell ?h10a ?h10b ?h10c ?h10d ?_)
    case h10a => rfl
    case h10b => rfl
    case h10c => rfl
    case h10d => refine' cell_at ?qe1 ?qe2 ?qe3; (case qe1 => k_asm); (case qe2 => (repeat (first | exact List.Mem.head _ | refine List.Mem.tail _ ?_ | refine List.mem_append_right _ ?_))); (case qe3 => first | assumption | rfl)
    k_steps
    refine Wait.out ?_
    try dsimp only
    refine' add_near ?h11F ?h11N ?h11L ?h11B ?h11I ?h11J ?h11Z ?_
    case h11F => k_asm
    case h11N => k_asm
    case h11L => (repeat (first | exact List.Mem.head _ | refine List.Mem.tail _ ?_ | refine List.mem_append_right _ ?_))
    case h11B => (repeat (first | exact List.Mem.head _ | refine List.Mem.tail _ ?_ | refine List.mem_append_right _ ?_))
    case h11J => assumption
    case h11I => assumption
    case h11Z => assumption
    intro h7 u7 k7 F7 N7 hJ7 hz7
    k_steps
    refine Wait.out ?_
    try dsimp only
    (rename Fr _ _ _ _ => zF)
    (rename News _ _ _ _ => zN)
    refine' law_loop [Str.ofString "form", Str.ofString "stack", Str.ofString "is_load", Str.ofString "is_store"] ?za ?zb hJ7 zF zN ?zt ?zd
    case za => rfl
    case zb => exact List.Mem.head _
    case zd =>
      intro u h tk F9 N9
      simp only [List.cons_append, List.append_assoc, List.nil_append] at N9
      k_steps
      refine Wait.out ?_
      try dsimp only
      refine' len_loads ?h12X ?h12F ?_
      case h12X => k_asm
      case h12F => k_asm
      intro k9 n9
      k_steps
      refine Wait.out ?_
      try dsimp only
      refine' len_stores ?h13X ?h13F ?_
      case h13X => k_asm
      case h13F => k_asm
      intro k8 n8
      k_steps
    intro n t u h tk own F9 N9 P hP
    simp only [List.cons_append, List.append_assoc, List.nil_append] at N9
    refine reFN F9 N9 ?_
    clear F9 N9
    intro m₃ n₃ F9 N9
    have sT : ∀ p ∈ tl, p ∈ n₃ := fun p hp => (List.mem_append_left _ (rT p hp) |> List.mem_cons_of_mem _ |> List.mem_cons_of_mem _ |> List.mem_cons_of_mem _ |> List.mem_cons_of_mem _ |> List.mem_cons_of_mem _)
    have sA : ∀ p ∈ tlA, p ∈ n₃ := fun p hp => (List.mem_append_left _ (rA p hp) |> List.mem_cons_of_mem _ |> List.mem_cons_of_mem _ |> List.mem_cons_of_mem _ |> List.mem_cons_of_mem _ |> List.mem_cons_of_mem _)
    k_steps
    refine Wait.out ?_
    try dsimp only
    refine ds_method hT' (Has.at (by k_asm) (by k_asm) (by (intro p9 hp9; repeat (first | (with_reducible exact hp9) | (with_reducible exact sT _ hp9) | (with_reducible exact sA _ hp9) | (with_reducible exact List.mem_append_left _ hp9) | refine List.mem_cons_of_mem _ ?_ | refine List.mem_append_right _ ?_)))) ?_
    k_steps
    refine Wait.out ?_
    try dsimp only
    refine' law_get hT' ?h14F ?h14N ?h14s ?h14m ?_
    case h14F => k_asm
    case h14N => k_asm
    case h14s => (intro p9 hp9; repeat (first | (with_reducible exact hp9) | (with_reducible exact sT _ hp9) | (with_reducible exact sA _ hp9) | (with_reducible exact List.mem_append_left _ hp9) | refine List.mem_cons_of_mem _ ?_ | refine List.mem_append_right _ ?_))
    case h14m => (repeat (first | exact List.Mem.head _ | refine List.Mem.tail _ ?_ | refine List.mem_append_right _ ?_))
    intro b8 u8 v8 t8 fS sS
    k_steps
    refine Wait.out ?_
    try dsimp only
    refine' use_any (form_tells _ _) ?h15B ?h15F ?h15X ?h15N ?h15T ?h15k ?h15d ?h15u ?_
    case h15B => k_asm
    case h15F => k_asm
    case h15X => k_asm
    case h15N => k_asm
    case h15T => k_asm
    case h15k => exact rfl
    case h15d => exact hr₀
    case h15u => exact hu₀
    intro v5 tl5 h5 k5 F5 N5 K5 S5
    k_steps
    refine Wait.out ?_
    try dsimp only
    refine law_ne S5 fS (Has.at (by k_asm) (by k_asm) (by (intro p9 hp9; repeat (first | (with_reducible exact hp9) | (with_reducible exact sT _ hp9) | (with_reducible exact sA _ hp9) | (with_reducible exact List.mem_append_left _ hp9) | refine List.mem_cons_of_mem _ ?_ | refine List.mem_append_right _ ?_)))) (Has.at (by k_asm) (by k_asm) (by (intro p9 hp9; repeat (first | (with_reducible exact hp9) | (with_reducible exact sT _ hp9) | (with_reducible exact sA _ hp9) | (with_reducible exact List.mem_append_left _ hp9) | refine List.mem_cons_of_mem _ ?_ | refine List.mem_append_right _ ?_)))) (by rw [plain_form]) (shape_f _) hv₀ ?_
    k_steps
    refine Wait.out ?_
    try dsimp only
    refine' use_any (stack_tells _ _) ?h16B ?h16F ?h16X ?h16N ?h16T ?h16k ?h16d ?h16u ?_
    case h16B => k_asm
    case h16F => k_asm
    case h16X => k_asm
    case h16N => k_asm
    case h16T => k_asm
    case h16k => exact rfl
    case h16d => exact hr₀
    case h16u => exact hu₀
    intro v6 tl6 h6 k6 F6 N6 K6 S6
    k_steps
    refine Wait.out ?_
    try dsimp only
    refine law_ne S6 sS (Has.at (by k_asm) (by k_asm) (by (intro p9 hp9; repeat (first | (with_reducible exact hp9) | (with_reducible exact sT _ hp9) | (with_reducible exact sA _ hp9) | (with_reducible exact List.mem_append_left _ hp9) | refine List.mem_cons_of_mem _ ?_ | refine List.mem_append_right _ ?_)))) (Has.at (by k_asm) (by k_asm) (by (intro p9 hp9; repeat (first | (with_reducible exact hp9) | (with_reducible exact sT _ hp9) | (with_reducible exact sA _ hp9) | (with_reducible exact List.mem_append_left _ hp9) | refine List.mem_cons_of_mem _ ?_ | refine List.mem_append_right _ ?_)))) (by rw [plain_stack]) (shape_s _) hv₀ ?_
    k_steps
    refine Wait.out ?_
    try dsimp only
    refine' use_flat (blk_tells _ _) (fun t => Value.bool _) flat_bool ?h17B ?h17F ?h17X ?h17N ?h17T ?h17k ?h17d ?h17u ?_
    case h17B => k_asm
    case h17F => k_asm
    case h17X => k_asm
    case h17N => k_asm
    case h17T => k_asm
    case h17k => exact rfl
    case h17d => exact hr₀
    case h17u => exact hu₀
    intro t9 h9 k9 F9 N9
    k_steps
    refine Wait.out ?_
    try dsimp only
    refine law_eqb fS (Has.at (by k_asm) (by k_asm) (by (intro p9 hp9; repeat (first | (with_reducible exact hp9) | (with_reducible exact sT _ hp9) | (with_reducible exact sA _ hp9) | (with_reducible exact List.mem_append_left _ hp9) | refine List.mem_cons_of_mem _ ?_ | refine List.mem_append_right _ ?_)))) (shape_f _) (by decide +kernel) hv₀ ?_
    k_steps
    refine Wait.out ?_
    try dsimp only
    refine law_neb (by first | exact plain_block _ | (rw [blockS_eq]; exact plain_block _)) hv₀ ?_
    k_steps
    refine Wait.out ?_
    try dsimp only
    refine' use_flat (left_tells _ _) (fun t => Value.bool _) flat_bool ?h18B ?h18F ?h18X ?h18N ?h18T ?h18k ?h18d ?h18u ?_
    case h18B => k_asm
    case h18F => k_asm
    case h18X => k_asm
    case h18N => k_asm
    case h18T => k_asm
    case h18k => exact rfl
    case h18d => exact hr₀
    case h18u => exact hu₀
    intro t9 h9 k9 F9 N9
    k_steps
    refine Wait.out ?_
    try dsimp only
    refine' use_flat (lawleft_tells _ _) (fun t => Value.bool _) flat_bool ?h19B ?h19F ?h19X ?h19N ?h19T ?h19k ?h19d ?h19u ?_
    case h19B => k_asm
    case h19F => k_asm
    case h19X => k_asm
    case h19N => k_asm
    case h19T => k_asm
    case h19k => exact rfl
    case h19d => exact hr₀
    case h19u => exact hu₀
    intro t9 h9 k9 F9 N9
    k_steps
    refine Wait.out ?_
    try dsimp only
    refine law_neb (plain_left _) hv₀ ?_
    k_steps
    refine Wait.out ?_
    try dsimp only
    rcases acc_cases n with hacc | ⟨x, y, z, hacc⟩ | ⟨x, y, hacc⟩
    · have hac : accD n = none := map_none hacc
      have hlo : ((loadsF n).map intsD).getD .none = .none := by rw [plain_loads, hacc]; rfl
      have hst : ((storesF n).map intsD).getD .none = .none := by rw [plain_stores, hacc]; rfl
      refine ds_no hA (Has.at (by k_asm) (by k_asm) (by (intro p9 hp9; repeat (first | (with_reducible exact hp9) | (with_reducible exact sT _ hp9) | (with_reducible exact sA _ hp9) | (with_reducible exact List.mem_append_left _ hp9) | refine List.mem_cons_of_mem _ ?_ | refine List.mem_append_right _ ?_)))) hac ?_
      k_steps
      refine Wait.out ?_
      try dsimp only
      refine ds_no hA (Has.at (by k_asm) (by k_asm) (by (intro p9 hp9; repeat (first | (with_reducible exact hp9) | (with_reducible exact sT _ hp9) | (with_reducible exact sA _ hp9) | (with_reducible exact List.mem_append_left _ hp9) | refine List.mem_cons_of_mem _ ?_ | refine List.mem_append_right _ ?_)))) hac ?_
      k_steps
      refine Wait.out ?_
      try dsimp only
      refine ds_method (loads_dsup (by k_asm)) (hold0 (Fr.keep (by k_asm))) ?_
      k_steps
      refine Wait.out ?_
      try dsimp only
      refine ds_get1 (loads_dsup (by k_asm)) (hold0 (Fr.keep (by k_asm))) (fun v S => ?_)
      rw [hlo] at S
      obtain ⟨_, rfl⟩ := flat_none _ _ S
      k_steps
      refine Wait.out ?_
      try dsimp only
      refine ds_method (stores_dsup (by k_asm)) (hold0 (Fr.keep (by k_asm))) ?_
      k_steps
      refine Wait.out ?_
      try dsimp only
      refine ds_get1 (stores_dsup (by k_asm)) (hold0 (Fr.keep (by k_asm))) (fun v S => ?_)
      rw [hst] at S
      obtain ⟨_, rfl⟩ := flat_none _ _ S
      k_steps
      refine Wait.out ?_
      try dsimp only
      refine ds_no hA (Has.at (by k_asm) (by k_asm) (by (intro p9 hp9; repeat (first | (with_reducible exact hp9) | (with_reducible exact sT _ hp9) | (with_reducible exact sA _ hp9) | (with_reducible exact List.mem_append_left _ hp9) | refine List.mem_cons_of_mem _ ?_ | refine List.mem_append_right _ ?_)))) hac ?_
      k_steps
      refine hP _ ?_
      refine' law_end4 (by k_asm) (by k_asm) (fun p hp => ?_) ?_
      · (try simp only [List.cons_append, List.append_assoc, List.nil_append] at hp)
        (repeat (first | (with_reducible exact hp) | refine List.mem_cons_of_mem _ ?_ | refine List.mem_append_right _ ?_))
      intro z hz hc q1 q2 q3 q4
      simp only [m₃, hz, q1, q2, q3, q4, hc, if_false, Bool.false_eq_true]
    · have hac : accD n = some (intsD [x, y, z]) := map_some hacc
      have hlo : ((loadsF n).map intsD).getD .none = intsD [x, y, z] := by rw [(loads_of3 n hacc).1]; rfl
      have hst : ((storesF n).map intsD).getD .none = .none := by rw [(loads_of3 n hacc).2]; rfl
      have hsi : SeqAt.shaped (intsD [x, y, z]) = true := shape_ints n _ hacc
      have hnc : (loadsF n).isSome = true ∨ (storesF n).isSome = true := .inl (by rw [(loads_of3 n hacc).1]; rfl)
      have hpw : (0 ≤ natF n ∧ natF n ≤ 3) ∧ (2 : Int) ^ (natF n).toNat = y := pow_law n hacc rfl
      refine ds_yes hA (Has.at (by k_asm) (by k_asm) (by (intro p9 hp9; repeat (first | (with_reducible exact hp9) | (with_reducible exact sT _ hp9) | (with_reducible exact sA _ hp9) | (with_reducible exact List.mem_append_left _ hp9) | refine List.mem_cons_of_mem _ ?_ | refine List.mem_append_right _ ?_)))) hac ?_
      k_steps
      refine Wait.out ?_
      try dsimp only
      refine ds_sub hA (Has.at (by k_asm) (by k_asm) (by (intro p9 hp9; repeat (first | (with_reducible exact hp9) | (with_reducible exact sT _ hp9) | (with_reducible exact sA _ hp9) | (with_reducible exact List.mem_append_left _ hp9) | refine List.mem_cons_of_mem _ ?_ | refine List.mem_append_right _ ?_)))) hac (fun v S => ?_)
      obtain ⟨b, t1, t2, t3, rfl, hT⟩ := sup_ints3 S
      k_steps
      refine Wait.out ?_
      try dsimp only
      refine law_len3 (hT _ (Has.at (by k_asm) (by k_asm) (by (intro p9 hp9; repeat (first | (with_reducible exact hp9) | (with_reducible exact sT _ hp9) | (with_reducible exact sA _ hp9) | (with_reducible exact List.mem_append_left _ hp9) | refine List.mem_cons_of_mem _ ?_ | refine List.mem_append_right _ ?_))))) (fun k9 n9 => ?_)
      clear hT
      k_steps
      refine Wait.out ?_
      try dsimp only
      refine ds_yes hA (Has.at (by k_asm) (by k_asm) (by (intro p9 hp9; repeat (first | (with_reducible exact hp9) | (with_reducible exact sT _ hp9) | (with_reducible exact sA _ hp9) | (with_reducible exact List.mem_append_left _ hp9) | refine List.mem_cons_of_mem _ ?_ | refine List.mem_append_right _ ?_)))) hac ?_
      k_steps
      refine Wait.out ?_
      try dsimp only
      refine ds_sub hA (Has.at (by k_asm) (by k_asm) (by (intro p9 hp9; repeat (first | (with_reducible exact hp9) | (with_reducible exact sT _ hp9) | (with_reducible exact sA _ hp9) | (with_reducible exact List.mem_append_left _ hp9) | refine List.mem_cons_of_mem _ ?_ | refine List.mem_append_right _ ?_)))) hac (fun v S => ?_)
      obtain ⟨b, t1, t2, t3, rfl, hT⟩ := sup_ints3 S
      k_steps
      refine Wait.out ?_
      try dsimp only
      refine law_len3 (hT _ (Has.at (by k_asm) (by k_asm) (by (intro p9 hp9; repeat (first | (with_reducible exact hp9) | (with_reducible exact sT _ hp9) | (with_reducible exact sA _ hp9) | (with_reducible exact List.mem_append_left _ hp9) | refine List.mem_cons_of_mem _ ?_ | refine List.mem_append_right _ ?_))))) (fun k9 n9 => ?_)
      clear hT
      k_steps
      refine Wait.out ?_
      try dsimp only
      refine ds_method (loads_dsup (by k_asm)) (hold0 (Fr.keep (by k_asm))) ?_
      k_steps
      refine Wait.out ?_
      try dsimp only
      refine ds_get1 (loads_dsup (by k_asm)) (hold0 (Fr.keep (by k_asm))) (fun v S => ?_)
      rw [hlo] at S
      k_steps
      refine Wait.out ?_
      try dsimp only
      refine ds_sub hA (Has.at (by k_asm) (by k_asm) (by (intro p9 hp9; repeat (first | (with_reducible exact hp9) | (with_reducible exact sT _ hp9) | (with_reducible exact sA _ hp9) | (with_reducible exact List.mem_append_left _ hp9) | refine List.mem_cons_of_mem _ ?_ | refine List.mem_append_right _ ?_)))) hac (fun v' S' => ?_)
      k_steps
      refine Wait.out ?_
      try dsimp only
      refine law_ne S S' (hold0 (Fr.keep (by k_asm))) (Has.at (by k_asm) (by k_asm) (by (intro p9 hp9; repeat (first | (with_reducible exact hp9) | (with_reducible exact sT _ hp9) | (with_reducible exact sA _ hp9) | (with_reducible exact List.mem_append_left _ hp9) | refine List.mem_cons_of_mem _ ?_ | refine List.mem_append_right _ ?_)))) rfl hsi hv₀ ?_
      k_steps
      refine Wait.out ?_
      try dsimp only
      refine ds_method (stores_dsup (by k_asm)) (hold0 (Fr.keep (by k_asm))) ?_
      k_steps
      refine Wait.out ?_
      try dsimp only
      refine ds_get1 (stores_dsup (by k_asm)) (hold0 (Fr.keep (by k_asm))) (fun v S => ?_)
      rw [hst] at S
      obtain ⟨_, rfl⟩ := flat_none _ _ S
      k_steps
      refine Wait.out ?_
      try dsimp only
      refine ds_yes hA (Has.at (by k_asm) (by k_asm) (by (intro p9 hp9; repeat (first | (with_reducible exact hp9) | (with_reducible exact sT _ hp9) | (with_reducible exact sA _ hp9) | (with_reducible exact List.mem_append_left _ hp9) | refine List.mem_cons_of_mem _ ?_ | refine List.mem_append_right _ ?_)))) hac ?_
      k_steps
      refine Wait.out ?_
      try dsimp only
      refine' use_flat (nat_tells _ _ hnc) (fun t => Value.int _ t) flat_int ?h20B ?h20F ?h20X ?h20N ?h20T ?h20k ?h20d ?h20u ?_
      case h20B => k_asm
      case h20F => k_asm
      case h20X => k_asm
      case h20N => k_asm
      case h20T => k_asm
      case h20k => exact rfl
      case h20d => exact hr₀
      case h20u => exact hu₀
      intro t9 h9 k9 F9 N9
      k_steps
      refine Wait.out ?_
      try dsimp only
      refine law_pow hpw (fun t8 => ?_)
      k_steps
      refine Wait.out ?_
      try dsimp only
      refine ds_sub hA (Has.at (by k_asm) (by k_asm) (by (intro p9 hp9; repeat (first | (with_reducible exact hp9) | (with_reducible exact sT _ hp9) | (with_reducible exact sA _ hp9) | (with_reducible exact List.mem_append_left _ hp9) | refine List.mem_cons_of_mem _ ?_ | refine List.mem_append_right _ ?_)))) hac (fun v S => ?_)
      obtain ⟨b, t1, t2, t3, rfl, hT⟩ := sup_ints3 S
      k_steps
      refine Wait.out ?_
      try dsimp only
      refine item_tupleT (hT _ (Has.at (by k_asm) (by k_asm) (by (intro p9 hp9; repeat (first | (with_reducible exact hp9) | (with_reducible exact sT _ hp9) | (with_reducible exact sA _ hp9) | (with_reducible exact List.mem_append_left _ hp9) | refine List.mem_cons_of_mem _ ?_ | refine List.mem_append_right _ ?_))))) (by decide) (by decide) rfl rfl ?_
      k_steps
      refine Wait.out ?_
      try dsimp only
      refine law_nei hv₀ ?_
      k_steps
      refine hP _ ?_
      refine' law_end4 (by k_asm) (by k_asm) (fun p hp => ?_) ?_
      · (try simp only [List.cons_append, List.append_assoc, List.nil_append] at hp)
        (repeat (first | (with_reducible exact hp) | refine List.mem_cons_of_mem _ ?_ | refine List.mem_append_right _ ?_))
      intro z hz hc q1 q2 q3 q4
      simp only [m₃, hz, q1, q2, q3, q4, hc, if_false, Bool.false_eq_true]
    · have hac : accD n = some (intsD [x, y]) := map_some hacc
      have hlo : ((loadsF n).map intsD).getD .none = .none := by rw [(stores_of2 n hacc).1]; rfl
      have hst : ((storesF n).map intsD).getD .none = intsD [x, y] := by rw [(stores_of2 n hacc).2]; rfl
      have hsi : SeqAt.shaped (intsD [x, y]) = true := shape_ints n _ hacc
      have hnc : (loadsF n).isSome = true ∨ (storesF n).isSome = true := .inr (by rw [(stores_of2 n hacc).2]; rfl)
      have hpw : (0 ≤ natF n ∧ natF n ≤ 3) ∧ (2 : Int) ^ (natF n).toNat = y := pow_law n hacc rfl
      refine ds_yes hA (Has.at (by k_asm) (by k_asm) (by (intro p9 hp9; repeat (first | (with_reducible exact hp9) | (with_reducible exact sT _ hp9) | (with_reducible exact sA _ hp9) | (with_reducible exact List.mem_append_left _ hp9) | refine List.mem_cons_of_mem _ ?_ | refine List.mem_append_right _ ?_)))) hac ?_
      k_steps
      refine Wait.out ?_
      try dsimp only
      refine ds_sub hA (Has.at (by k_asm) (by k_asm) (by (intro p9 hp9; repeat (first | (with_reducible exact hp9) | (with_reducible exact sT _ hp9) | (with_reducible exact sA _ hp9) | (with_reducible exact List.mem_append_left _ hp9) | refine List.mem_cons_of_mem _ ?_ | refine List.mem_append_right _ ?_)))) hac (fun v S => ?_)
      obtain ⟨b, t1, t2, rfl, hT⟩ := sup_ints2 S
      k_steps
      refine Wait.out ?_
      try dsimp only
      refine law_len2 (hT _ (Has.at (by k_asm) (by k_asm) (by (intro p9 hp9; repeat (first | (with_reducible exact hp9) | (with_reducible exact sT _ hp9) | (with_reducible exact sA _ hp9) | (with_reducible exact List.mem_append_left _ hp9) | refine List.mem_cons_of_mem _ ?_ | refine List.mem_append_right _ ?_))))) (fun k9 n9 => ?_)
      clear hT
      k_steps
      refine Wait.out ?_
      try dsimp only
      refine ds_yes hA (Has.at (by k_asm) (by k_asm) (by (intro p9 hp9; repeat (first | (with_reducible exact hp9) | (with_reducible exact sT _ hp9) | (with_reducible exact sA _ hp9) | (with_reducible exact List.mem_append_left _ hp9) | refine List.mem_cons_of_mem _ ?_ | refine List.mem_append_right _ ?_)))) hac ?_
      k_steps
      refine Wait.out ?_
      try dsimp only
      refine ds_sub hA (Has.at (by k_asm) (by k_asm) (by (intro p9 hp9; repeat (first | (with_reducible exact hp9) | (with_reducible exact sT _ hp9) | (with_reducible exact sA _ hp9) | (with_reducible exact List.mem_append_left _ hp9) | refine List.mem_cons_of_mem _ ?_ | refine List.mem_append_right _ ?_)))) hac (fun v S => ?_)
      obtain ⟨b, t1, t2, rfl, hT⟩ := sup_ints2 S
      k_steps
      refine Wait.out ?_
      try dsimp only
      refine law_len2 (hT _ (Has.at (by k_asm) (by k_asm) (by (intro p9 hp9; repeat (first | (with_reducible exact hp9) | (with_reducible exact sT _ hp9) | (with_reducible exact sA _ hp9) | (with_reducible exact List.mem_append_left _ hp9) | refine List.mem_cons_of_mem _ ?_ | refine List.mem_append_right _ ?_))))) (fun k9 n9 => ?_)
      clear hT
      k_steps
      refine Wait.out ?_
      try dsimp only
      refine ds_method (loads_dsup (by k_asm)) (hold0 (Fr.keep (by k_asm))) ?_
      k_steps
      refine Wait.out ?_
      try dsimp only
      refine ds_get1 (loads_dsup (by k_asm)) (hold0 (Fr.keep (by k_asm))) (fun v S => ?_)
      rw [hlo] at S
      obtain ⟨_, rfl⟩ := flat_none _ _ S
      k_steps
      refine Wait.out ?_
      try dsimp only
      refine ds_method (stores_dsup (by k_asm)) (hold0 (Fr.keep (by k_asm))) ?_
      k_steps
      refine Wait.out ?_
      try dsimp only
      refine ds_get1 (stores_dsup (by k_asm)) (hold0 (Fr.keep (by k_asm))) (fun v S => ?_)
      rw [hst] at S
      k_steps
      refine Wait.out ?_
      try dsimp only
      refine ds_sub hA (Has.at (by k_asm) (by k_asm) (by (intro p9 hp9; repeat (first | (with_reducible exact hp9) | (with_reducible exact sT _ hp9) | (with_reducible exact sA _ hp9) | (with_reducible exact List.mem_append_left _ hp9) | refine List.mem_cons_of_mem _ ?_ | refine List.mem_append_right _ ?_)))) hac (fun v' S' => ?_)
      k_steps
      refine Wait.out ?_
      try dsimp only
      refine law_ne S S' (hold0 (Fr.keep (by k_asm))) (Has.at (by k_asm) (by k_asm) (by (intro p9 hp9; repeat (first | (with_reducible exact hp9) | (with_reducible exact sT _ hp9) | (with_reducible exact sA _ hp9) | (with_reducible exact List.mem_append_left _ hp9) | refine List.mem_cons_of_mem _ ?_ | refine List.mem_append_right _ ?_)))) rfl hsi hv₀ ?_
      k_steps
      refine Wait.out ?_
      try dsimp only
      refine ds_yes hA (Has.at (by k_asm) (by k_asm) (by (intro p9 hp9; repeat (first | (with_reducible exact hp9) | (with_reducible exact sT _ hp9) | (with_reducible exact sA _ hp9) | (with_reducible exact List.mem_append_left _ hp9) | refine List.mem_cons_of_mem _ ?_ | refine List.mem_append_right _ ?_)))) hac ?_
      k_steps
      refine Wait.out ?_
      try dsimp only
      refine' use_flat (nat_tells _ _ hnc) (fun t => Value.int _ t) flat_int ?h21B ?h21F ?h21X ?h21N ?h21T ?h21k ?h21d ?h21u ?_
      case h21B => k_asm
      case h21F => k_asm
      case h21X => k_asm
      case h21N => k_asm
      case h21T => k_asm
      case h21k => exact rfl
      case h21d => exact hr₀
      case h21u => exact hu₀
      intro t9 h9 k9 F9 N9
      k_steps
      refine Wait.out ?_
      try dsimp only
      refine law_pow hpw (fun t8 => ?_)
      k_steps
      refine Wait.out ?_
      try dsimp only
      refine ds_sub hA (Has.at (by k_asm) (by k_asm) (by (intro p9 hp9; repeat (first | (with_reducible exact hp9) | (with_reducible exact sT _ hp9) | (with_reducible exact sA _ hp9) | (with_reducible exact List.mem_append_left _ hp9) | refine List.mem_cons_of_mem _ ?_ | refine List.mem_append_right _ ?_)))) hac (fun v S => ?_)
      obtain ⟨b, t1, t2, rfl, hT⟩ := sup_ints2 S
      k_steps
      refine Wait.out ?_
      try dsimp only
      refine item_tupleT (hT _ (Has.at (by k_asm) (by k_asm) (by (intro p9 hp9; repeat (first | (with_reducible exact hp9) | (with_reducible exact sT _ hp9) | (with_reducible exact sA _ hp9) | (with_reducible exact List.mem_append_left _ hp9) | refine List.mem_cons_of_mem _ ?_ | refine List.mem_append_right _ ?_))))) (by decide) (by decide) rfl rfl ?_
      k_steps
      refine Wait.out ?_
      try dsimp only
      refine law_nei hv₀ ?_
      k_steps
      refine hP _ ?_
      refine' law_end4 (by k_asm) (by k_asm) (fun p hp => ?_) ?_
      · (try simp only [List.cons_append, List.append_assoc, List.nil_append] at hp)
        (repeat (first | (with_reducible exact hp) | refine List.mem_cons_of_mem _ ?_ | refine List.mem_append_right _ ?_))
      intro z hz hc q1 q2 q3 q4
      simp only [m₃, hz, q1, q2, q3, q4, hc, if_false, Bool.false_eq_true]
    ))
end
end
end Mine
theorem PySem.Challenge.cw_nm0114_01_holds : PySem.Challenge.rw_nm0114_01.Holds :=
  Mine.law_holds
