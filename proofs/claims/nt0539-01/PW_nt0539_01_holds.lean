import PyProof.Rows.All
import Wide.All
import OpenK.AllK
import Wide.FinOn
import PySem.Challenge.RW_nt0539_01
open PySem PySem.W PyProof.Rows
set_option Elab.async false
namespace Mine
abbrev PW : Program := PySem.Challenge.pw_nt0539_01
def defAt (p : Program) (k : Nat) : Option (Arguments × List Stmt × Scope) := match p.main.body[k]? with
  | some (.FunctionDef _ a b _ _ _ s _ _ _) => some (a, b, s)
  | _ => none
/-- the top without its loose statements -/
noncomputable def VW : Program := view PW [1, 2, 3, 4, 5, 7, 8, 9, 10, 11, 12, 14, 15, 16, 17, 18, 19, 20]
set_option maxRecDepth 100000 in
/-- the objects that the top leaves and the law reaches -/
noncomputable def KF : Params → Frag := fun P => (fun (p1 : Arguments) (b1 : List Stmt) (s1 : Scope) (p3 : Arguments) (b3 : List Stmt) (s3 : Scope) (p4 : Arguments) (b4 : List Stmt) (s4 : Scope) (p5 : Arguments) (b5 : List Stmt) (s5 : Scope) (p10 : Arguments) (b10 : List Stmt) (s10 : Scope) (p11 : Arguments) (b11 : List Stmt) (s11 : Scope) (p12 : Arguments) (b12 : List Stmt) (s12 : Scope) (p14 : Arguments) (b14 : List Stmt) (s14 : Scope) (p15 : Arguments) (b15 : List Stmt) (s15 : Scope) (p16 : Arguments) (b16 : List Stmt) (s16 : Scope) (p17 : Arguments) (b17 : List Stmt) (s17 : Scope) (p18 : Arguments) (b18 : List Stmt) (s18 : Scope) (p19 : Arguments) (b19 : List Stmt) (s19 : Scope) (p20 : Arguments) (b20 : List Stmt) (s20 : Scope) (_ : defAt PW 1 = some (p1, b1, s1)) (_ : defAt PW 3 = some (p3, b3, s3)) (_ : defAt PW 4 = some (p4, b4, s4)) (_ : defAt PW 5 = some (p5, b5, s5)) (_ : defAt PW 10 = some (p10, b10, s10)) (_ : defAt PW 11 = some (p11, b11, s11)) (_ : defAt PW 12 = some (p12, b12, s12)) (_ : defAt PW 14 = some (p14, b14, s14)) (_ : defAt PW 15 = some (p15, b15, s15)) (_ : defAt PW 16 = some (p16, b16, s16)) (_ : defAt PW 17 = some (p17, b17, s17)) (_ : defAt PW 18 = some (p18, b18, s18)) (_ : defAt PW 19 = some (p19, b19, s19)) (_ : defAt PW 20 = some (p20, b20, s20)) => ((nat_lit 2, { cls := Value.none, data := Data.dict #[] }) ::
    (nat_lit 3,
      { cls := Value.type "dict",
        data :=
          Data.dict
            #[{ hash := PyData.keyHash P (Str.ofString "__name__"), key := Value.str (Str.ofString "__name__") 165,
                val := Value.str (Str.ofString "law_nt0539_01") 870 },
              { hash := PyData.keyHash P (Str.ofString "__doc__"), key := Value.str (Str.ofString "__doc__") 166,
                val := Value.none },
              { hash := PyData.keyHash P (Str.ofString "__package__"),
                key := Value.str (Str.ofString "__package__") 167, val := Value.none },
              { hash := PyData.keyHash P (Str.ofString "__loader__"), key := Value.str (Str.ofString "__loader__") 168,
                val := Value.builtin ("__main__.__loader__#opa" ++ "que") },
              { hash := PyData.keyHash P (Str.ofString "__spec__"), key := Value.str (Str.ofString "__spec__") 169,
                val := Value.none },
              { hash := PyData.keyHash P (Str.ofString "__annotations__"),
                key := Value.str (Str.ofString "__annotations__") 170, val := Value.ref 6 },
              { hash := PyData.keyHash P (Str.ofString "__builtins__"),
                key := Value.str (Str.ofString "__builtins__") 171, val := Value.ref 4 },
              { hash := PyData.keyHash P (Str.ofString "__file__"), key := Value.str (Str.ofString "__file__") 173,
                val := Value.str (Str.ofString "/claim/cut.py") 172 },
              { hash := PyData.keyHash P (Str.ofString "__cached__"), key := Value.str (Str.ofString "__cached__") 174,
                val := Value.none },
              { hash := PyData.keyHash P (Str.ofString "zigzag_places"),
                key := Value.str (Str.ofString "zigzag_places") 201, val := Value.ref 21 },
              { hash := PyData.keyHash P (Str.ofString "ORDER_8"), key := Value.str (Str.ofString "ORDER_8") 794,
                val := Value.ref 239 },
              { hash := PyData.keyHash P (Str.ofString "order"), key := Value.str (Str.ofString "order") 801,
                val := Value.ref 246 },
              { hash := PyData.keyHash P (Str.ofString "to_row"), key := Value.str (Str.ofString "to_row") 807,
                val := Value.ref 251 },
              { hash := PyData.keyHash P (Str.ofString "to_block"), key := Value.str (Str.ofString "to_block") 818,
                val := Value.ref 258 },
              { hash := PyData.keyHash P (Str.ofString "SWAPPING"), key := Value.str (Str.ofString "SWAPPING") 825,
                val := Value.ref 259 },
              { hash := PyData.keyHash P (Str.ofString "MIRRORING"), key := Value.str (Str.ofString "MIRRORING") 830,
                val := Value.ref 260 },
              { hash := PyData.keyHash P (Str.ofString "FLIPPING"), key := Value.str (Str.ofString "FLIPPING") 835,
                val := Value.ref 261 },
              { hash := PyData.keyHash P (Str.ofString "turned_row"), key := Value.str (Str.ofString "turned_row") 849,
                val := Value.ref 268 },
              { hash := PyData.keyHash P (Str.ofString "turned_divisors"),
                key := Value.str (Str.ofString "turned_divisors") 858, val := Value.ref 275 },
              { hash := PyData.keyHash P (Str.ofString "turned_place"),
                key := Value.str (Str.ofString "turned_place") 869, val := Value.ref 282 },
              { hash := PyData.keyHash P (Str.ofString "_law_pool"), key := Value.str (Str.ofString "_law_pool") 882,
                val := Value.ref 289 },
              { hash := PyData.keyHash P (Str.ofString "_law_take"), key := Value.str (Str.ofString "_law_take") 891,
                val := Value.ref 296 },
              { hash := PyData.keyHash P (Str.ofString "_law_wave"), key := Value.str (Str.ofString "_law_wave") 901,
                val := Value.ref 303 },
              { hash := PyData.keyHash P (Str.ofString "_law_samples"),
                key := Value.str (Str.ofString "_law_samples") 916, val := Value.ref 310 },
              { hash := PyData.keyHash P (Str.ofString "_law_led"), key := Value.str (Str.ofString "_law_led") 927,
                val := Value.ref 317 },
              { hash := PyData.keyHash P (Str.ofString "_law_turned"),
                key := Value.str (Str.ofString "_law_turned") 940, val := Value.ref 324 },
              { hash := PyData.keyHash P (Str.ofString "law"), key := Value.str (Str.ofString "law") 946,
                val := Value.ref 329 }]
            27 }) ::
    (nat_lit 6, { cls := Value.type "dict", data := Data.dict #[] }) ::
    (nat_lit 15, { cls := Value.type "tuple", data := Data.seq #[] }) ::
    (nat_lit 17,
      { cls := Value.type "tuple",
        data :=
          Data.seq
            #[Value.str (Str.ofString "n") 192, Value.str (Str.ofString "found") 193,
              Value.str (Str.ofString "total") 194, Value.str (Str.ofString "low") 195,
              Value.str (Str.ofString "high") 196, Value.str (Str.ofString "rows") 197,
              Value.str (Str.ofString "y") 198] }) ::
    (nat_lit 18, { cls := Value.type "tuple", data := Data.seq #[] }) ::
    (nat_lit 20,
      { cls := Value.type "code",
        data :=
          Data.fields
            #[Value.str (Str.ofString "zigzag_places") 189, Value.str (Str.ofString "zigzag_places") 190,
              Value.str (Str.ofString "/claim/cut.py") 191, Value.int 2 0, Value.int 1 0, Value.int 0 0, Value.int 0 0,
              Value.int 3 0, Value.ref 15, Value.bool true, Value.int 181 0, Value.ref 16, Value.none, Value.ref 17,
              Value.ref 18, Value.ref 19, Value.int 199 0, Value.int 2 0,
              Value.str (Str.ofString "/claim/cut.py") 200] }) ::
    (nat_lit 21,
      { cls := Value.type "function",
        data :=
          Data.func
            { name := Str.ofString "zigzag_places", qualname := Str.ofString "zigzag_places", params := p1,
              body := FuncBody.stmts b1, scope := s1, globals := 3, closure := [], defaults := Value.none,
              kwdefaults := Value.none, pyModule := Value.str (Str.ofString "pixelpress.zigzag") 187,
              code := Value.ref 20 } }) ::
    (nat_lit 239,
      { cls := Value.type "tuple",
        data :=
          Data.seq
            #[Value.int 0 233, Value.int 1 255, Value.int 8 260, Value.int 16 283, Value.int 9 288, Value.int 2 293,
              Value.int 3 315, Value.int 10 320, Value.int 17 325, Value.int 24 330, Value.int 32 353, Value.int 25 358,
              Value.int 18 363, Value.int 11 368, Value.int 4 373, Value.int 5 395, Value.int 12 400, Value.int 19 405,
              Value.int 26 410, Value.int 33 415, Value.int 40 420, Value.int 48 443, Value.int 41 448,
              Value.int 34 453, Value.int 27 458, Value.int 20 463, Value.int 13 468, Value.int 6 473, Value.int 7 495,
              Value.int 14 500, Value.int 21 505, Value.int 28 510, Value.int 35 515, Value.int 42 520,
              Value.int 49 525, Value.int 56 530, Value.int 57 553, Value.int 50 558, Value.int 43 563,
              Value.int 36 568, Value.int 29 573, Value.int 22 578, Value.int 15 583, Value.int 23 605,
              Value.int 30 610, Value.int 37 615, Value.int 44 620, Value.int 51 625, Value.int 58 630,
              Value.int 59 653, Value.int 52 658, Value.int 45 663, Value.int 38 668, Value.int 31 673,
              Value.int 39 695, Value.int 46 700, Value.int 53 705, Value.int 60 710, Value.int 61 733,
              Value.int 54 738, Value.int 47 743, Value.int 55 765, Value.int 62 770, Value.int 63 793] }) ::
    (nat_lit 240, { cls := Value.type "tuple", data := Data.seq #[] }) ::
    (nat_lit 242, { cls := Value.type "tuple", data := Data.seq #[Value.str (Str.ofString "n") 798] }) ::
    (nat_lit 243, { cls := Value.type "tuple", data := Data.seq #[] }) ::
    (nat_lit 245,
      { cls := Value.type "code",
        data :=
          Data.fields
            #[Value.str (Str.ofString "order") 795, Value.str (Str.ofString "order") 796,
              Value.str (Str.ofString "/claim/cut.py") 797, Value.int 12 0, Value.int 1 0, Value.int 0 0, Value.int 0 0,
              Value.int 3 0, Value.ref 240, Value.bool true, Value.int 181 0, Value.ref 241, Value.none, Value.ref 242,
              Value.ref 243, Value.ref 244, Value.int 799 0, Value.int 12 0,
              Value.str (Str.ofString "/claim/cut.py") 800] }) ::
    (nat_lit 246,
      { cls := Value.type "function",
        data :=
          Data.func
            { name := Str.ofString "order", qualname := Str.ofString "order", params := p3, body := FuncBody.stmts b3,
              scope := s3, globals := 3, closure := [], defaults := Value.none, kwdefaults := Value.none,
              pyModule := Value.str (Str.ofString "pixelpress.zigzag") 187, code := Value.ref 245 } }) ::
    (nat_lit 247, { cls := Value.type "tuple", data := Data.seq #[] }) ::
    (nat_lit 250,
      { cls := Value.type "code",
        data :=
          Data.fields
            #[Value.str (Str.ofString "to_row") 802, Value.str (Str.ofString "to_row") 803,
              Value.str (Str.ofString "/claim/cut.py") 804, Value.int 14 0, Value.int 2 0, Value.int 0 0, Value.int 0 0,
              Value.int 3 0, Value.ref 247, Value.bool true, Value.int 181 0, Value.ref 248, Value.none, Value.none,
              Value.none, Value.ref 249, Value.int 805 0, Value.int 14 0,
              Value.str (Str.ofString "/claim/cut.py") 806] }) ::
    (nat_lit 251,
      { cls := Value.type "function",
        data :=
          Data.func
            { name := Str.ofString "to_row", qualname := Str.ofString "to_row", params := p4, body := FuncBody.stmts b4,
              scope := s4, globals := 3, closure := [], defaults := Value.none, kwdefaults := Value.none,
              pyModule := Value.str (Str.ofString "pixelpress.zigzag") 187, code := Value.ref 250 } }) ::
    (nat_lit 252, { cls := Value.type "tuple", data := Data.seq #[] }) ::
    (nat_lit 254,
      { cls := Value.type "tuple",
        data :=
          Data.seq
            #[Value.str (Str.ofString "row") 811, Value.str (Str.ofString "n") 812,
              Value.str (Str.ofString "found") 813, Value.str (Str.ofString "rank") 814,
              Value.str (Str.ofString "place") 815] }) ::
    (nat_lit 255, { cls := Value.type "tuple", data := Data.seq #[] }) ::
    (nat_lit 257,
      { cls := Value.type "code",
        data :=
          Data.fields
            #[Value.str (Str.ofString "to_block") 808, Value.str (Str.ofString "to_block") 809,
              Value.str (Str.ofString "/claim/cut.py") 810, Value.int 16 0, Value.int 2 0, Value.int 0 0, Value.int 0 0,
              Value.int 3 0, Value.ref 252, Value.bool true, Value.int 181 0, Value.ref 253, Value.none, Value.ref 254,
              Value.ref 255, Value.ref 256, Value.int 816 0, Value.int 16 0,
              Value.str (Str.ofString "/claim/cut.py") 817] }) ::
    (nat_lit 258,
      { cls := Value.type "function",
        data :=
          Data.func
            { name := Str.ofString "to_block", qualname := Str.ofString "to_block", params := p5,
              body := FuncBody.stmts b5, scope := s5, globals := 3, closure := [], defaults := Value.none,
              kwdefaults := Value.none, pyModule := Value.str (Str.ofString "pixelpress.zigzag") 187,
              code := Value.ref 257 } }) ::
    (nat_lit 259,
      { cls := Value.type "tuple",
        data :=
          Data.seq
            #[Value.str (Str.ofString "left") 821, Value.str (Str.ofString "right") 822,
              Value.str (Str.ofString "swap") 823, Value.str (Str.ofString "cross") 824] }) ::
    (nat_lit 260,
      { cls := Value.type "tuple",
        data :=
          Data.seq
            #[Value.str (Str.ofString "back") 826, Value.str (Str.ofString "right") 827,
              Value.str (Str.ofString "mirror") 828, Value.str (Str.ofString "cross") 829] }) ::
    (nat_lit 261,
      { cls := Value.type "tuple",
        data :=
          Data.seq
            #[Value.str (Str.ofString "left") 831, Value.str (Str.ofString "back") 832,
              Value.str (Str.ofString "flip") 833, Value.str (Str.ofString "cross") 834] }) ::
    (nat_lit 262, { cls := Value.type "tuple", data := Data.seq #[] }) ::
    (nat_lit 264,
      { cls := Value.type "tuple",
        data :=
          Data.seq
            #[Value.str (Str.ofString "row") 839, Value.str (Str.ofString "word") 840, Value.str (Str.ofString "n") 841,
              Value.str (Str.ofString "block") 842, Value.str (Str.ofString "found") 843,
              Value.str (Str.ofString "down") 844, Value.str (Str.ofString "across") 845,
              Value.str (Str.ofString "value") 846] }) ::
    (nat_lit 265, { cls := Value.type "tuple", data := Data.seq #[] }) ::
    (nat_lit 267,
      { cls := Value.type "code",
        data :=
          Data.fields
            #[Value.str (Str.ofString "turned_row") 836, Value.str (Str.ofString "turned_row") 837,
              Value.str (Str.ofString "/claim/cut.py") 838, Value.int 27 0, Value.int 3 0, Value.int 0 0, Value.int 0 0,
              Value.int 3 0, Value.ref 262, Value.bool true, Value.int 181 0, Value.ref 263, Value.none, Value.ref 264,
              Value.ref 265, Value.ref 266, Value.int 847 0, Value.int 27 0,
              Value.str (Str.ofString "/claim/cut.py") 848] }) ::
    (nat_lit 268,
      { cls := Value.type "function",
        data :=
          Data.func
            { name := Str.ofString "turned_row", qualname := Str.ofString "turned_row", params := p10,
              body := FuncBody.stmts b10, scope := s10, globals := 3, closure := [], defaults := Value.none,
              kwdefaults := Value.none, pyModule := Value.str (Str.ofString "pixelpress.turning") 819,
              code := Value.ref 267 } }) ::
    (nat_lit 269, { cls := Value.type "tuple", data := Data.seq #[] }) ::
    (nat_lit 271,
      { cls := Value.type "tuple",
        data :=
          Data.seq
            #[Value.str (Str.ofString "qtable") 853, Value.str (Str.ofString "word") 854,
              Value.str (Str.ofString "n") 855] }) ::
    (nat_lit 272, { cls := Value.type "tuple", data := Data.seq #[] }) ::
    (nat_lit 274,
      { cls := Value.type "code",
        data :=
          Data.fields
            #[Value.str (Str.ofString "turned_divisors") 850, Value.str (Str.ofString "turned_divisors") 851,
              Value.str (Str.ofString "/claim/cut.py") 852, Value.int 38 0, Value.int 3 0, Value.int 0 0, Value.int 0 0,
              Value.int 3 0, Value.ref 269, Value.bool true, Value.int 181 0, Value.ref 270, Value.none, Value.ref 271,
              Value.ref 272, Value.ref 273, Value.int 856 0, Value.int 38 0,
              Value.str (Str.ofString "/claim/cut.py") 857] }) ::
    (nat_lit 275,
      { cls := Value.type "function",
        data :=
          Data.func
            { name := Str.ofString "turned_divisors", qualname := Str.ofString "turned_divisors", params := p11,
              body := FuncBody.stmts b11, scope := s11, globals := 3, closure := [], defaults := Value.none,
              kwdefaults := Value.none, pyModule := Value.str (Str.ofString "pixelpress.turning") 819,
              code := Value.ref 274 } }) ::
    (nat_lit 276, { cls := Value.type "tuple", data := Data.seq #[] }) ::
    (nat_lit 278,
      { cls := Value.type "tuple",
        data :=
          Data.seq
            #[Value.str (Str.ofString "x") 862, Value.str (Str.ofString "y") 863, Value.str (Str.ofString "across") 864,
              Value.str (Str.ofString "down") 865, Value.str (Str.ofString "word") 866] }) ::
    (nat_lit 279, { cls := Value.type "tuple", data := Data.seq #[] }) ::
    (nat_lit 281,
      { cls := Value.type "code",
        data :=
          Data.fields
            #[Value.str (Str.ofString "turned_place") 859, Value.str (Str.ofString "turned_place") 860,
              Value.str (Str.ofString "/claim/cut.py") 861, Value.int 40 0, Value.int 5 0, Value.int 0 0, Value.int 0 0,
              Value.int 3 0, Value.ref 276, Value.bool true, Value.int 181 0, Value.ref 277, Value.none, Value.ref 278,
              Value.ref 279, Value.ref 280, Value.int 867 0, Value.int 40 0,
              Value.str (Str.ofString "/claim/cut.py") 868] }) ::
    (nat_lit 282,
      { cls := Value.type "function",
        data :=
          Data.func
            { name := Str.ofString "turned_place", qualname := Str.ofString "turned_place", params := p12,
              body := FuncBody.stmts b12, scope := s12, globals := 3, closure := [], defaults := Value.none,
              kwdefaults := Value.none, pyModule := Value.str (Str.ofString "pixelpress.turning") 819,
              code := Value.ref 281 } }) ::
    (nat_lit 283, { cls := Value.type "tuple", data := Data.seq #[] }) ::
    (nat_lit 285,
      { cls := Value.type "tuple",
        data :=
          Data.seq
            #[Value.str (Str.ofString "script") 875, Value.str (Str.ofString "k") 876,
              Value.str (Str.ofString "cell") 877, Value.str (Str.ofString "big") 878,
              Value.str (Str.ofString "mixed") 879] }) ::
    (nat_lit 286, { cls := Value.type "tuple", data := Data.seq #[] }) ::
    (nat_lit 288,
      { cls := Value.type "code",
        data :=
          Data.fields
            #[Value.str (Str.ofString "_law_pool") 872, Value.str (Str.ofString "_law_pool") 873,
              Value.str (Str.ofString "/claim/cut.py") 874, Value.int 50 0, Value.int 2 0, Value.int 0 0, Value.int 0 0,
              Value.int 3 0, Value.ref 283, Value.bool true, Value.int 181 0, Value.ref 284, Value.none, Value.ref 285,
              Value.ref 286, Value.ref 287, Value.int 880 0, Value.int 50 0,
              Value.str (Str.ofString "/claim/cut.py") 881] }) ::
    (nat_lit 289,
      { cls := Value.type "function",
        data :=
          Data.func
            { name := Str.ofString "_law_pool", qualname := Str.ofString "_law_pool", params := p14,
              body := FuncBody.stmts b14, scope := s14, globals := 3, closure := [], defaults := Value.none,
              kwdefaults := Value.none, pyModule := Value.str (Str.ofString "law_nt0539_01") 870,
              code := Value.ref 288 } }) ::
    (nat_lit 290, { cls := Value.type "tuple", data := Data.seq #[] }) ::
    (nat_lit 292,
      { cls := Value.type "tuple",
        data :=
          Data.seq
            #[Value.str (Str.ofString "source") 886, Value.str (Str.ofString "top") 887,
              Value.str (Str.ofString "drawn") 888] }) ::
    (nat_lit 293, { cls := Value.type "tuple", data := Data.seq #[] }) ::
    (nat_lit 295,
      { cls := Value.type "code",
        data :=
          Data.fields
            #[Value.str (Str.ofString "_law_take") 883, Value.str (Str.ofString "_law_take") 884,
              Value.str (Str.ofString "/claim/cut.py") 885, Value.int 57 0, Value.int 2 0, Value.int 0 0, Value.int 0 0,
              Value.int 3 0, Value.ref 290, Value.bool true, Value.int 181 0, Value.ref 291, Value.none, Value.ref 292,
              Value.ref 293, Value.ref 294, Value.int 889 0, Value.int 57 0,
              Value.str (Str.ofString "/claim/cut.py") 890] }) ::
    (nat_lit 296,
      { cls := Value.type "function",
        data :=
          Data.func
            { name := Str.ofString "_law_take", qualname := Str.ofString "_law_take", params := p15,
              body := FuncBody.stmts b15, scope := s15, globals := 3, closure := [], defaults := Value.none,
              kwdefaults := Value.none, pyModule := Value.str (Str.ofString "law_nt0539_01") 870,
              code := Value.ref 295 } }) ::
    (nat_lit 297, { cls := Value.type "tuple", data := Data.seq #[] }) ::
    (nat_lit 299,
      { cls := Value.type "tuple",
        data :=
          Data.seq
            #[Value.str (Str.ofString "k") 895, Value.str (Str.ofString "x") 896, Value.str (Str.ofString "n") 897,
              Value.str (Str.ofString "rows") 898] }) ::
    (nat_lit 300, { cls := Value.type "tuple", data := Data.seq #[] }) ::
    (nat_lit 302,
      { cls := Value.type "code",
        data :=
          Data.fields
            #[Value.str (Str.ofString "_law_wave") 892, Value.str (Str.ofString "_law_wave") 893,
              Value.str (Str.ofString "/claim/cut.py") 894, Value.int 64 0, Value.int 3 0, Value.int 0 0, Value.int 0 0,
              Value.int 3 0, Value.ref 297, Value.bool true, Value.int 181 0, Value.ref 298, Value.none, Value.ref 299,
              Value.ref 300, Value.ref 301, Value.int 899 0, Value.int 64 0,
              Value.str (Str.ofString "/claim/cut.py") 900] }) ::
    (nat_lit 303,
      { cls := Value.type "function",
        data :=
          Data.func
            { name := Str.ofString "_law_wave", qualname := Str.ofString "_law_wave", params := p16,
              body := FuncBody.stmts b16, scope := s16, globals := 3, closure := [], defaults := Value.none,
              kwdefaults := Value.none, pyModule := Value.str (Str.ofString "law_nt0539_01") 870,
              code := Value.ref 302 } }) ::
    (nat_lit 304, { cls := Value.type "tuple", data := Data.seq #[] }) ::
    (nat_lit 306,
      { cls := Value.type "tuple",
        data :=
          Data.seq
            #[Value.str (Str.ofString "row") 905, Value.str (Str.ofString "n") 906,
              Value.str (Str.ofString "block") 907, Value.str (Str.ofString "found") 908,
              Value.str (Str.ofString "y") 909, Value.str (Str.ofString "x") 910, Value.str (Str.ofString "total") 911,
              Value.str (Str.ofString "v") 912, Value.str (Str.ofString "u") 913] }) ::
    (nat_lit 307, { cls := Value.type "tuple", data := Data.seq #[] }) ::
    (nat_lit 309,
      { cls := Value.type "code",
        data :=
          Data.fields
            #[Value.str (Str.ofString "_law_samples") 902, Value.str (Str.ofString "_law_samples") 903,
              Value.str (Str.ofString "/claim/cut.py") 904, Value.int 67 0, Value.int 2 0, Value.int 0 0, Value.int 0 0,
              Value.int 3 0, Value.ref 304, Value.bool true, Value.int 181 0, Value.ref 305, Value.none, Value.ref 306,
              Value.ref 307, Value.ref 308, Value.int 914 0, Value.int 67 0,
              Value.str (Str.ofString "/claim/cut.py") 915] }) ::
    (nat_lit 310,
      { cls := Value.type "function",
        data :=
          Data.func
            { name := Str.ofString "_law_samples", qualname := Str.ofString "_law_samples", params := p17,
              body := FuncBody.stmts b17, scope := s17, globals := 3, closure := [], defaults := Value.none,
              kwdefaults := Value.none, pyModule := Value.str (Str.ofString "law_nt0539_01") 870,
              code := Value.ref 309 } }) ::
    (nat_lit 311, { cls := Value.type "tuple", data := Data.seq #[] }) ::
    (nat_lit 313,
      { cls := Value.type "tuple",
        data :=
          Data.seq
            #[Value.str (Str.ofString "x") 920, Value.str (Str.ofString "y") 921, Value.str (Str.ofString "across") 922,
              Value.str (Str.ofString "down") 923, Value.str (Str.ofString "wish") 924] }) ::
    (nat_lit 314, { cls := Value.type "tuple", data := Data.seq #[] }) ::
    (nat_lit 316,
      { cls := Value.type "code",
        data :=
          Data.fields
            #[Value.str (Str.ofString "_law_led") 917, Value.str (Str.ofString "_law_led") 918,
              Value.str (Str.ofString "/claim/cut.py") 919, Value.int 77 0, Value.int 5 0, Value.int 0 0, Value.int 0 0,
              Value.int 3 0, Value.ref 311, Value.bool true, Value.int 181 0, Value.ref 312, Value.none, Value.ref 313,
              Value.ref 314, Value.ref 315, Value.int 925 0, Value.int 77 0,
              Value.str (Str.ofString "/claim/cut.py") 926] }) ::
    (nat_lit 317,
      { cls := Value.type "function",
        data :=
          Data.func
            { name := Str.ofString "_law_led", qualname := Str.ofString "_law_led", params := p18,
              body := FuncBody.stmts b18, scope := s18, globals := 3, closure := [], defaults := Value.none,
              kwdefaults := Value.none, pyModule := Value.str (Str.ofString "law_nt0539_01") 870,
              code := Value.ref 316 } }) ::
    (nat_lit 318, { cls := Value.type "tuple", data := Data.seq #[] }) ::
    (nat_lit 320,
      { cls := Value.type "tuple",
        data :=
          Data.seq
            #[Value.str (Str.ofString "samples") 931, Value.str (Str.ofString "wish") 932,
              Value.str (Str.ofString "n") 933, Value.str (Str.ofString "found") 934, Value.str (Str.ofString "y") 935,
              Value.str (Str.ofString "x") 936, Value.str (Str.ofString "goal") 937] }) ::
    (nat_lit 321, { cls := Value.type "tuple", data := Data.seq #[] }) ::
    (nat_lit 323,
      { cls := Value.type "code",
        data :=
          Data.fields
            #[Value.str (Str.ofString "_law_turned") 928, Value.str (Str.ofString "_law_turned") 929,
              Value.str (Str.ofString "/claim/cut.py") 930, Value.int 93 0, Value.int 3 0, Value.int 0 0, Value.int 0 0,
              Value.int 3 0, Value.ref 318, Value.bool true, Value.int 181 0, Value.ref 319, Value.none, Value.ref 320,
              Value.ref 321, Value.ref 322, Value.int 938 0, Value.int 93 0,
              Value.str (Str.ofString "/claim/cut.py") 939] }) ::
    (nat_lit 324,
      { cls := Value.type "function",
        data :=
          Data.func
            { name := Str.ofString "_law_turned", qualname := Str.ofString "_law_turned", params := p19,
              body := FuncBody.stmts b19, scope := s19, globals := 3, closure := [], defaults := Value.none,
              kwdefaults := Value.none, pyModule := Value.str (Str.ofString "law_nt0539_01") 870,
              code := Value.ref 323 } }) ::
    (nat_lit 325, { cls := Value.type "tuple", data := Data.seq #[] }) ::
    (nat_lit 328,
      { cls := Value.type "code",
        data :=
          Data.fields
            #[Value.str (Str.ofString "law") 941, Value.str (Str.ofString "law") 942,
              Value.str (Str.ofString "/claim/cut.py") 943, Value.int 100 0, Value.int 1 0, Value.int 0 0,
              Value.int 0 0, Value.int 3 0, Value.ref 325, Value.bool true, Value.int 181 0, Value.ref 326, Value.none,
              Value.none, Value.none, Value.ref 327, Value.int 944 0, Value.int 100 0,
              Value.str (Str.ofString "/claim/cut.py") 945] }) ::
    (nat_lit 329,
      { cls := Value.type "function",
        data :=
          Data.func
            { name := Str.ofString "law", qualname := Str.ofString "law", params := p20, body := FuncBody.stmts b20,
              scope := s20, globals := 3, closure := [], defaults := Value.none, kwdefaults := Value.none,
              pyModule := Value.str (Str.ofString "law_nt0539_01") 870, code := Value.ref 328 } }) :: [] : Frag)) _ _ _ _ _ _ _ _ _ _ _ _ _ _ _ _ _ _ _ _ _ _ _ _ _ _ _ _ _ _ _ _ _ _ _ _ _ _ _ _ _ _ rfl rfl rfl rfl rfl rfl rfl rfl rfl rfl rfl rfl rfl rfl
abbrev addrs : List Addr := [2, 3, 6, 15, 17, 18, 20, 21, 239, 240, 242, 243, 245, 246, 247, 250, 251, 252, 254, 255, 257, 258, 259, 260, 261, 262, 264, 265, 267, 268, 269, 271, 272, 274, 275, 276, 278, 279, 281, 282, 283, 285, 286, 288, 289, 290, 292, 293, 295, 296, 297, 299, 300, 302, 303, 304, 306, 307, 309, 310, 311, 313, 314, 316, 317, 318, 320, 321, 323, 324, 325, 328, 329]
abbrev looseV : List (PySem.Str × WData) := [(PySem.Str.ofString "ORDER_8", WData.tuple [WData.int 0, WData.int 1, WData.int 8, WData.int 16, WData.int 9, WData.int 2, WData.int 3, WData.int 10, WData.int 17, WData.int 24, WData.int 32, WData.int 25, WData.int 18, WData.int 11, WData.int 4, WData.int 5, WData.int 12, WData.int 19, WData.int 26, WData.int 33, WData.int 40, WData.int 48, WData.int 41, WData.int 34, WData.int 27, WData.int 20, WData.int 13, WData.int 6, WData.int 7, WData.int 14, WData.int 21, WData.int 28, WData.int 35, WData.int 42, WData.int 49, WData.int 56, WData.int 57, WData.int 50, WData.int 43, WData.int 36, WData.int 29, WData.int 22, WData.int 15, WData.int 23, WData.int 30, WData.int 37, WData.int 44, WData.int 51, WData.int 58, WData.int 59, WData.int 52, WData.int 45, WData.int 38, WData.int 31, WData.int 39, WData.int 46, WData.int 53, WData.int 60, WData.int 61, WData.int 54, WData.int 47, WData.int 55, WData.int 62, WData.int 63])]
theorem addrs_ok : ∀ P, addrs = (KF P).map (·.1) := fun _ => by kernel_rfl
noncomputable abbrev HK : Hook := kHook KF addrs addrs_ok
noncomputable abbrev Xt : Shared → Bool := fun s => xlAt VW looseV s && recOk PySem.Challenge.rw_nt0539_01.row.records s
abbrev loose1 : List PySem.Str := [PySem.Str.ofString "ORDER_8"]
/-- the machine over the heap as a tree, till the top is through -/
def runF (ok : Nat → Option Value → Thread → Bool) (st : (Code → Sem Fin) → Program → World → SharedT → Thread → Option (SharedT × Thread)) (dn : Code → Sem Fin) (p : Program) (w : World) (n₀ : Nat) (ann : Option Value) : Nat → SharedT → Thread → Option SharedT
  | 0, _, _ => none
  | n + 1, s, t => match through t with
    | true => some s
    | false => match ok n₀ ann t with
      | false => none
      | true => match st dn p w s t with
        | some (s', t') => runF ok st dn p w n₀ ann n s' t'
        | none => none
theorem runF_spec {p : Program} {w : World} {n₀ : Nat} {ann : Option Value} : ∀ (n : Nat) (s : SharedT) (t : Thread) (r : SharedT), runF stepOk stepT (denote treeTable) p w n₀ ann n s t = some r → topRun treeTable p w n₀ ann n s.abs t = some r.abs
  | 0, _, _, _, h => by cases h
  | n + 1, s, t, r, h => by
    unfold runF at h
    unfold topRun
    cases ht : through t with
    | true => rw [ht] at h; cases h; rfl
    | false =>
      rw [ht] at h
      dsimp only at h ⊢
      cases hk : stepOk n₀ ann t with
      | false => rw [hk] at h; cases h
      | true =>
        rw [hk] at h
        dsimp only at h ⊢
        cases hs : stepT (denote treeTable) p w s t with
        | none => rw [hs] at h; cases h
        | some q =>
          obtain ⟨s', t'⟩ := q
          rw [hs] at h
          rw [stepT_spec hs]
          exact runF_spec n s' t' r h
theorem runF_fast : @runF stepOk stepT (denote treeTable) = runF PySem.W.Fast.tw6613529449190102663 PySem.W.Fast.tw10156331382660048174 (PySem.W.Fast.tw11892475500146522536 PySem.W.Fast.tw14364793385576792824) := by
  rw [← PySem.W.Fast.te6613529449190102663, ← PySem.W.Fast.te10156331382660048174, ← PySem.W.Fast.te11892475500146522536, ← PySem.W.Fast.te14364793385576792824]
noncomputable def bootTree (P : Params) : BT := (.node (boot_o_0 P) (.node (boot_o_1 P) (.node (boot_o_3 P) (.node (boot_o_7 P) .nil .nil) .nil) (.node (boot_o_5 P) (.node (boot_o_9 P) .nil .nil) .nil)) (.node (boot_o_2 P) (.node (boot_o_4 P) (.node (boot_o_8 P) .nil .nil) .nil) (.node (boot_o_6 P) (.node (boot_o_10 P) .nil .nil) .nil)))
theorem boot_abs (P : Params) : boot_heap P = absHeap (bootTree P) 11 {} := by kernel_rfl
noncomputable def T0 (w : World) (os : OsState) : SharedT := ⟨bootTree w.params, 11, {}, #[], boot_drawn, 181, os⟩
/-- what the head's claim asks of the state behind the top -/
noncomputable def looksF (sn : type_of% @openSeen) (H₀ : Heap) (s : Shared) :=
  ((staticsOk (importedModules PW.main.body) H₀ s.heap && namesBound PW s.heap && gensDone s && laidKept H₀ s.heap),
    sn VW loose1 (importedModules PW.main.body) Xt true s, HK.obs s)
set_option maxHeartbeats 0 in
set_option maxRecDepth 100000 in
theorem chk_off (w : World) (os : OsState) : (runF PySem.W.Fast.tw6613529449190102663 PySem.W.Fast.tw10156331382660048174 (PySem.W.Fast.tw11892475500146522536 PySem.W.Fast.tw14364793385576792824) PW (w.withFollow "special-get-raises" false) 11 (some (.ref 6)) 18578 (T0 (w.withFollow "special-get-raises" false) os) (topStub PW)).map (fun T => looksF PySem.W.Fast.tw4187177175401517315 (boot_heap (w.withFollow "special-get-raises" false).params) T.abs) = some (true, openGood VW loose1, HK.val (w.withFollow "special-get-raises" false)) := by kernel_rfl
set_option maxHeartbeats 0 in
set_option maxRecDepth 100000 in
theorem chk_on (w : World) (os : OsState) : (runF PySem.W.Fast.tw6613529449190102663 PySem.W.Fast.tw10156331382660048174 (PySem.W.Fast.tw11892475500146522536 PySem.W.Fast.tw14364793385576792824) PW (w.withFollow "special-get-raises" true) 11 (some (.ref 6)) 18578 (T0 (w.withFollow "special-get-raises" true) os) (topStub PW)).map (fun T => looksF PySem.W.Fast.tw4187177175401517315 (boot_heap (w.withFollow "special-get-raises" true).params) T.abs) = some (true, openGood VW loose1, HK.val (w.withFollow "special-get-raises" true)) := by kernel_rfl
theorem chk (w : World) : ∀ os : OsState, (runF stepOk stepT (denote treeTable) PW w 11 (some (.ref 6)) 18578 (T0 w os) (topStub PW)).map (fun T => looksF @openSeen (boot_heap w.params) T.abs) = some (true, openGood VW loose1, HK.val w) := by
  rw [runF_fast, PySem.W.Fast.te4187177175401517315]
  exact byRow2 (P := fun w => ∀ os : OsState, (runF PySem.W.Fast.tw6613529449190102663 PySem.W.Fast.tw10156331382660048174 (PySem.W.Fast.tw11892475500146522536 PySem.W.Fast.tw14364793385576792824) PW w 11 (some (.ref 6)) 18578 (T0 w os) (topStub PW)).map (fun T => looksF PySem.W.Fast.tw4187177175401517315 (boot_heap w.params) T.abs) = some (true, openGood VW loose1, HK.val w)) "special-get-raises" chk_off chk_on w
theorem boot_size (w : World) : ((boot_heap w.params).isNs mainGlobals && (#[] : Array GenState).size == 0, (boot_heap w.params).objs.size, (boot_heap w.params).nsMap mainGlobals "__annotations__") = (true, 11, some (.ref 6)) := by kernel_rfl
theorem opens : opening PW = plainProg PW.main.scope.names := by kernel_rfl
theorem fences : ∀ s, fenceModules? PW s = some s := fun _ => by kernel_rfl
theorem left : LeftO PW VW loose1 Xt HK.obs HK.val 18578 := fun w => by
  obtain ⟨⟨h, gs, d, k, os⟩, e, e'⟩ := Option.map_eq_some_iff.mp (boot_open opens (N := 18578) (by decide) fences w)
  obtain ⟨rfl, rfl, rfl, rfl⟩ : h = boot_heap w.params ∧ gs = #[] ∧ d = boot_drawn ∧ k = boot_toks := by simpa using e'
  obtain ⟨T, hT, hl⟩ := Option.map_eq_some_iff.mp (chk w os)
  have r := runF_spec _ _ _ _ hT
  have e0 : (T0 w os).abs = ⟨boot_heap w.params, #[], boot_drawn, boot_toks, os⟩ := by rw [boot_abs]; rfl
  rw [e0] at r
  obtain ⟨z1, z2, z3⟩ : _ ∧ _ ∧ _ := by simpa only [Prod.mk.injEq] using boot_size w
  obtain ⟨l1, l2, l3⟩ : _ ∧ _ ∧ _ := by simpa only [looksF, Prod.mk.injEq] using hl
  have t : topFrom treeTable PW w 18578 ⟨boot_heap w.params, #[], boot_drawn, boot_toks, os⟩ = some T.abs := by
    unfold topFrom
    dsimp only
    rw [z1, z2, z3, r]
    show (match staticsOk (importedModules PW.main.body) (boot_heap w.params) T.abs.heap && namesBound PW T.abs.heap && gensDone T.abs && laidKept (boot_heap w.params) T.abs.heap with | true => _ | false => _) = _
    rw [l1]
  unfold openEnds
  rw [e]
  show (topFrom treeTable PW w 18578 _).map _ = _
  rw [t]
  exact congrArg some (Prod.ext l2 l3)
end Mine
namespace Mine
open PySem.Spec PySem.Calls
/-- a goal of the walk at which our own script goes on by hand -/
def Stop (P : Prop) : Prop := P
theorem Stop.mk {P : Prop} (h : P) : Stop P := h
theorem Stop.out {P : Prop} (h : Stop P) : P := h
section
variable {prog : Program} {w : World} {A₀ A : Around} {s : Shared} {base h₀ : Heap} {outer : List Env} {L : Addr} {m : PySem.Str → Option Value} {env : Env} {news : List (Addr × Obj)} {K : Frag} {p : Program} {loose : List PySem.Str} {mean : ExcName → Option Value} {mg mb : PySem.Str → Option Value}
  {R : Result → Shared → Prop} {name qual : PySem.Str} {params : Arguments} {body : List Stmt} {scope : Scope} {dV kV doc pm cdv ct oc : Value} {an od : Option Addr} {osl : Array (Option Value)} {f : Addr} {args : Args} {binds : List (PySem.Str × Value)}
/-- into a def of the text; what the body may change is `news` alone, all else of the heap stands in its ground -/
theorem enter (B : Below A₀ base outer h₀) (F : Fr h₀ L s.heap m) (X₀ : K.In h₀) (N : News h₀ L s.heap news) (T : Top p loose mean mg mb h₀) (hA : A.frames = some (env :: outer)) (hf : env.frame = some L) (hke : env.scope.kind = .function)
    (ho : K.lookup f = some ⟨oc, od, .func (fnOf name qual params body scope dV kV doc pm an cdv ct), osl⟩) (hcd : codeIn K cdv qual = true) (hroom : A.depth < recursionLimit)
    (hbind : BindsTo s (fnOf name qual params body scope dV kV doc pm an cdv ct) args binds) (hloc : ∀ y ∈ binds, scope.names.lookup y.1 = some .local)
    (h : ∀ g L' h₁ tk, (∀ b o, s.heap.get? b = some o → b ∉ news.map (·.1) → g.get? b = some o) → s.heap.objs.size = L' → Fr g L' h₁ (fun y => binds.reverse.lookup y) → News g L' h₁ news → Below A base (env :: outer) g → K.In g → Top p loose mean mg mb g →
      wpAny (model prog w) (A.deeper (envOf qual scope L' f cdv)) (execs body (envOf qual scope L' f cdv))
        (fun fl s' => R (.ok (.ret (match fl with | .ret v => v | _ => .none))) s')
        (fun e s' => wpAny (model prog w) (A.deeper (envOf qual scope L' f cdv)) (leaving (envOf qual scope L' f cdv) e) (fun _ s'' => R (.error e) s'') (fun e' s'' => R (.error e') s'') s')
        { s with heap := h₁, toks := tk })
    (hco : scope.isCoroutine = false) (hgen : scope.isGenerator = false) (hk : scope.kind = .function) (hcell : ∀ x ∈ scope.names, x.2 ≠ .cell) : codeAny (model prog w) A (.call (.ref f) args) R s := by
  obtain ⟨_, BG, st, _⟩ := groundX (R := R) B F N hA hf hke
  have X := X₀.keeps F.keep
  refine codeAny_call_def (fd := fnOf name qual params body scope dV kV doc pm an cdv ct) (body := body) (binds := binds) hroom (X _ _ ho) rfl (T.nolimit.keeps F.keep) (codeRec_of X hcd) rfl hbind hcell hloc (fun h₁ hns hk₁ => ?_) hco hgen hk
  refine h (hideAll s.heap (news.map (·.1))) s.heap.objs.size h₁ _ (fun b o e n => hideAll_get _ e n) rfl ⟨hns, fun b o e => hk₁ b o (of_hideAll _ e), Nat.le_of_eq (hideAll_size _ _)⟩
    (fun q hq => ⟨hk₁ _ _ (N q hq).1, Nat.ne_of_lt (Heap.lt_size (N q hq).1), hideAll_none _ (List.mem_map_of_mem hq)⟩) BG (X₀.keeps fun b o e => st b o e) (T.keeps fun b o e => st b o e)
end
section
variable {prog : Program} {w : World} {A₀ A : Around} {s : Shared} {base h₀ : Heap} {outer : List Env} {L : Addr} {m : PySem.Str → Option Value} {env : Env} {K : Frag} {p : Program} {loose : List PySem.Str} {mean : ExcName → Option Value} {mg mb : PySem.Str → Option Value}
  {R : Result → Shared → Prop} {name qual : PySem.Str} {params : Arguments} {body : List Stmt} {scope : Scope} {dV kV doc pm cdv ct oc : Value} {an od : Option Addr} {osl : Array (Option Value)} {f : Addr} {args : Args} {binds : List (PySem.Str × Value)}
/-- into a def that has cells; it changes nothing that stood before -/
theorem enterC (B : Below A₀ base outer h₀) (F : Fr h₀ L s.heap m) (X₀ : K.In h₀) (T : Top p loose mean mg mb h₀) (hA : A.frames = some (env :: outer)) (hf : env.frame = some L) (hke : env.scope.kind = .function)
    (ho : K.lookup f = some ⟨oc, od, .func (fnOf name qual params body scope dV kV doc pm an cdv ct), osl⟩) (hcd : codeIn K cdv qual = true) (hroom : A.depth < recursionLimit)
    (hbind : BindsTo s (fnOf name qual params body scope dV kV doc pm an cdv ct) args binds) (hkind : (binds.all fun y => scope.names.lookup y.1 == some .local || scope.names.lookup y.1 == some .cell) = true)
    (hnd : ((cellsFrom 0 scope.names []).map (·.1)).Nodup)
    (h : ∀ g L' h₁ tk cells, (∀ b o, s.heap.get? b = some o → b ∉ ([] : List Addr) → g.get? b = some o) → s.heap.objs.size = L' → Fr g L' h₁ (bindL (envOfC qual scope L' f cdv).kindOf binds fun _ => none) → News g L' h₁ cells →
      CellsAre (bindC (envOfC qual scope L' f cdv).kindOf binds fun _ => none) (cellsFrom (L' + 1) scope.names []) cells → Below A base (env :: outer) g → K.In g → Top p loose mean mg mb g →
      wpAny (model prog w) (A.deeper (envOfC qual scope L' f cdv)) (execs body (envOfC qual scope L' f cdv))
        (fun fl s' => R (.ok (.ret (match fl with | .ret v => v | _ => .none))) s')
        (fun e s' => wpAny (model prog w) (A.deeper (envOfC qual scope L' f cdv)) (leaving (envOfC qual scope L' f cdv) e) (fun _ s'' => R (.error e) s'') (fun e' s'' => R (.error e') s'') s')
        { s with heap := h₁, toks := tk })
    (hco : scope.isCoroutine = false) (hgen : scope.isGenerator = false) (hk : scope.kind = .function) : codeAny (model prog w) A (.call (.ref f) args) R s := by
  have X := X₀.keeps F.keep
  have BG : Below A base (env :: outer) s.heap := (groundX (R := R) B F News.nil hA hf hke).2.1
  refine codeAny_call_function hroom (X _ _ ho) rfl hco hgen rfl (codeRec_of X hcd) (hbind _ _ _ _ ?_)
  refine wpAny_newFunctionEnv_cells hk (kindsX hkind _) fun env' he s' x => ?_
  subst he
  have k := x.toInCall.keep
  obtain ⟨h₁, tk, rfl, _⟩ := x.done
  obtain ⟨cells, NC, Y⟩ := Cl.news (h₀ := s.heap) (Nat.le_refl _) fun n c hm => ⟨x.cell n c (lookup_of_mem_nodup (cellsFrom_names scope.names 0 (s.heap.objs.size + 1) [] [] rfl ▸ hnd) hm), x.above n c hm⟩
  exact ⟨(T.nolimit.keeps F.keep).keeps k, codeAny_func (h s.heap _ h₁ tk cells (fun _ _ e _ => e) rfl ⟨x.toInCall.ns, k, Nat.le_refl _⟩ NC Y BG X (T.keeps F.keep))⟩
end
section
variable {h₀ h h' : Heap} {L r : Addr} {m : PySem.Str → Option Value} {news : List (Addr × Obj)} {o : Obj}
theorem fr_back (F : Fr h₀ L h m) (k : ∀ b o, h.get? b = some o → h'.get? b = some o) : Fr h₀ L h' m := by
  obtain ⟨oL, es, ep, hL, a, b, c⟩ := F.ns
  exact ⟨⟨oL, es, ep, k _ _ hL, a, b, c⟩, fun b o e => k _ _ (F.keep b o e), F.above⟩
theorem news_back (N : News h₀ L h news) (k : ∀ b o, h.get? b = some o → h'.get? b = some o) : News h₀ L h' news :=
  fun q hq => ⟨k _ _ (N q hq).1, (N q hq).2⟩
theorem news_add (F : Fr h₀ L h m) (N : News h₀ L h news) (k : ∀ b o, h.get? b = some o → h'.get? b = some o) (e : h'.get? r = some o) (n : h.get? r = none) : News h₀ L h' ((r, o) :: news) := by
  intro q hq
  rcases List.mem_cons.mp hq with rfl | hq
  · refine ⟨e, fun q => ?_, ?_⟩
    · obtain ⟨oL, _, _, hL, _⟩ := F.ns
      subst q; rw [n] at hL; cases hL
    · cases q : h₀.get? r with
      | none => rfl
      | some o' => rw [F.keep _ _ q] at n; cases n
  · exact news_back N k q hq
theorem ne_of_new (N : News h₀ L h news) (n : h.get? r = none) : ∀ q ∈ news, q.1 ≠ r := fun q hq e => by
  have := (N q hq).1
  rw [e, n] at this; cases this
end
theorem end_new {h g h' : Heap} {L' r : Addr} {m' : PySem.Str → Option Value} {o : Obj} {news : List (Addr × Obj)} (hg : ∀ b o, h.get? b = some o → b ∉ ([] : List Addr) → g.get? b = some o) (F1 : Fr g L' h' m') (N1 : News g L' h' news) (hm : (r, o) ∈ news) :
    (∀ b o, h.get? b = some o → h'.get? b = some o) ∧ h'.get? r = some o ∧ h.get? r = none := by
  refine ⟨fun b o e => F1.keep _ _ (hg b o e (fun q => nomatch q)), (N1 _ hm).1, ?_⟩
  cases e : h.get? r with
  | none => rfl
  | some o' => have h1 := hg _ _ e (fun q => nomatch q); have h2 := (N1 _ hm).2.2; rw [h1] at h2; cases h2
theorem end_pass {h g h₁ h' : Heap} {L' r : Addr} {m' : PySem.Str → Option Value} (hg : ∀ b o, h.get? b = some o → b ∉ ([] : List Addr) → g.get? b = some o) (F1 : Fr g L' h₁ m') (k : ∀ b o, h₁.get? b = some o → h'.get? b = some o) (hn : h₁.get? r = none) :
    (∀ b o, h.get? b = some o → h'.get? b = some o) ∧ h.get? r = none := by
  refine ⟨fun b o e => k _ _ (F1.keep _ _ (hg b o e (fun q => nomatch q))), ?_⟩
  cases e : h.get? r with
  | none => rfl
  | some o' => rw [F1.keep _ _ (hg _ _ e (fun q => nomatch q))] at hn; cases hn
theorem fm_ok (a b : Int) : IntMulOk (a.fmod 2147483647) b := by
  have h := Int.fmod_nonneg_of_pos a (b := 2147483647) (by decide)
  have h2 := Int.fmod_lt_of_pos a (b := 2147483647) (by decide)
  exact IntMulOk.of_left (intBits_le_64 (by omega) (by omega))
section
variable {prog : Program} {w : World} {A : Around} {E : Value → Shared → Prop} {s : Shared} {env : Env} {h₀ : Heap} {x : PySem.Str} {body : List Stmt} {Q : Flow → Shared → Prop}
/-- a loop over whatever is walked: the turn's state is any c, told by the frame's names ps c and the ledger Nw c -/
theorem loop_st {σ : Type} {I : Addr} {fp : List Addr} {n : Nat} {P : Nat → Value → Prop} {St : Nat → Heap → Prop} {m₀ : PySem.Str → Option Value} (Nw : σ → List (Addr × Obj)) (adr : List Addr) (ps : σ → List (PySem.Str × Value)) (stored : List PySem.Str) (Inv : Nat → σ → Prop)
    (W : Walks prog w A I fp [I] n P St) (hIf : I ∈ fp) (hLf : env.locals ∉ fp) (hI0 : h₀.get? I = none) (hnw : ∀ b ∈ adr, b ∉ fp) (hst : St 0 s.heap) (had : ∀ c, (Nw c).map (·.1) = adr)
    (c₀ : σ) (F : Fr h₀ env.locals s.heap m₀) (N : News h₀ env.locals s.heap (Nw c₀)) (hk : ∀ p ∈ ps c₀, m₀ p.1 = some p.2) (hj : Inv 0 c₀)
    (turn : ∀ i v c (u : PySem.Str → Option Value) h tk own, i < n → P i v → Inv i c → OwnOff own adr → Fr h₀ env.locals h (fun y => if y = x then some v else kstB (fun z => if stored.contains z then u z else m₀ z) (ps c) y) → News h₀ env.locals h (Nw c ++ own) →
      wpAny (model prog w) A (execs body env) (InvPostN h₀ env.locals (fun m' nx => KstS Nw ps (Inv (i + 1)) x stored m₀ (fun _ _ => True) [] m' nx) own adr { s with heap := h, toks := tk } Q) E { s with heap := h, toks := tk })
    (done : ∀ c (u : PySem.Str → Option Value) h tk, Inv n c → Fr h₀ env.locals h (fun y => if y = x then u y else kstB (fun z => if stored.contains z then u z else m₀ z) (ps c) y) → News h₀ env.locals h (Nw c) → Q .next { s with heap := h, toks := tk }) :
    LoopAtV prog w A h₀ env x body Q E (.ref I) s := by
  refine ⟨I, fp, [I], n, P, St, m₀, Nw c₀, fun i m nx => KstS Nw ps (Inv i) x stored m₀ (fun _ _ => True) [] m nx, rfl, W, hLf, ?_, ?_, hst, F, N, ⟨c₀, rfl, hj, hk, fun _ _ _ _ => rfl, trivial⟩, ?_, ?_⟩
  · intro b hb
    rw [List.mem_singleton.mp hb]; exact hI0
  · intro p hp hI
    refine hnw p.1 (had c₀ ▸ List.mem_map_of_mem hp) ?_
    rw [List.mem_singleton.mp hI]; exact hIf
  · rintro i v m₁ news₁ s₁ own ⟨hh', tk', rfl⟩ hin hP ⟨c, rfl, hc, h1, h2, _⟩ hoff hown _ _ _ F₁ N₁
    have hsep : OwnOff own adr := fun p hp b hb e => hnw b hb (e ▸ hown p hp)
    have N₂ : News h₀ env.locals hh' (Nw c ++ own) := fun p hp => N₁ p ((List.mem_append.mp hp).elim (fun h => List.mem_append.mpr (.inr h)) fun h => List.mem_append.mpr (.inl h))
    refine wpAny_mono (turn i v c m₁ hh' tk' own hin hP hc hsep (kst_fr h1 h2 F₁) N₂) (fun f s₂ p => ?_) fun _ _ e => e
    have fin : InvEndN h₀ env.locals (fun m' nx => KstS Nw ps (Inv (i + 1)) x stored m₀ (fun _ _ => True) [] m' nx) own adr { s with heap := hh', toks := tk' } s₂ →
        LoopStepU h₀ env.locals [I] own (fun m nx => KstS Nw ps (Inv (i + 1)) x stored m₀ (fun _ _ => True) [] m nx) { s with heap := hh', toks := tk' } .next s₂ := by
      rintro ⟨h', tk, m', news', nx, e, F', N', hn, ho, ha, hm⟩
      refine ⟨rfl, h', tk, m', nx, e, F', fun p hp => N' p ((List.mem_append.mp hp).elim (ho p) (hn p)), fun p hp hq => ?_, hm⟩
      refine hnw p.1 (ha ▸ List.mem_map_of_mem hp) ?_
      rw [List.mem_singleton.mp hq]; exact hIf
    cases f with
    | ret v => exact .ret p
    | brk => exact .brk p
    | next => exact .next (fin p)
    | cont => exact .cont (fin p)
  · rintro h' tk m' news' F' N' _ ⟨c, rfl, hc, h1, h2, _⟩
    exact done c m' h' tk hc (kst_frOut h1 h2 F') N'
/-- a for over a range by ones or down -/
theorem loop_range {σ : Type} {r : Addr} {a₀ b₀ c₁ : Int} {t₀ v₀ w₀ : Tok} {n : Nat} {m₀ : PySem.Str → Option Value} (Nw : σ → List (Addr × Obj)) (adr : List Addr) (ps : σ → List (PySem.Str × Value)) (stored : List PySem.Str) (Inv : Nat → σ → Prop)
    (hh : A.handled = none) (hr : IsRange s.heap r a₀ b₀ c₁ t₀ v₀ w₀) (hsmall : Builtin.Range.small a₀ b₀ c₁ = true) (hn : Builtin.Range.rangeSize a₀ b₀ c₁ = (n : Int)) (had : ∀ c, (Nw c).map (·.1) = adr)
    (c₀ : σ) (F : Fr h₀ env.locals s.heap m₀) (N : News h₀ env.locals s.heap (Nw c₀)) (hk : ∀ p ∈ ps c₀, m₀ p.1 = some p.2) (hj : Inv 0 c₀)
    (turn : ∀ (i : Nat) t c (u : PySem.Str → Option Value) h tk own, i < n → Inv i c → OwnOff own adr → Fr h₀ env.locals h (fun y => if y = x then some (.int (a₀ + (i : Int) * c₁) t) else kstB (fun z => if stored.contains z then u z else m₀ z) (ps c) y) → News h₀ env.locals h (Nw c ++ own) →
      wpAny (model prog w) A (execs body env) (InvPostN h₀ env.locals (fun m' nx => KstS Nw ps (Inv (i + 1)) x stored m₀ (fun _ _ => True) [] m' nx) own adr { s with heap := h, toks := tk } Q) E { s with heap := h, toks := tk })
    (done : ∀ c (u : PySem.Str → Option Value) h tk, Inv n c → Fr h₀ env.locals h (fun y => if y = x then u y else kstB (fun z => if stored.contains z then u z else m₀ z) (ps c) y) → News h₀ env.locals h (Nw c) → Q .next { s with heap := h, toks := tk }) :
    wpAny (model prog w) A (pyIter (.ref r)) (fun it s₂ => LoopAtV prog w A h₀ env x body Q E it s₂) E s := by
  refine wpAny_pyIter_range hr hsmall ?_
  refine loop_st Nw adr ps stored Inv (Walks.range hh _ a₀ c₁ n) (List.mem_singleton.mpr rfl) ?_ (next_is_new F) ?_ (by show IsRangeIter _ _ _ _ _; rw [hn]; simpa using Heap.get?_push_size _ rfl) had c₀ (F.push _) (fun p hp => ⟨Heap.get?_push_of_some _ (N p hp).1, (N p hp).2⟩) hk hj ?_ ?_
  · intro hm
    exact absurd F.ns.lt ((List.mem_singleton.mp hm) ▸ Nat.lt_irrefl _)
  · intro b hb hI
    obtain ⟨p, hp, rfl⟩ := List.mem_map.mp ((had c₀).symm ▸ hb)
    exact absurd (Heap.lt_size (N p hp).1) ((List.mem_singleton.mp hI) ▸ Nat.lt_irrefl _)
  · rintro i v c u h tk own hi ⟨t, rfl⟩ hc hs F₁ N₁
    exact turn i t c u h tk own hi hc hs F₁ N₁
  · exact done
/-- a for over a tuple that stands anywhere -/
theorem loop_tuple {σ : Type} {l : Addr} {items : Array Value} {m₀ : PySem.Str → Option Value} (Nw : σ → List (Addr × Obj)) (adr : List Addr) (ps : σ → List (PySem.Str × Value)) (stored : List PySem.Str) (Inv : Nat → σ → Prop)
    (hh : A.handled = none) (hl : s.heap.IsTuple l items) (hlL : l ≠ env.locals) (hla : l ∉ adr) (had : ∀ c, (Nw c).map (·.1) = adr)
    (c₀ : σ) (F : Fr h₀ env.locals s.heap m₀) (N : News h₀ env.locals s.heap (Nw c₀)) (hk : ∀ p ∈ ps c₀, m₀ p.1 = some p.2) (hj : Inv 0 c₀)
    (turn : ∀ i v c (u : PySem.Str → Option Value) h tk own, i < items.size → items[i]? = some v → Inv i c → OwnOff own adr → Fr h₀ env.locals h (fun y => if y = x then some v else kstB (fun z => if stored.contains z then u z else m₀ z) (ps c) y) → News h₀ env.locals h (Nw c ++ own) →
      wpAny (model prog w) A (execs body env) (InvPostN h₀ env.locals (fun m' nx => KstS Nw ps (Inv (i + 1)) x stored m₀ (fun _ _ => True) [] m' nx) own adr { s with heap := h, toks := tk } Q) E { s with heap := h, toks := tk })
    (done : ∀ c (u : PySem.Str → Option Value) h tk, Inv items.size c → Fr h₀ env.locals h (fun y => if y = x then u y else kstB (fun z => if stored.contains z then u z else m₀ z) (ps c) y) → News h₀ env.locals h (Nw c) → Q .next { s with heap := h, toks := tk }) :
    wpAny (model prog w) A (pyIter (.ref l)) (fun it s₂ => LoopAtV prog w A h₀ env x body Q E it s₂) E s := by
  obtain ⟨ol, hol, _⟩ := id hl
  have hlt := Heap.lt_size hol
  have hne : l ≠ s.heap.objs.size := Nat.ne_of_lt hlt
  refine wpAny_pyIter_tuple hl ?_
  refine loop_st Nw adr ps stored Inv (Walks.tuple hh _ l hne items) (List.Mem.head _) ?_ (next_is_new F) ?_ ⟨⟨_, Heap.get?_push_size _ rfl, rfl, rfl⟩, hl.at fun o e => Heap.get?_push_of_some _ e⟩ had c₀ (F.push _) (fun p hp => ⟨Heap.get?_push_of_some _ (N p hp).1, (N p hp).2⟩) hk hj ?_ ?_
  · intro hm
    rcases List.mem_cons.mp hm with e | hm
    · exact absurd F.ns.lt (e ▸ Nat.lt_irrefl _)
    · exact hlL (List.mem_singleton.mp hm).symm
  · intro b hb hI
    rcases List.mem_cons.mp hI with e | hI
    · obtain ⟨p, hp, rfl⟩ := List.mem_map.mp ((had c₀).symm ▸ hb)
      exact absurd (Heap.lt_size (N p hp).1) (e ▸ Nat.lt_irrefl _)
    · exact hla (List.mem_singleton.mp hI ▸ hb)
  · exact turn
  · exact done
/-- a turn's end -/
theorem turn_end {σ : Type} {Nw : σ → List (Addr × Obj)} {adr : List Addr} {ps : σ → List (PySem.Str × Value)} {stored : List PySem.Str} {Inv : σ → Prop} {L : Addr} {h' : Heap} {m₀ m' : PySem.Str → Option Value} {own news' : List (Addr × Obj)} {tk : Nat} (c : σ) (F : Fr h₀ L h' m') (N : News h₀ L h' news')
    (hn : ∀ p ∈ Nw c, p ∈ news') (ho : ∀ p ∈ own, p ∈ news') (ha : (Nw c).map (·.1) = adr) (hj : Inv c) (h1 : ∀ p ∈ ps c, m' p.1 = some p.2) (h2 : ∀ z, z ≠ x → (∀ p ∈ ps c, z ≠ p.1) → stored.contains z = false → m' z = m₀ z) :
    InvEndN h₀ L (fun m' nx => KstS Nw ps Inv x stored m₀ (fun _ _ => True) [] m' nx) own adr s { s with heap := h', toks := tk } :=
  ⟨h', tk, m', news', Nw c, rfl, F, N, hn, ho, ha, c, rfl, hj, h1, h2, trivial⟩
end
theorem off_app {own own2 : List (Addr × Obj)} {l : Addr} {as bs : List Addr} (h : OwnOff own as) (h2 : OwnOff own2 bs) (m1 : l ∈ as) (m2 : l ∈ bs) : OwnOff (own ++ own2) [l] := fun p hp b hb => by
  rw [List.mem_singleton.mp hb]
  rcases List.mem_append.mp hp with hp | hp
  · exact h p hp l m1
  · exact h2 p hp l m2
theorem led_sub {q : Addr × Obj} {own own2 : List (Addr × Obj)} : ∀ p ∈ q :: own, p ∈ q :: (own ++ own2) := fun _ hp => (List.mem_cons.mp hp).elim (fun e => e ▸ List.Mem.head _) fun h => List.Mem.tail _ (List.mem_append_left _ h)
theorem led_own {q : Addr × Obj} {own own2 : List (Addr × Obj)} : ∀ p ∈ own2, p ∈ q :: (own ++ own2) := fun _ hp => List.Mem.tail _ (List.mem_append_right _ hp)
theorem led_sub1 {q : Addr × Obj} {own : List (Addr × Obj)} : ∀ p ∈ [q], p ∈ q :: own := fun _ hp => (List.mem_cons.mp hp).elim (fun e => e ▸ List.Mem.head _) fun h => nomatch h
theorem led_own1 {q : Addr × Obj} {own : List (Addr × Obj)} : ∀ p ∈ own, p ∈ q :: own := fun _ hp => List.Mem.tail _ hp
theorem ints_snoc {vs : List Value} {ns : List Int} {f : Nat → Int} {j : Nat} {t : Tok} (h : IntsAre vs (ns ++ (List.range j).map f)) : IntsAre (vs ++ [.int (f j) t]) (ns ++ (List.range (j + 1)).map f) := by
  rw [List.range_succ, List.map_append, ← List.append_assoc]
  exact h.append (.cons _ _ .nil)
theorem ne_stored {z n : PySem.Str} {st : List PySem.Str} (h : st.contains z = false) (hn : st.contains n = true) : z ≠ n := fun e => by rw [e, hn] at h; cases h
theorem sub_stored {z : PySem.Str} {st st2 : List PySem.Str} (h : st.contains z = false) (hs : st2.all (fun n => st.contains n) = true) : ¬ st2.contains z = true := fun e => by
  have := List.all_eq_true.mp hs z (by simpa using e)
  rw [h] at this; cases this
theorem ne_true {b : Bool} (h : b = false) : ¬ b = true := by rw [h]; decide
theorem ints_take {ys : List Value} {l : List Int} {f : Int → Int} {i : Nat} {p : Int} {t : Tok} (h : IntsAre ys ((l.take i).map f)) (hp : l[i]? = some p) : IntsAre (ys ++ [.int (f p) t]) ((l.take (i + 1)).map f) := by
  rw [List.take_add_one, hp, List.map_append]
  exact h.append (.cons _ _ .nil)
theorem ints_full {ys vs : List Value} {l : List Int} {f : Int → Int} (h : IntsAre ys ((l.take vs.toArray.size).map f)) (hl : vs.length = l.length) : IntsAre ys (l.map f) := by
  rw [List.size_toArray, hl, List.take_length] at h; exact h
theorem ints_rep {t : Tok} {x : Int} : ∀ k : Nat, IntsAre (List.replicate k [Value.int x t]).flatten (List.replicate k x)
  | 0 => .nil
  | k + 1 => .cons _ _ (ints_rep k)
theorem off_cons {q : Addr × Obj} {own : List (Addr × Obj)} {l : Addr} (h : q.1 ≠ l) (h2 : OwnOff own [l]) : OwnOff (q :: own) [l] := fun p hp b hb => by
  rcases List.mem_cons.mp hp with rfl | hp
  · exact fun e => h (e.trans (List.mem_singleton.mp hb))
  · exact h2 p hp b hb
theorem ints_snoc' {vs : List Value} {ns : List Int} {f : Nat → Int} {j : Nat} {x : Int} {t : Tok} (h : IntsAre vs (ns ++ (List.range j).map f)) (e : x = f j) : IntsAre (vs ++ [.int x t]) (ns ++ (List.range (j + 1)).map f) := e ▸ ints_snoc h
theorem flat_step {vs : List Value} {f : Nat → List Int} {i : Nat} {l : List Int} (h : IntsAre vs ((List.range i).flatMap f ++ l)) (e : l = f i) : IntsAre vs ((List.range (i + 1)).flatMap f) := by
  rw [List.range_succ, List.flatMap_append, ← show l = [i].flatMap f by rw [e]; simp]
  exact h
theorem led_sub2 {q r : Addr × Obj} {own : List (Addr × Obj)} : ∀ p ∈ [q, r], p ∈ q :: r :: own := fun _ hp => (List.mem_cons.mp hp).elim (fun e => e ▸ List.Mem.head _) fun h => (List.mem_singleton.mp h) ▸ List.Mem.tail _ (List.Mem.head _)
theorem led_own2 {q r : Addr × Obj} {own : List (Addr × Obj)} : ∀ p ∈ own, p ∈ q :: r :: own := fun _ hp => List.Mem.tail _ (List.Mem.tail _ hp)
theorem led_sub3 {q r : Addr × Obj} {own own2 : List (Addr × Obj)} : ∀ p ∈ q :: own, p ∈ q :: r :: (own ++ own2) := fun _ hp => (List.mem_cons.mp hp).elim (fun e => e ▸ List.Mem.head _) fun h => List.Mem.tail _ (List.Mem.tail _ (List.mem_append_left _ h))
theorem led_own3 {q r : Addr × Obj} {own own2 : List (Addr × Obj)} : ∀ p ∈ own2, p ∈ q :: r :: (own ++ own2) := fun _ hp => List.Mem.tail _ (List.Mem.tail _ (List.mem_append_right _ hp))
theorem news_swap {g h : Heap} {L : Addr} {q r : Addr × Obj} {o : List (Addr × Obj)} (N : News g L h (q :: r :: o)) : News g L h (r :: q :: o) := fun p hp => N p (by
  rcases List.mem_cons.mp hp with rfl | hp
  · exact List.Mem.tail _ (List.Mem.head _)
  · rcases List.mem_cons.mp hp with rfl | hp
    · exact List.Mem.head _
    · exact List.Mem.tail _ (List.Mem.tail _ hp))
abbrev rangeObj (a b c : Int) (t u v : Tok) : Obj := { cls := .type "range", data := .fields #[.int a t, .int b u, .int c v] }
section
variable {prog : Program} {w : World} {A : Around} {E : Value → Shared → Prop} {s : Shared} {h₀ : Heap} {L : Addr} {m : PySem.Str → Option Value} {news : List (Addr × Obj)} {Q : Value → Shared → Prop} {a b c : Int} {t u v : Tok}
theorem fresh_none (h : Heap) : h.get? h.objs.size = none := by
  cases e : h.get? h.objs.size with
  | none => rfl
  | some o => exact absurd (Heap.lt_size e) (Nat.lt_irrefl _)
theorem range_led2 (F : Fr h₀ L s.heap m) (N : News h₀ L s.heap news)
    (h : ∀ r h' tk t₁ u₁ v₁, Fr h₀ L h' m → News h₀ L h' ((r, rangeObj a b 1 t₁ u₁ v₁) :: news) → (∀ p ∈ news, p.1 < r) → Q (.ref r) { s with heap := h', toks := tk }) :
    wpAny (model prog w) A (call (.type "range") [.int a t, .int b u]) Q E s :=
  range2_rows F N fun h' tk _ _ _ R F' _ k => h _ h' tk _ _ _ F' (news_add F N k R (fresh_none _)) fun p hp => Heap.lt_size (N p hp).1
theorem range_led3 (F : Fr h₀ L s.heap m) (N : News h₀ L s.heap news) (hp : Builtin.divisionGoesByPylong (b - a) (-1) = false)
    (h : ∀ r h' tk t₁ u₁ v₁, Fr h₀ L h' m → News h₀ L h' ((r, rangeObj a b (-1) t₁ u₁ v₁) :: news) → (∀ p ∈ news, p.1 < r) → Q (.ref r) { s with heap := h', toks := tk }) :
    wpAny (model prog w) A (call (.type "range") [.int a t, .int b u, .int (-1) v]) Q E s :=
  range3_rows F N (by decide) (fun h' tk _ _ _ R F' _ k => h _ h' tk _ _ _ F' (news_add F N k R (fresh_none _)) fun p hp => Heap.lt_size (N p hp).1) (.inl hp)
end
section
variable {prog : Program} {w : World} {A : Around} {E : Value → Shared → Prop} {s : Shared} {h₀ : Heap} {L : Addr} {m : PySem.Str → Option Value} {env : Env}
abbrev tupAt (ax : Addr) (its : Array Value) (nw : List (Addr × Obj)) : Prop := ∃ n, (ax, ({ cls := .type "tuple", data := .seq its n } : Obj)) ∈ nw
/-- the items of a comprehension, by what holds of what is made so far -/
theorem comp_ind {elt : Expr} {x : PySem.Str} {scope : Scope} {cl : List (PySem.Str × Addr)} {S : List (Addr × Obj) → Prop} {P : Nat → Value → Prop} {Fin : List Value → List (Addr × Obj) → Prop} (Inv : Nat → List Value → List (Addr × Obj) → Prop) {n : Nat}
    (fin : ∀ ys news, Inv n ys news → Fin ys news)
    (step : ∀ i ys news v I oI C oC D m₂ h tk (E' : Value → Shared → Prop), i < n → Inv i ys news → P i v → LCg.NsObj oC m₂ → m₂ x = some v → Fr h₀ L h m → News h₀ L h ((I, oI) :: (C, oC) :: (D, LCg.lst ys) :: news) → LCg.Off3 I C D news → ((@Ne Nat I C) ∧ (@Ne Nat I D) ∧ (@Ne Nat C D)) →
      wpAny (model prog w) A (eval elt (compEnvC scope cl C env)) (LCg.CompEnd h₀ L m { s with heap := h, toks := tk } I oI C oC D (LCg.lst ys) S (fun y news' => Inv (i + 1) (ys ++ [y]) news')) E' { s with heap := h, toks := tk }) :
    ∀ k i ys news, i + k = n → Inv i ys news → LCg.CompRest prog w A h₀ L m env elt x scope cl s S P Fin k i ys news := by
  intro k
  induction k with
  | zero => intro i ys news e hi; exact LCg.CompRest.zero (fin ys news (by have : i = n := e; exact this ▸ hi))
  | succ k ih =>
    intro i ys news e hi
    refine LCg.CompRest.succ fun v I oI C oC D m₂ h tk E' hP hC hx F N off ne => ?_
    refine wpAny_mono (step i ys news v I oI C oC D m₂ h tk E' (by omega) hi hP hC hx F N off ne) (fun y s₂ z => ?_) fun _ _ z => z
    obtain ⟨h', tk', news', e', F', N', o', hS, r⟩ := z
    exact ⟨h', tk', news', e', F', N', o', hS, ih (i + 1) (ys ++ [y]) news' (by omega) r⟩
/-- a list comprehension over a tuple of the ledger -/
theorem comp_tuple {elt iter : Expr} {x : PySem.Str} {px : Pos} {scope : Scope} {cl : List (PySem.Str × Addr)} {pos : Pos} {Q : Value → Shared → Prop} (_F : Fr h₀ L s.heap m)
    (hclos : closureFor scope env = pure cl) (hcell : ∀ y ∈ scope.names, y.2 ≠ .cell) (hkind : scope.kind = .function)
    (hnames : ∀ y ∈ scope.names, y.2 = .local → scope.names.lookup y.1 = some .local) (hx : scope.names.lookup x = some .local)
    (h : wpAny (model prog w) A (eval iter env) (fun xv s₁ => ∃ ax its news, xv = .ref ax ∧ A.handled = none ∧ Fr h₀ L s₁.heap m ∧ News h₀ L s₁.heap news ∧ tupAt ax its news ∧ its.size ≤ sizeLine ∧
      ∀ s₂ : Shared, (∃ h, s₂ = { s₁ with heap := h }) → LCg.CompRest prog w A h₀ L m env elt x scope cl s₂ (tupAt ax its) (fun i v => its[i]? = some v) (LCg.FinE h₀ L m s₂ Q) its.size 0 [] news) E s)
    (hs : ∀ x, foldedSetIterable iter env x = pure x := by intro _; rfl) :
    wpAny (model prog w) A (eval (.ListComp elt [⟨.Name x px, iter, [], 0⟩] scope pos) env) Q E s := by
  rw [eval_ListComp]
  refine wpAny_comprehension_free (use := none) rfl hs hclos hkind hnames (wpAny_mono h (fun xv s₁ h₁ => ?_) fun _ _ e => e)
  obtain ⟨ax, its, news, rfl, hh, F, N, ⟨k, hm⟩, hsz, R⟩ := h₁
  have hl : s₁.heap.IsTuple ax its := ⟨_, (N _ hm).1, rfl, _, rfl⟩
  have hlt := Heap.lt_size (N _ hm).1
  refine wpAny_pyIter_tuple hl ?_
  refine LCg.block_U (Walks.tuple hh s₁.heap.objs.size ax (Nat.ne_of_lt hlt) its) hsz (fun i h st => by obtain ⟨o, e, _⟩ := st.1; exact ⟨o, e⟩)
    (fun i h h' o nw st e e' _ N' S' => ⟨by obtain ⟨o', q, r⟩ := st.1; rw [e] at q; cases q; exact ⟨o, e', r⟩, let ⟨_, hm'⟩ := S'; ⟨_, (N' _ hm').1, rfl, _, rfl⟩⟩)
    hcell hkind hx ⟨⟨_, Heap.get?_push_size _ rfl, rfl, rfl⟩, hl.at fun o e => Heap.get?_push_of_some _ e⟩ (fun b hb => ?_) (F.push _) (fun p hp => ⟨Heap.get?_push_of_some _ (N p hp).1, (N p hp).2⟩)
    (Nat.ne_of_lt F.ns.lt) (next_is_new F) (fun p hp => Nat.ne_of_lt (Heap.lt_size (N p hp).1)) ⟨k, hm⟩ (R _ ⟨_, rfl⟩) ?_
  · show b < (s₁.heap.push _).objs.size
    rw [Heap.size_push]
    rcases List.mem_cons.mp hb with rfl | hb
    · exact Nat.lt_succ_self _
    · rw [List.mem_singleton.mp hb]; exact Nat.lt_succ_of_lt hlt
  · intro D C h tk m' ys news' F' N' o1 hn hC₀ hD₀ hCL hDL hCD offC fin
    refine ⟨m', hn, fun h'' hs'' => fin D h'' tk (F'.change hs'' hCL hC₀) (fun p hp => ⟨hs''.extBut _ _ ?_ (N' p hp).1, (N' p hp).2⟩) o1⟩
    rcases List.mem_cons.mp hp with rfl | hp
    · exact Ne.symm hCD
    · exact offC p hp
end
section
variable {M : Model} {A : Around} {E : Value → Shared → Prop} {s : Shared} {env : Env} {h₀ : Heap} {L : Addr} {m : PySem.Str → Option Value} {news : List (Addr × Obj)}
/-- behind a statement that gives the name x an int of which P holds -/
def CutPost (h₀ : Heap) (L : Addr) (x : PySem.Str) (m : PySem.Str → Option Value) (news : List (Addr × Obj)) (P : Int → Prop) (s : Shared) (f : Flow) (s' : Shared) : Prop :=
  f = .next ∧ ∃ h tk v t, s' = { s with heap := h, toks := tk } ∧ P v ∧ Fr h₀ L h (fun y => if y = x then some (.int v t) else m y) ∧ News h₀ L h news
theorem CutPost.mk {x : PySem.Str} {P : Int → Prop} {h : Heap} {tk : Nat} {v : Int} {t : Tok} (F : Fr h₀ L h (fun y => if y = x then some (.int v t) else m y)) (N : News h₀ L h news) (p : P v) : CutPost h₀ L x m news P s .next { s with heap := h, toks := tk } := ⟨rfl, h, tk, v, t, rfl, p, F, N⟩
theorem CutPost.same {x : PySem.Str} {P : Int → Prop} {h : Heap} {tk : Nat} {v : Int} {t : Tok} (F : Fr h₀ L h (fun y => if y = x then some (.int v t) else m y)) (N : News h₀ L h news) (p : P v) : CutPost h₀ L x (fun y => if y = x then some (.int v t) else m y) news P s .next { s with heap := h, toks := tk } :=
  ⟨rfl, h, tk, v, t, rfl, p, by
    have e : (fun y => if y = x then some (Value.int v t) else if y = x then some (Value.int v t) else m y) = fun y => if y = x then some (Value.int v t) else m y := by
      funext y; by_cases h : y = x
      · rw [if_pos h, if_pos h]
      · rw [if_neg h]
    rw [e]; exact F, N⟩
theorem cut {x : PySem.Str} {P : Int → Prop} {st : Stmt} {Q : Flow → Shared → Prop} (_F : Fr h₀ L s.heap m) (_N : News h₀ L s.heap news) (h1 : wpAny M A (exec st env) (CutPost h₀ L x m news P s) E s)
    (h2 : ∀ h tk v t, P v → Fr h₀ L h (fun y => if y = x then some (.int v t) else m y) → News h₀ L h news → Q .next { s with heap := h, toks := tk }) : wpAny M A (exec st env) Q E s :=
  wpAny_mono h1 (fun f s' z => by
    obtain ⟨rfl, h, tk, v, t, rfl, p, F, N⟩ := z
    exact h2 h tk v t p F N) fun _ _ e => e
end
def SW : List PySem.Str := [PySem.Str.ofString "left", PySem.Str.ofString "right", PySem.Str.ofString "swap", PySem.Str.ofString "cross"]
def MI : List PySem.Str := [PySem.Str.ofString "back", PySem.Str.ofString "right", PySem.Str.ofString "mirror", PySem.Str.ofString "cross"]
def FL : List PySem.Str := [PySem.Str.ofString "left", PySem.Str.ofString "back", PySem.Str.ofString "flip", PySem.Str.ofString "cross"]
def sw (W : PySem.Str) : Bool := SW.any (· == W)
def mi (W : PySem.Str) : Bool := MI.any (· == W)
def fl (W : PySem.Str) : Bool := FL.any (· == W)
theorem tup_of {K : Frag} {h : Heap} {a : Addr} {o : Obj} {items : Array Value} {n : Nat} (X : K.In h) (e : K.lookup a = some o) (hc : o.cls = .type "tuple") (hd : o.data = .seq items n) : IsTup h a items := ⟨o, X _ _ e, hc, n, hd⟩
theorem tup_sw {w : World} {h : Heap} (X : (Mine.KF w.params).In h) : ∃ items, IsTup h 259 items ∧ StrsAre items.toList SW :=
  ⟨_, tup_of X rfl rfl rfl, by unfold SW; repeat constructor⟩
theorem tup_mi {w : World} {h : Heap} (X : (Mine.KF w.params).In h) : ∃ items, IsTup h 260 items ∧ StrsAre items.toList MI :=
  ⟨_, tup_of X rfl rfl rfl, by unfold MI; repeat constructor⟩
theorem tup_fl {w : World} {h : Heap} (X : (Mine.KF w.params).In h) : ∃ items, IsTup h 261 items ∧ StrsAre items.toList FL :=
  ⟨_, tup_of X rfl rfl rfl, by unfold FL; repeat constructor⟩
section
variable {prog : Program} {w : World} {A : Around} {E : Value → Shared → Prop} {s : Shared} {h₀ : Heap} {L : Addr} {m : PySem.Str → Option Value} {x : PySem.Str} {u : Tok} {Q : Value → Shared → Prop}
theorem in_sw (F : Fr h₀ L s.heap m) (X : (Mine.KF w.params).In h₀) (h : Q (.bool (sw x)) s) : wpAny (model prog w) A (compareOp .In (.str x u) (.ref 259)) Q E s :=
  let ⟨_, a, b⟩ := tup_sw (X.keeps F.keep); in_tuple_strs a b h
theorem in_mi (F : Fr h₀ L s.heap m) (X : (Mine.KF w.params).In h₀) (h : Q (.bool (mi x)) s) : wpAny (model prog w) A (compareOp .In (.str x u) (.ref 260)) Q E s :=
  let ⟨_, a, b⟩ := tup_mi (X.keeps F.keep); in_tuple_strs a b h
theorem in_fl (F : Fr h₀ L s.heap m) (X : (Mine.KF w.params).In h₀) (h : Q (.bool (fl x)) s) : wpAny (model prog w) A (compareOp .In (.str x u) (.ref 261)) Q E s :=
  let ⟨_, a, b⟩ := tup_fl (X.keeps F.keep); in_tuple_strs a b h
end
abbrev tupOf (l : Array Value) (n : Nat) : Obj := { cls := .type "tuple", data := .seq l n }
/-- what every contract's caller brings -/
structure Site (w : World) (mean : ExcName → Option Value) (mg mb : PySem.Str → Option Value) (dp un : Nat) (cs : Scope) (outer : List Env) (A₀ : Around) (base h₀ : Heap) (L : Addr) (m : PySem.Str → Option Value) (s : Shared) (k : Nat) : Prop where
  B : Below A₀ base outer h₀
  F : Fr h₀ L s.heap m
  X : (Mine.KF w.params).In h₀
  T : Top Mine.VW (looseW Mine.VW [PySem.Str.ofString "ORDER_8"]) mean mg mb h₀
  hk : cs.kind = .function
  hd : dp + k < recursionLimit
  hu : un + 8 * k < cLine
end Mine
namespace Mine
local macro_rules | `(tactic| walk_at "binaryOp Mult int int") => `(tactic| (k_dflt (refine' mul_int ?k1 (fm_ok _ _))))
local macro_rules | `(tactic| cell_enter) => `(tactic| (refine' enter ?k1 ?k2 ?k3 ?k4 ?k5 ?kA ?kF ?kK ?k6 ?k7 ?k8 ?k9 ?kB ?_ ?c2 ?c3 ?c4 ?c5; (case kA => exact rfl); (case kF => exact rfl); (case kK => assumption); (case k1 => k_asm); (case k2 => k_asm); (case k3 => k_asm); (case k4 => k_asm); (case k5 => k_asm); (case k6 => k_is); (case k7 => k_is); (case k8 => ktr_room); (case k9 => exact BindsTo.of_eq rfl); (case c5 => decide); (case kB => exact locs rfl); (case c2 => exact rfl); (case c3 => exact rfl); (case c4 => exact rfl); k_whole))
set_option maxRecDepth 100000 in
set_option maxHeartbeats 8000000 in
theorem take_ok : ∀ (w : World) (mean : ExcName → Option Value) (mg mb : PySem.Str → Option Value)
  (dp un : Nat) (gd : Option (List Code)) (cn : PySem.Str) (cs : Scope) (a : Addr) (ccd : Value) (cl : List (PySem.Str × Addr)) (outer : List Env) (A₀ : Around) (base h₀ : Heap) (L : Addr) (m : PySem.Str → Option Value) (s : Shared) (Q E : Value → Shared → Prop)
  (src : Addr) (x y top : Int) (t1 t2 t3 : Tok) (n : Nat)
  (_ : Site w mean mg mb dp un cs outer A₀ base h₀ L m s 3) (_ : (Mine.KF w.params).In h₀) (N : News h₀ L s.heap [(src, PySem.W.listOf #[.int x t1, .int y t2] n)])
  (_ : 0 < top) (_ : top ≤ 100) (_ : 0 ≤ y) (_ : y < 2147483647) (_ : 0 ≤ x)
  (_ : ∀ (d x' y' : Int) (t t1' t2' : Tok) (n' : Nat) (h' : Heap) (tk' : Nat), 0 ≤ d → d < top → 0 ≤ x' → 0 ≤ y' → y' < 2147483647 → (∀ b o, s.heap.get? b = some o → b ≠ src → h'.get? b = some o) → h'.get? src = some (PySem.W.listOf #[.int x' t1', .int y' t2'] n') → Q (.int d t) { s with heap := h', toks := tk' }),
  wpAny (model PySem.Challenge.rw_nt0539_01.row.prog w) (ktrTop dp un gd cn cs L a ccd cl outer) (call (.ref 296) [.ref src, .int top t3]) Q E s := by
  k_fill
  rintro w mean mg mb dp un gd cn cs a ccd cl outer A₀ base h₀ L m s Q E src x y top t1 t2 t3 n ⟨B, F, KX, T, hk, hd, hu⟩ KX0 N htop htop2 hy0 hy hx0 ret
  clear KX0
  refine wpAny_call ?_
  k_dflt (refine' enter (binds := [(PySem.Str.ofString "source", .ref src), (PySem.Str.ofString "top", .int top t3)]) ?k1 ?k2 ?k3 ?k4 ?k5 ?kA ?kF ?kK ?k6 ?k7 ?k8 ?k9 ?kB ?_ ?c2 ?c3 ?c4 ?c5; (case kA => exact rfl); (case kF => exact rfl); (case kK => assumption); (case k1 => k_asm); (case k2 => k_asm); (case k3 => k_asm); (case k4 => k_asm); (case k5 => k_asm); (case k6 => k_is); (case k7 => k_is); (case k8 => ktr_room); (case k9 => exact BindsTo.of_eq (by kernel_rfl)); (case c5 => decide); (case kB => exact locs rfl); (case c2 => exact rfl); (case c3 => exact rfl); (case c4 => exact rfl); k_whole)
  intro g L' h₁ tk hg hL F' N' B' X' T'
  clear B F KX T N
  (try dsimp only)
  (try k_fold)
  k_steps
  · rename Fr _ _ _ _ => F1
    rename News _ _ _ _ => N1
    exact ret _ _ _ _ _ _ _ _ _ (Int.fmod_nonneg_of_pos _ htop) (Int.fmod_lt_of_pos _ htop) (Int.fdiv_nonneg hx0 (Int.le_of_lt htop)) hy0 hy (fun b o e n => F1.keep _ _ (hg b o e (by simpa using n))) (N1 _ (List.Mem.head _)).1
  · rename Fr _ _ _ _ => F1
    rename News _ _ _ _ => N1
    exact ret _ _ _ _ _ _ _ _ _ (Int.fmod_nonneg_of_pos _ htop) (Int.fmod_lt_of_pos _ htop) hx0 (Int.fmod_nonneg_of_pos _ (by decide)) (Int.fmod_lt_of_pos _ (by decide)) (fun b o e n => F1.keep _ _ (hg b o e (by simpa using n))) (N1 _ (List.Mem.head _)).1
end Mine
namespace Mine
local macro_rules | `(tactic| cell_enter) => `(tactic| (refine' enter ?k1 ?k2 ?k3 ?k4 ?k5 ?kA ?kF ?kK ?k6 ?k7 ?k8 ?k9 ?kB ?_ ?c2 ?c3 ?c4 ?c5; (case kA => exact rfl); (case kF => exact rfl); (case kK => assumption); (case k1 => k_asm); (case k2 => k_asm); (case k3 => k_asm); (case k4 => k_asm); (case k5 => k_asm); (case k6 => k_is); (case k7 => k_is); (case k8 => ktr_room); (case k9 => exact BindsTo.of_eq rfl); (case c5 => decide); (case kB => exact locs rfl); (case c2 => exact rfl); (case c3 => exact rfl); (case c4 => exact rfl); k_whole))
set_option maxRecDepth 100000 in
set_option maxHeartbeats 8000000 in
theorem pool_ok : ∀ (w : World) (mean : ExcName → Option Value) (mg mb : PySem.Str → Option Value)
  (dp un : Nat) (gd : Option (List Code)) (cn : PySem.Str) (cs : Scope) (a : Addr) (ccd : Value) (cl : List (PySem.Str × Addr)) (outer : List Env) (A₀ : Around) (base h₀ : Heap) (L : Addr) (m : PySem.Str → Option Value) (s : Shared) (Q E : Value → Shared → Prop)
  (l : Addr) (vs : List Value) (ns : List Int) (t0 : Tok)
  (_ : Site w mean mg mb dp un cs outer A₀ base h₀ L m s 3) (_ : (Mine.KF w.params).In h₀) (_ : News h₀ L s.heap [])
  (_ : s.heap.IsList l vs.toArray) (_ : IntsAre vs ns) (_ : ns.length ≤ 63)
  (_ : ∀ (x y : Int) (t1 t2 : Tok) (r n : Nat) (h' : Heap) (tk' : Nat), (∀ b o, s.heap.get? b = some o → h'.get? b = some o) → 0 ≤ x → 0 ≤ y → y < 2147483647 → h'.get? r = some (PySem.W.listOf #[.int x t1, .int y t2] n) → s.heap.get? r = none → Q (.ref r) { s with heap := h', toks := tk' }),
  wpAny (model PySem.Challenge.rw_nt0539_01.row.prog w) (ktrTop dp un gd cn cs L a ccd cl outer) (call (.ref 289) [.ref l, .int 0 t0]) Q E s := by
  k_fill
  rintro w mean mg mb dp un gd cn cs a ccd cl outer A₀ base h₀ L m s Q E l vs ns t0 ⟨B, F, KX, T, hk, hd, hu⟩ KX0 N hl hi hn ret
  clear KX0
  refine wpAny_call ?_
  k_dflt (refine' enter (binds := [(PySem.Str.ofString "script", .ref l), (PySem.Str.ofString "k", .int 0 t0)]) ?k1 ?k2 ?k3 ?k4 ?k5 ?kA ?kF ?kK ?k6 ?k7 ?k8 ?k9 ?kB ?_ ?c2 ?c3 ?c4 ?c5; (case kA => exact rfl); (case kF => exact rfl); (case kK => assumption); (case k1 => k_asm); (case k2 => k_asm); (case k3 => k_asm); (case k4 => k_asm); (case k5 => k_asm); (case k6 => k_is); (case k7 => k_is); (case k8 => ktr_room); (case k9 => exact BindsTo.of_eq (by kernel_rfl)); (case c5 => decide); (case kB => exact locs rfl); (case c2 => exact rfl); (case c3 => exact rfl); (case c4 => exact rfl); k_whole)
  intro g L' h₁ tk hg hL F' N' B' X' T'
  have hl' : g.IsList l vs.toArray := hl.at fun o e => hg l o e (by simp)
  clear B F KX T N hl
  (try dsimp only)
  (try k_fold)
  k_steps
  all_goals (
    rename Fr _ _ _ _ => F1
    rename News _ _ _ _ => N1
    obtain ⟨k1, k2, k3⟩ := end_new hg F1 N1 (List.Mem.head _)
    refine ret _ _ _ _ _ _ _ _ k1 ?_ (Int.fmod_nonneg_of_pos _ (by decide)) (Int.fmod_lt_of_pos _ (by decide)) k2 k3
    refine Int.mul_nonneg ?_ ?_ <;> (split <;> omega))
end Mine
namespace Mine
local macro_rules | `(tactic| cell_enter) => `(tactic| (refine' enter ?k1 ?k2 ?k3 ?k4 ?k5 ?kA ?kF ?kK ?k6 ?k7 ?k8 ?k9 ?kB ?_ ?c2 ?c3 ?c4 ?c5; (case kA => exact rfl); (case kF => exact rfl); (case kK => assumption); (case k1 => k_asm); (case k2 => k_asm); (case k3 => k_asm); (case k4 => k_asm); (case k5 => k_asm); (case k6 => k_is); (case k7 => k_is); (case k8 => ktr_room); (case k9 => exact BindsTo.of_eq rfl); (case c5 => decide); (case kB => exact locs rfl); (case c2 => exact rfl); (case c3 => exact rfl); (case c4 => exact rfl); k_whole))
def led (x y ac dn : Int) (W : PySem.Str) : Int × Int :=
  if W = PySem.Str.ofString "stay" then (x, y) else if W = PySem.Str.ofString "mirror" then (ac - 1 - x, y) else if W = PySem.Str.ofString "flip" then (x, dn - 1 - y)
  else if W = PySem.Str.ofString "back" then (ac - 1 - x, dn - 1 - y) else if W = PySem.Str.ofString "swap" then (y, x) else if W = PySem.Str.ofString "cross" then (dn - 1 - y, ac - 1 - x)
  else if W = PySem.Str.ofString "right" then (dn - 1 - y, x) else (y, ac - 1 - x)
set_option maxRecDepth 100000 in
set_option maxHeartbeats 8000000 in
theorem led_ok : ∀ (w : World) (mean : ExcName → Option Value) (mg mb : PySem.Str → Option Value)
  (dp un : Nat) (gd : Option (List Code)) (cn : PySem.Str) (cs : Scope) (a : Addr) (ccd : Value) (cl : List (PySem.Str × Addr)) (outer : List Env) (A₀ : Around) (base h₀ : Heap) (L : Addr) (m : PySem.Str → Option Value) (s : Shared) (Q E : Value → Shared → Prop)
  (x y ac dn : Int) (W : PySem.Str) (t1 t2 t3 t4 t5 : Tok)
  (_ : Site w mean mg mb dp un cs outer A₀ base h₀ L m s 3) (_ : (Mine.KF w.params).In h₀) (_ : News h₀ L s.heap [])
  
  (_ : ∀ (r n : Nat) (u1 u2 : Tok) (v1 v2 : Int) (h' : Heap) (tk' : Nat), (∀ b o, s.heap.get? b = some o → h'.get? b = some o) → (v1, v2) = led x y ac dn W → h'.get? r = some (tupOf #[.int v1 u1, .int v2 u2] n) → s.heap.get? r = none → Q (.ref r) { s with heap := h', toks := tk' }),
  wpAny (model PySem.Challenge.rw_nt0539_01.row.prog w) (ktrTop dp un gd cn cs L a ccd cl outer) (call (.ref 317) [.int x t1, .int y t2, .int ac t3, .int dn t4, .str W t5]) Q E s := by
  k_fill
  rintro w mean mg mb dp un gd cn cs a ccd cl outer A₀ base h₀ L m s Q E x y ac dn W t1 t2 t3 t4 t5 ⟨B, F, KX, T, hk, hd, hu⟩ KX0 N  ret
  clear KX0
  refine wpAny_call ?_
  k_dflt (refine' enter (binds := [(PySem.Str.ofString "x", .int x t1), (PySem.Str.ofString "y", .int y t2), (PySem.Str.ofString "across", .int ac t3), (PySem.Str.ofString "down", .int dn t4), (PySem.Str.ofString "wish", .str W t5)]) ?k1 ?k2 ?k3 ?k4 ?k5 ?kA ?kF ?kK ?k6 ?k7 ?k8 ?k9 ?kB ?_ ?c2 ?c3 ?c4 ?c5; (case kA => exact rfl); (case kF => exact rfl); (case kK => assumption); (case k1 => k_asm); (case k2 => k_asm); (case k3 => k_asm); (case k4 => k_asm); (case k5 => k_asm); (case k6 => k_is); (case k7 => k_is); (case k8 => ktr_room); (case k9 => exact BindsTo.of_eq (by kernel_rfl)); (case c5 => decide); (case kB => exact locs rfl); (case c2 => exact rfl); (case c3 => exact rfl); (case c4 => exact rfl); k_whole)
  intro g L' h₁ tk hg hL F' N' B' X' T'
  clear B F KX T N
  (try dsimp only)
  (try k_fold)
  k_steps
  all_goals (
    (try k_unfold)
    (try dsimp only)
    rename Fr _ _ _ _ => F1
    rename News _ _ _ _ => N1
    obtain ⟨k1, k2, k3⟩ := end_new hg F1 N1 (List.Mem.head _)
    refine ret _ _ _ _ _ _ _ _ k1 ?_ k2 k3
    unfold led
    simp_all)
end Mine
namespace Mine
local macro_rules | `(tactic| cell_enter) => `(tactic| (refine' enter ?k1 ?k2 ?k3 ?k4 ?k5 ?kA ?kF ?kK ?k6 ?k7 ?k8 ?k9 ?kB ?_ ?c2 ?c3 ?c4 ?c5; (case kA => exact rfl); (case kF => exact rfl); (case kK => assumption); (case k1 => k_asm); (case k2 => k_asm); (case k3 => k_asm); (case k4 => k_asm); (case k5 => k_asm); (case k6 => k_is); (case k7 => k_is); (case k8 => ktr_room); (case k9 => exact BindsTo.of_eq rfl); (case c5 => decide); (case kB => exact locs rfl); (case c2 => exact rfl); (case c3 => exact rfl); (case c4 => exact rfl); k_whole))
local macro_rules | `(tactic| walk_at "compareOp In str ref") => `(tactic| (k_here; k_dflt (first | refine in_sw (by k_asm) (by k_asm) ?_ | refine in_mi (by k_asm) (by k_asm) ?_ | refine in_fl (by k_asm) (by k_asm) ?_)))
def place (x y ac dn : Int) (W : PySem.Str) : Int × Int :=
  (if mi W then (if sw W then dn - 1 - y else ac - 1 - x) else (if sw W then y else x),
   if fl W then (if sw W then ac - 1 - x else dn - 1 - y) else (if sw W then x else y))
set_option maxRecDepth 100000 in
set_option maxHeartbeats 8000000 in
theorem place_ok : ∀ (w : World) (mean : ExcName → Option Value) (mg mb : PySem.Str → Option Value)
  (dp un : Nat) (gd : Option (List Code)) (cn : PySem.Str) (cs : Scope) (a : Addr) (ccd : Value) (cl : List (PySem.Str × Addr)) (outer : List Env) (A₀ : Around) (base h₀ : Heap) (L : Addr) (m : PySem.Str → Option Value) (s : Shared) (Q E : Value → Shared → Prop)
  (x y ac dn : Int) (W : PySem.Str) (t1 t2 t3 t4 t5 : Tok)
  (_ : Site w mean mg mb dp un cs outer A₀ base h₀ L m s 3) (_ : (Mine.KF w.params).In h₀) (_ : News h₀ L s.heap [])
  
  (_ : ∀ (r n : Nat) (u1 u2 : Tok) (v1 v2 : Int) (h' : Heap) (tk' : Nat), (∀ b o, s.heap.get? b = some o → h'.get? b = some o) → (v1, v2) = place x y ac dn W → h'.get? r = some (tupOf #[.int v1 u1, .int v2 u2] n) → s.heap.get? r = none → Q (.ref r) { s with heap := h', toks := tk' }),
  wpAny (model PySem.Challenge.rw_nt0539_01.row.prog w) (ktrTop dp un gd cn cs L a ccd cl outer) (call (.ref 282) [.int x t1, .int y t2, .int ac t3, .int dn t4, .str W t5]) Q E s := by
  k_fill
  rintro w mean mg mb dp un gd cn cs a ccd cl outer A₀ base h₀ L m s Q E x y ac dn W t1 t2 t3 t4 t5 ⟨B, F, KX, T, hk, hd, hu⟩ KX0 N  ret
  clear KX0
  refine wpAny_call ?_
  k_dflt (refine' enter (binds := [(PySem.Str.ofString "x", .int x t1), (PySem.Str.ofString "y", .int y t2), (PySem.Str.ofString "across", .int ac t3), (PySem.Str.ofString "down", .int dn t4), (PySem.Str.ofString "word", .str W t5)]) ?k1 ?k2 ?k3 ?k4 ?k5 ?kA ?kF ?kK ?k6 ?k7 ?k8 ?k9 ?kB ?_ ?c2 ?c3 ?c4 ?c5; (case kA => exact rfl); (case kF => exact rfl); (case kK => assumption); (case k1 => k_asm); (case k2 => k_asm); (case k3 => k_asm); (case k4 => k_asm); (case k5 => k_asm); (case k6 => k_is); (case k7 => k_is); (case k8 => ktr_room); (case k9 => exact BindsTo.of_eq (by kernel_rfl)); (case c5 => decide); (case kB => exact locs rfl); (case c2 => exact rfl); (case c3 => exact rfl); (case c4 => exact rfl); k_whole)
  intro g L' h₁ tk hg hL F' N' B' X' T'
  clear B F KX T N
  (try dsimp only)
  (try k_fold)
  k_steps
  all_goals (
    (try k_unfold)
    (try dsimp only)
    rename Fr _ _ _ _ => F1
    rename News _ _ _ _ => N1
    obtain ⟨k1, k2, k3⟩ := end_new hg F1 N1 (List.Mem.head _)
    refine ret _ _ _ _ _ _ _ _ k1 ?_ k2 k3
    unfold place
    simp_all)
end Mine
namespace Mine
local macro_rules | `(tactic| cell_enter) => `(tactic| (refine' enter ?k1 ?k2 ?k3 ?k4 ?k5 ?kA ?kF ?kK ?k6 ?k7 ?k8 ?k9 ?kB ?_ ?c2 ?c3 ?c4 ?c5; (case kA => exact rfl); (case kF => exact rfl); (case kK => assumption); (case k1 => k_asm); (case k2 => k_asm); (case k3 => k_asm); (case k4 => k_asm); (case k5 => k_asm); (case k6 => k_is); (case k7 => k_is); (case k8 => ktr_room); (case k9 => exact BindsTo.of_eq rfl); (case c5 => decide); (case kB => exact locs rfl); (case c2 => exact rfl); (case c3 => exact rfl); (case c4 => exact rfl); k_whole))
def waveT (n : Int) : List (List Int) := if n = 2 then [[1, 1], [1, -1]] else [[1, 1, 1, 1], [3, 1, -1, -3], [1, -1, -1, 1], [1, -3, 3, -1]]
def wave (k x n : Int) : Int := ((waveT n).getD k.toNat []).getD x.toNat 0
local macro_rules | `(tactic| walk_at "subscriptTail Name Name ref int") => `(tactic| k_extra "mine")
set_option maxRecDepth 100000 in
set_option maxHeartbeats 8000000 in
theorem wave_ok : ∀ (w : World) (mean : ExcName → Option Value) (mg mb : PySem.Str → Option Value)
  (dp un : Nat) (gd : Option (List Code)) (cn : PySem.Str) (cs : Scope) (a : Addr) (ccd : Value) (cl : List (PySem.Str × Addr)) (outer : List Env) (A₀ : Around) (base h₀ : Heap) (L : Addr) (m : PySem.Str → Option Value) (s : Shared) (Q E : Value → Shared → Prop)
  (k x n : Int) (t1 t2 t3 : Tok)
  (_ : Site w mean mg mb dp un cs outer A₀ base h₀ L m s 3) (_ : (Mine.KF w.params).In h₀) (_ : News h₀ L s.heap [])
  (_ : n = 2 ∨ n = 4) (_ : 0 ≤ k) (_ : k < n) (_ : 0 ≤ x) (_ : x < n)
  (_ : ∀ (v : Int) (t : Tok) (h' : Heap) (tk' : Nat), (∀ b o, s.heap.get? b = some o → h'.get? b = some o) → v = wave k x n → Q (.int v t) { s with heap := h', toks := tk' }),
  wpAny (model PySem.Challenge.rw_nt0539_01.row.prog w) (ktrTop dp un gd cn cs L a ccd cl outer) (call (.ref 303) [.int k t1, .int x t2, .int n t3]) Q E s := by
  k_fill
  rintro w mean mg mb dp un gd cn cs a ccd cl outer A₀ base h₀ L m s Q E k x n t1 t2 t3 ⟨B, F, KX, T, hk, hd, hu⟩ KX0 N hn hk0 hk1 hx0 hx1 ret
  clear KX0
  refine wpAny_call ?_
  k_dflt (refine' enter (binds := [(PySem.Str.ofString "k", .int k t1), (PySem.Str.ofString "x", .int x t2), (PySem.Str.ofString "n", .int n t3)]) ?k1 ?k2 ?k3 ?k4 ?k5 ?kA ?kF ?kK ?k6 ?k7 ?k8 ?k9 ?kB ?_ ?c2 ?c3 ?c4 ?c5; (case kA => exact rfl); (case kF => exact rfl); (case kK => assumption); (case k1 => k_asm); (case k2 => k_asm); (case k3 => k_asm); (case k4 => k_asm); (case k5 => k_asm); (case k6 => k_is); (case k7 => k_is); (case k8 => ktr_room); (case k9 => exact BindsTo.of_eq (by kernel_rfl)); (case c5 => decide); (case kB => exact locs rfl); (case c2 => exact rfl); (case c3 => exact rfl); (case c4 => exact rfl); k_whole)
  intro g L' h₁ tk hg hL F' N' B' X' T'
  clear B F KX T N
  (try dsimp only)
  (try k_fold)
  k_with "mine" => refine Stop.out ?_
  k_steps
  k_with_none
  rcases hn with rfl | rfl
  all_goals (refine Stop.mk ?_)
  all_goals k_steps
  all_goals (
    rename Fr _ _ _ _ => F1
    refine ret _ _ _ _ (fun b o e => F1.keep _ _ (hg b o e (fun q => nomatch q))) ?_)
  all_goals (simp only [wave, waveT]; simp_all)
end Mine
namespace Mine
local macro_rules | `(tactic| cell_enter) => `(tactic| (refine' enter ?k1 ?k2 ?k3 ?k4 ?k5 ?kA ?kF ?kK ?k6 ?k7 ?k8 ?k9 ?kB ?_ ?c2 ?c3 ?c4 ?c5; (case kA => exact rfl); (case kF => exact rfl); (case kK => assumption); (case k1 => k_asm); (case k2 => k_asm); (case k3 => k_asm); (case k4 => k_asm); (case k5 => k_asm); (case k6 => k_is); (case k7 => k_is); (case k8 => ktr_room); (case k9 => exact BindsTo.of_eq rfl); (case c5 => decide); (case kB => exact locs rfl); (case c2 => exact rfl); (case c3 => exact rfl); (case c4 => exact rfl); k_whole))
local macro_rules | `(tactic| walk_at "InvEndN") => `(tactic| k_extra "mine")
local macro_rules | `(tactic| walk_at "exec For Name Call cons nil") => `(tactic| k_extra "mine")
local macro_rules | `(tactic| walk_at "exec For Name Name cons nil") => `(tactic| k_extra "mine")
local macro_rules | `(tactic| walk_at "pyIter ref") => `(tactic| ((with_reducible show wpAny _ _ (pyIter (Value.ref _)) (fun it s₂ => LoopAtV _ _ _ _ _ _ _ _ _ it s₂) _ _); k_extra "mine"))
abbrev lowZ (n t : Int) : Int := if t - n + 1 > 0 then t - n + 1 else 0
abbrev highZ (n t : Int) : Int := if n - 1 < t then n - 1 else t
def rr (a c n t : Int) (k : Nat) : Int := (a + (k : Int) * c) * n + t - (a + (k : Int) * c)
def zrow (n t : Int) : List Int := if t.fmod 2 = 1 then (List.range (Builtin.Range.rangeSize (lowZ n t) (highZ n t + 1) 1).toNat).map (rr (lowZ n t) 1 n t) else (List.range (Builtin.Range.rangeSize (highZ n t) (lowZ n t - 1) (-1)).toNat).map (rr (highZ n t) (-1) n t)
def zz (n : Int) : List Int := (List.range (2 * n - 1).toNat).flatMap fun (j : Nat) => zrow n (0 + j * 1)
theorem zr_up {n t : Int} (h : t.fmod 2 = 1) : (List.range (Builtin.Range.rangeSize (lowZ n t) (highZ n t + 1) 1).toNat).map (rr (lowZ n t) 1 n t) = zrow n t := (if_pos h).symm
theorem zr_down {n t : Int} (h : t.fmod 2 ≠ 1) : (List.range (Builtin.Range.rangeSize (highZ n t) (lowZ n t - 1) (-1)).toNat).map (rr (highZ n t) (-1) n t) = zrow n t := (if_neg h).symm
theorem zstep {vs : List Value} {f : Nat → List Int} {i : Nat} {l : List Int} (h : IntsAre vs ((List.range i).flatMap f ++ l)) (e : l = f i) : IntsAre vs ((List.range (i + 1)).flatMap f) := by
  rw [List.range_succ, List.flatMap_append, ← show l = [i].flatMap f by rw [e]; simp]
  exact h
theorem up_le (n t : Int) (hn : n = 2 ∨ n = 4) (h0 : 0 ≤ t) (h1 : t ≤ 6) : (Builtin.Range.rangeSize (lowZ n t) (highZ n t + 1) 1).toNat ≤ 8 := by
  refine Nat.le_trans (rangeSize_toNat_le _ _ _) ?_
  unfold lowZ highZ
  rcases hn with rfl | rfl <;> (split <;> split <;> omega)
theorem down_le (n t : Int) (hn : n = 2 ∨ n = 4) (h0 : 0 ≤ t) (h1 : t ≤ 6) : (Builtin.Range.rangeSize (highZ n t) (lowZ n t - 1) (-1)).toNat ≤ 8 := by
  refine Nat.le_trans (rangeSize_toNat_le _ _ _) ?_
  unfold lowZ highZ
  rcases hn with rfl | rfl <;> (split <;> split <;> omega)
section
local macro_rules | `(tactic| walk_at "call type:range") => `(tactic| ((rename Fr _ _ _ _ => F'); (rename News _ _ _ _ => N'); first
  | ((with_unfolding_all refine range_led2 F' N' ?_); intro r' h' tk' ta' tb' tc' F' N' l1; (try k_lt l1); (try k_sweep))
  | ((with_unfolding_all refine range_led3 F' N' (by first | exact PyProof.noPylong_small (by omega) | (refine PyProof.noPylong_small ?_; repeat' split <;> omega)) ?_); intro r' h' tk' ta' tb' tc' F' N' l1; (try k_lt l1); (try k_sweep))))
local macro_rules | `(tactic| walk_at "call builtin:list.append") => `(tactic| (k_here; (with_reducible show wpAny _ _ (call (Value.builtin _) [Value.ref _, _]) _ _ _); k_dflt (refine' append_K ?k1 ?k2 ?k3 ?_ ?z; (case k1 => k_asm); (case k2 => k_asm); (case k3 => (refine Upd.head ?_; exact OwnOff.ne (by assumption) (List.Mem.head _))); (case z => (rw [List.size_toArray, sizeLine_eq]; omega)); k_whole); intro h' F' N'; (try k_sweep)))
set_option maxRecDepth 100000 in
set_option maxHeartbeats 8000000 in
theorem zig2_ok : ∀ (w : World) (mean : ExcName → Option Value) (mg mb : PySem.Str → Option Value)
  (dp un : Nat) (gd : Option (List Code)) (cn : PySem.Str) (cs : Scope) (a : Addr) (ccd : Value) (cl : List (PySem.Str × Addr)) (outer : List Env) (A₀ : Around) (base h₀ : Heap) (L : Addr) (m : PySem.Str → Option Value) (s : Shared) (Q E : Value → Shared → Prop)
  (t1 : Tok)
  (_ : Site w mean mg mb dp un cs outer A₀ base h₀ L m s 3) (_ : (Mine.KF w.params).In h₀) (_ : News h₀ L s.heap [])
  
  (_ : ∀ (vs : List Value) (r n : Nat) (h' : Heap) (tk' : Nat), (∀ b o, s.heap.get? b = some o → h'.get? b = some o) → IntsAre vs (zz 2) → h'.get? r = some (tupOf vs.toArray n) → s.heap.get? r = none → Q (.ref r) { s with heap := h', toks := tk' }),
  wpAny (model PySem.Challenge.rw_nt0539_01.row.prog w) (ktrTop dp un gd cn cs L a ccd cl outer) (call (.ref 21) [.int 2 t1]) Q E s := by
  k_fill
  rintro w mean mg mb dp un gd cn cs a ccd cl outer A₀ base h₀ L m s Q E t1 ⟨B, F, KX, T, hk, hd, hu⟩ KX0 N  ret
  clear KX0
  refine wpAny_call ?_
  k_dflt (refine' enter (binds := [(PySem.Str.ofString "n", .int 2 t1)]) ?k1 ?k2 ?k3 ?k4 ?k5 ?kA ?kF ?kK ?k6 ?k7 ?k8 ?k9 ?kB ?_ ?c2 ?c3 ?c4 ?c5; (case kA => exact rfl); (case kF => exact rfl); (case kK => assumption); (case k1 => k_asm); (case k2 => k_asm); (case k3 => k_asm); (case k4 => k_asm); (case k5 => k_asm); (case k6 => k_is); (case k7 => k_is); (case k8 => ktr_room); (case k9 => exact BindsTo.of_eq (by kernel_rfl)); (case c5 => decide); (case kB => exact locs rfl); (case c2 => exact rfl); (case c3 => exact rfl); (case c4 => exact rfl); k_whole)
  intro g L' h₁ tk hg hL F' N' B' X' T'
  clear B F KX T N
  (try dsimp only)
  (try k_fold)
  k_with "mine" => refine Stop.out ?_
  k_steps
  refine Stop.mk ?_
  rename Fr _ _ _ _ => F1
  refine For_invVF F1 rfl rfl ?_
  (try k_fold)
  k_steps
  refine Stop.mk ?_
  rename IsRange _ _ _ _ _ _ _ _ => R2
  rename Fr _ _ _ _ => F2
  rename News _ _ _ _ => N2
  refine loop_range (σ := List Value × Nat) (n := 3) (fun c => [(_, PySem.W.listOf c.1.toArray c.2)]) [_] (fun _ => []) [PySem.Str.ofString "total", PySem.Str.ofString "low", PySem.Str.ofString "high", PySem.Str.ofString "rows", PySem.Str.ofString "y"] (fun i c => IntsAre c.1 ((List.range i).flatMap fun (j : Nat) => zrow 2 (0 + j * 1)) ∧ c.1.length ≤ 8 * i) rfl R2 rfl rfl (fun _ => rfl) ([], 0) F2 N2 (fun _ h => nomatch h) ⟨.nil, by simp⟩ ?_ ?_
  · clear F2 N2 R2
    intro i t c u h tk own hi ⟨hv, hlen⟩ hoff F3 N3
    simp only [List.cons_append, List.nil_append] at N3
    (try k_fold)
    k_steps
    all_goals (
      refine Stop.mk ?_
      rename Fr _ _ _ _ => F1
      refine For_invVF F1 rfl rfl ?_
      (try k_fold)
      k_steps
      refine Stop.mk ?_
      rename Fr _ _ _ _ => F2
      rename News _ _ _ _ => N1)
    · refine loop_range (σ := List Value × Nat) (fun c => (_, PySem.W.listOf c.1.toArray c.2) :: own) (_ :: own.map (·.1)) (fun _ => []) [PySem.Str.ofString "y"] (fun j c' => IntsAre c'.1 (((List.range i).flatMap fun (j : Nat) => zrow 2 (0 + j * 1)) ++ (List.range j).map (rr (lowZ 2 (0 + (i : Int) * 1)) 1 2 (0 + (i : Int) * 1))) ∧ c'.1.length ≤ 8 * i + j) rfl (N1 _ (List.Mem.head _)).1 (small_one (by (try dsimp only); repeat' split <;> omega) (by (try dsimp only); repeat' split <;> omega) (by (try dsimp only); repeat' split <;> omega) (by (try dsimp only); repeat' split <;> omega)) (rangeSize_toNat _ _ _) (fun _ => rfl) c F2 (fun p hp => N1 p (List.Mem.tail _ hp)) (fun _ h => nomatch h) ⟨by simpa using hv, by omega⟩ ?_ ?_
      · (try clear F1); (try clear F2); (try clear N1)
        intro j t' c' u' h' tk' own2 hj ⟨hv', hlen'⟩ hoff2 F3 N3
        have hj8 := Nat.lt_of_lt_of_le hj (up_le 2 (0 + (i : Int) * 1) (by decide) (by omega) (by omega))
        have hoff3 := off_app hoff hoff2 (List.Mem.head _) (List.Mem.head _)
        simp only [List.cons_append] at N3
        (try k_fold)
        k_steps
        refine Stop.mk ?_
        rename Fr _ _ _ _ => F4
        rename News _ _ _ _ => N4
        simp only [List.push_toArray] at N4
        exact turn_end (c'.1 ++ [.int (rr (lowZ 2 (0 + (i : Int) * 1)) 1 2 (0 + (i : Int) * 1) j) _], _) F4 N4 led_sub led_own rfl ⟨ints_snoc hv', by simp only [List.length_append, List.length_cons, List.length_nil]; omega⟩ (fun _ h => nomatch h) (by (intro z h1 h2 h3; repeat' (first | with_reducible rfl | refine (if_neg h1).trans ?_ | refine (if_neg (h2 _ (List.Mem.head _))).trans ?_ | refine (if_neg (h2 _ (List.Mem.tail _ (List.Mem.head _)))).trans ?_ | refine (if_neg (ne_stored h3 (by rfl))).trans ?_ | refine (if_neg (sub_stored h3 (by rfl))).trans ?_)))
      · intro c' u' h' tk' ⟨hv', hlen'⟩ F3 N3
        (try k_fold)
        k_steps
        refine Stop.mk ?_
        rename Fr _ _ _ _ => F4
        rename News _ _ _ _ => N4
        exact turn_end c' F4 N4 led_sub1 led_own1 rfl ⟨zstep hv' (zr_up (by assumption)), Nat.le_trans hlen' (Nat.add_le_add_left (up_le 2 (0 + (i : Int) * 1) (by decide) (by omega) (by omega)) _)⟩ (fun _ h => nomatch h) (by (intro z h1 h2 h3; repeat' (first | with_reducible rfl | refine (if_neg h1).trans ?_ | refine (if_neg (h2 _ (List.Mem.head _))).trans ?_ | refine (if_neg (h2 _ (List.Mem.tail _ (List.Mem.head _)))).trans ?_ | refine (if_neg (ne_stored h3 (by rfl))).trans ?_ | refine (if_neg (sub_stored h3 (by rfl))).trans ?_)))
    · refine loop_range (σ := List Value × Nat) (fun c => (_, PySem.W.listOf c.1.toArray c.2) :: own) (_ :: own.map (·.1)) (fun _ => []) [PySem.Str.ofString "y"] (fun j c' => IntsAre c'.1 (((List.range i).flatMap fun (j : Nat) => zrow 2 (0 + j * 1)) ++ (List.range j).map (rr (highZ 2 (0 + (i : Int) * 1)) (-1) 2 (0 + (i : Int) * 1))) ∧ c'.1.length ≤ 8 * i + j) rfl (N1 _ (List.Mem.head _)).1 (small_down (by (try dsimp only); repeat' split <;> omega) (by (try dsimp only); repeat' split <;> omega) (by (try dsimp only); repeat' split <;> omega) (by (try dsimp only); repeat' split <;> omega)) (rangeSize_toNat _ _ _) (fun _ => rfl) c F2 (fun p hp => N1 p (List.Mem.tail _ hp)) (fun _ h => nomatch h) ⟨by simpa using hv, by omega⟩ ?_ ?_
      · (try clear F1); (try clear F2); (try clear N1)
        intro j t' c' u' h' tk' own2 hj ⟨hv', hlen'⟩ hoff2 F3 N3
        have hj8 := Nat.lt_of_lt_of_le hj (down_le 2 (0 + (i : Int) * 1) (by decide) (by omega) (by omega))
        have hoff3 := off_app hoff hoff2 (List.Mem.head _) (List.Mem.head _)
        simp only [List.cons_append] at N3
        (try k_fold)
        k_steps
        refine Stop.mk ?_
        rename Fr _ _ _ _ => F4
        rename News _ _ _ _ => N4
        simp only [List.push_toArray] at N4
        exact turn_end (c'.1 ++ [.int (rr (highZ 2 (0 + (i : Int) * 1)) (-1) 2 (0 + (i : Int) * 1) j) _], _) F4 N4 led_sub led_own rfl ⟨ints_snoc hv', by simp only [List.length_append, List.length_cons, List.length_nil]; omega⟩ (fun _ h => nomatch h) (by (intro z h1 h2 h3; repeat' (first | with_reducible rfl | refine (if_neg h1).trans ?_ | refine (if_neg (h2 _ (List.Mem.head _))).trans ?_ | refine (if_neg (h2 _ (List.Mem.tail _ (List.Mem.head _)))).trans ?_ | refine (if_neg (ne_stored h3 (by rfl))).trans ?_ | refine (if_neg (sub_stored h3 (by rfl))).trans ?_)))
      · intro c' u' h' tk' ⟨hv', hlen'⟩ F3 N3
        (try k_fold)
        k_steps
        refine Stop.mk ?_
        rename Fr _ _ _ _ => F4
        rename News _ _ _ _ => N4
        exact turn_end c' F4 N4 led_sub1 led_own1 rfl ⟨zstep hv' (zr_down (by assumption)), Nat.le_trans hlen' (Nat.add_le_add_left (down_le 2 (0 + (i : Int) * 1) (by decide) (by omega) (by omega)) _)⟩ (fun _ h => nomatch h) (by (intro z h1 h2 h3; repeat' (first | with_reducible rfl | refine (if_neg h1).trans ?_ | refine (if_neg (h2 _ (List.Mem.head _))).trans ?_ | refine (if_neg (h2 _ (List.Mem.tail _ (List.Mem.head _)))).trans ?_ | refine (if_neg (ne_stored h3 (by rfl))).trans ?_ | refine (if_neg (sub_stored h3 (by rfl))).trans ?_)))
  · intro c u h tk ⟨hv, hlen⟩ F3 N3
    (try k_fold)
    k_steps
    rename Fr _ _ _ _ => F4
    rename News _ _ _ _ => N4
    obtain ⟨k1, k2, k3⟩ := end_new hg F4 N4 (List.Mem.head _)
    exact ret c.1 _ _ _ _ k1 hv k2 k3
set_option maxRecDepth 100000 in
set_option maxHeartbeats 8000000 in
theorem zig4_ok : ∀ (w : World) (mean : ExcName → Option Value) (mg mb : PySem.Str → Option Value)
  (dp un : Nat) (gd : Option (List Code)) (cn : PySem.Str) (cs : Scope) (a : Addr) (ccd : Value) (cl : List (PySem.Str × Addr)) (outer : List Env) (A₀ : Around) (base h₀ : Heap) (L : Addr) (m : PySem.Str → Option Value) (s : Shared) (Q E : Value → Shared → Prop)
  (t1 : Tok)
  (_ : Site w mean mg mb dp un cs outer A₀ base h₀ L m s 3) (_ : (Mine.KF w.params).In h₀) (_ : News h₀ L s.heap [])
  
  (_ : ∀ (vs : List Value) (r n : Nat) (h' : Heap) (tk' : Nat), (∀ b o, s.heap.get? b = some o → h'.get? b = some o) → IntsAre vs (zz 4) → h'.get? r = some (tupOf vs.toArray n) → s.heap.get? r = none → Q (.ref r) { s with heap := h', toks := tk' }),
  wpAny (model PySem.Challenge.rw_nt0539_01.row.prog w) (ktrTop dp un gd cn cs L a ccd cl outer) (call (.ref 21) [.int 4 t1]) Q E s := by
  k_fill
  rintro w mean mg mb dp un gd cn cs a ccd cl outer A₀ base h₀ L m s Q E t1 ⟨B, F, KX, T, hk, hd, hu⟩ KX0 N  ret
  clear KX0
  refine wpAny_call ?_
  k_dflt (refine' enter (binds := [(PySem.Str.ofString "n", .int 4 t1)]) ?k1 ?k2 ?k3 ?k4 ?k5 ?kA ?kF ?kK ?k6 ?k7 ?k8 ?k9 ?kB ?_ ?c2 ?c3 ?c4 ?c5; (case kA => exact rfl); (case kF => exact rfl); (case kK => assumption); (case k1 => k_asm); (case k2 => k_asm); (case k3 => k_asm); (case k4 => k_asm); (case k5 => k_asm); (case k6 => k_is); (case k7 => k_is); (case k8 => ktr_room); (case k9 => exact BindsTo.of_eq (by kernel_rfl)); (case c5 => decide); (case kB => exact locs rfl); (case c2 => exact rfl); (case c3 => exact rfl); (case c4 => exact rfl); k_whole)
  intro g L' h₁ tk hg hL F' N' B' X' T'
  clear B F KX T N
  (try dsimp only)
  (try k_fold)
  k_with "mine" => refine Stop.out ?_
  k_steps
  refine Stop.mk ?_
  rename Fr _ _ _ _ => F1
  refine For_invVF F1 rfl rfl ?_
  (try k_fold)
  k_steps
  refine Stop.mk ?_
  rename IsRange _ _ _ _ _ _ _ _ => R2
  rename Fr _ _ _ _ => F2
  rename News _ _ _ _ => N2
  refine loop_range (σ := List Value × Nat) (n := 7) (fun c => [(_, PySem.W.listOf c.1.toArray c.2)]) [_] (fun _ => []) [PySem.Str.ofString "total", PySem.Str.ofString "low", PySem.Str.ofString "high", PySem.Str.ofString "rows", PySem.Str.ofString "y"] (fun i c => IntsAre c.1 ((List.range i).flatMap fun (j : Nat) => zrow 4 (0 + j * 1)) ∧ c.1.length ≤ 8 * i) rfl R2 rfl rfl (fun _ => rfl) ([], 0) F2 N2 (fun _ h => nomatch h) ⟨.nil, by simp⟩ ?_ ?_
  · clear F2 N2 R2
    intro i t c u h tk own hi ⟨hv, hlen⟩ hoff F3 N3
    simp only [List.cons_append, List.nil_append] at N3
    (try k_fold)
    k_steps
    all_goals (
      refine Stop.mk ?_
      rename Fr _ _ _ _ => F1
      refine For_invVF F1 rfl rfl ?_
      (try k_fold)
      k_steps
      refine Stop.mk ?_
      rename Fr _ _ _ _ => F2
      rename News _ _ _ _ => N1)
    · refine loop_range (σ := List Value × Nat) (fun c => (_, PySem.W.listOf c.1.toArray c.2) :: own) (_ :: own.map (·.1)) (fun _ => []) [PySem.Str.ofString "y"] (fun j c' => IntsAre c'.1 (((List.range i).flatMap fun (j : Nat) => zrow 4 (0 + j * 1)) ++ (List.range j).map (rr (lowZ 4 (0 + (i : Int) * 1)) 1 4 (0 + (i : Int) * 1))) ∧ c'.1.length ≤ 8 * i + j) rfl (N1 _ (List.Mem.head _)).1 (small_one (by (try dsimp only); repeat' split <;> omega) (by (try dsimp only); repeat' split <;> omega) (by (try dsimp only); repeat' split <;> omega) (by (try dsimp only); repeat' split <;> omega)) (rangeSize_toNat _ _ _) (fun _ => rfl) c F2 (fun p hp => N1 p (List.Mem.tail _ hp)) (fun _ h => nomatch h) ⟨by simpa using hv, by omega⟩ ?_ ?_
      · (try clear F1); (try clear F2); (try clear N1)
        intro j t' c' u' h' tk' own2 hj ⟨hv', hlen'⟩ hoff2 F3 N3
        have hj8 := Nat.lt_of_lt_of_le hj (up_le 4 (0 + (i : Int) * 1) (by decide) (by omega) (by omega))
        have hoff3 := off_app hoff hoff2 (List.Mem.head _) (List.Mem.head _)
        simp only [List.cons_append] at N3
        (try k_fold)
        k_steps
        refine Stop.mk ?_
        rename Fr _ _ _ _ => F4
        rename News _ _ _ _ => N4
        simp only [List.push_toArray] at N4
        exact turn_end (c'.1 ++ [.int (rr (lowZ 4 (0 + (i : Int) * 1)) 1 4 (0 + (i : Int) * 1) j) _], _) F4 N4 led_sub led_own rfl ⟨ints_snoc hv', by simp only [List.length_append, List.length_cons, List.length_nil]; omega⟩ (fun _ h => nomatch h) (by (intro z h1 h2 h3; repeat' (first | with_reducible rfl | refine (if_neg h1).trans ?_ | refine (if_neg (h2 _ (List.Mem.head _))).trans ?_ | refine (if_neg (h2 _ (List.Mem.tail _ (List.Mem.head _)))).trans ?_ | refine (if_neg (ne_stored h3 (by rfl))).trans ?_ | refine (if_neg (sub_stored h3 (by rfl))).trans ?_)))
      · intro c' u' h' tk' ⟨hv', hlen'⟩ F3 N3
        (try k_fold)
        k_steps
        refine Stop.mk ?_
        rename Fr _ _ _ _ => F4
        rename News _ _ _ _ => N4
        exact turn_end c' F4 N4 led_sub1 led_own1 rfl ⟨zstep hv' (zr_up (by assumption)), Nat.le_trans hlen' (Nat.add_le_add_left (up_le 4 (0 + (i : Int) * 1) (by decide) (by omega) (by omega)) _)⟩ (fun _ h => nomatch h) (by (intro z h1 h2 h3; repeat' (first | with_reducible rfl | refine (if_neg h1).trans ?_ | refine (if_neg (h2 _ (List.Mem.head _))).trans ?_ | refine (if_neg (h2 _ (List.Mem.tail _ (List.Mem.head _)))).trans ?_ | refine (if_neg (ne_stored h3 (by rfl))).trans ?_ | refine (if_neg (sub_stored h3 (by rfl))).trans ?_)))
    · refine loop_range (σ := List Value × Nat) (fun c => (_, PySem.W.listOf c.1.toArray c.2) :: own) (_ :: own.map (·.1)) (fun _ => []) [PySem.Str.ofString "y"] (fun j c' => IntsAre c'.1 (((List.range i).flatMap fun (j : Nat) => zrow 4 (0 + j * 1)) ++ (List.range j).map (rr (highZ 4 (0 + (i : Int) * 1)) (-1) 4 (0 + (i : Int) * 1))) ∧ c'.1.length ≤ 8 * i + j) rfl (N1 _ (List.Mem.head _)).1 (small_down (by (try dsimp only); repeat' split <;> omega) (by (try dsimp only); repeat' split <;> omega) (by (try dsimp only); repeat' split <;> omega) (by (try dsimp only); repeat' split <;> omega)) (rangeSize_toNat _ _ _) (fun _ => rfl) c F2 (fun p hp => N1 p (List.Mem.tail _ hp)) (fun _ h => nomatch h) ⟨by simpa using hv, by omega⟩ ?_ ?_
      · (try clear F1); (try clear F2); (try clear N1)
        intro j t' c' u' h' tk' own2 hj ⟨hv', hlen'⟩ hoff2 F3 N3
        have hj8 := Nat.lt_of_lt_of_le hj (down_le 4 (0 + (i : Int) * 1) (by decide) (by omega) (by omega))
        have hoff3 := off_app hoff hoff2 (List.Mem.head _) (List.Mem.head _)
        simp only [List.cons_append] at N3
        (try k_fold)
        k_steps
        refine Stop.mk ?_
        rename Fr _ _ _ _ => F4
        rename News _ _ _ _ => N4
        simp only [List.push_toArray] at N4
        exact turn_end (c'.1 ++ [.int (rr (highZ 4 (0 + (i : Int) * 1)) (-1) 4 (0 + (i : Int) * 1) j) _], _) F4 N4 led_sub led_own rfl ⟨ints_snoc hv', by simp only [List.length_append, List.length_cons, List.length_nil]; omega⟩ (fun _ h => nomatch h) (by (intro z h1 h2 h3; repeat' (first | with_reducible rfl | refine (if_neg h1).trans ?_ | refine (if_neg (h2 _ (List.Mem.head _))).trans ?_ | refine (if_neg (h2 _ (List.Mem.tail _ (List.Mem.head _)))).trans ?_ | refine (if_neg (ne_stored h3 (by rfl))).trans ?_ | refine (if_neg (sub_stored h3 (by rfl))).trans ?_)))
      · intro c' u' h' tk' ⟨hv', hlen'⟩ F3 N3
        (try k_fold)
        k_steps
        refine Stop.mk ?_
        rename Fr _ _ _ _ => F4
        rename News _ _ _ _ => N4
        exact turn_end c' F4 N4 led_sub1 led_own1 rfl ⟨zstep hv' (zr_down (by assumption)), Nat.le_trans hlen' (Nat.add_le_add_left (down_le 4 (0 + (i : Int) * 1) (by decide) (by omega) (by omega)) _)⟩ (fun _ h => nomatch h) (by (intro z h1 h2 h3; repeat' (first | with_reducible rfl | refine (if_neg h1).trans ?_ | refine (if_neg (h2 _ (List.Mem.head _))).trans ?_ | refine (if_neg (h2 _ (List.Mem.tail _ (List.Mem.head _)))).trans ?_ | refine (if_neg (ne_stored h3 (by rfl))).trans ?_ | refine (if_neg (sub_stored h3 (by rfl))).trans ?_)))
  · intro c u h tk ⟨hv, hlen⟩ F3 N3
    (try k_fold)
    k_steps
    rename Fr _ _ _ _ => F4
    rename News _ _ _ _ => N4
    obtain ⟨k1, k2, k3⟩ := end_new hg F4 N4 (List.Mem.head _)
    exact ret c.1 _ _ _ _ k1 hv k2 k3
end
end Mine
namespace Mine
local macro_rules | `(tactic| cell_enter) => `(tactic| (refine' enter ?k1 ?k2 ?k3 ?k4 ?k5 ?kA ?kF ?kK ?k6 ?k7 ?k8 ?k9 ?kB ?_ ?c2 ?c3 ?c4 ?c5; (case kA => exact rfl); (case kF => exact rfl); (case kK => assumption); (case k1 => k_asm); (case k2 => k_asm); (case k3 => k_asm); (case k4 => k_asm); (case k5 => k_asm); (case k6 => k_is); (case k7 => k_is); (case k8 => ktr_room); (case k9 => exact BindsTo.of_eq rfl); (case c5 => decide); (case kB => exact locs rfl); (case c2 => exact rfl); (case c3 => exact rfl); (case c4 => exact rfl); k_whole))
local macro_rules | `(tactic| walk_at "call ref") => `(tactic| k_extra "mine")
set_option maxRecDepth 100000 in
set_option maxHeartbeats 8000000 in
theorem ord2_ok : ∀ (w : World) (mean : ExcName → Option Value) (mg mb : PySem.Str → Option Value)
  (dp un : Nat) (gd : Option (List Code)) (cn : PySem.Str) (cs : Scope) (a : Addr) (ccd : Value) (cl : List (PySem.Str × Addr)) (outer : List Env) (A₀ : Around) (base h₀ : Heap) (L : Addr) (m : PySem.Str → Option Value) (s : Shared) (Q E : Value → Shared → Prop)
  (t1 : Tok)
  (_ : Site w mean mg mb dp un cs outer A₀ base h₀ L m s 4) (_ : (Mine.KF w.params).In h₀) (_ : News h₀ L s.heap [])
  
  (_ : ∀ (vs : List Value) (r n : Nat) (h' : Heap) (tk' : Nat), (∀ b o, s.heap.get? b = some o → h'.get? b = some o) → IntsAre vs (zz 2) → h'.get? r = some (tupOf vs.toArray n) → s.heap.get? r = none → Q (.ref r) { s with heap := h', toks := tk' }),
  wpAny (model PySem.Challenge.rw_nt0539_01.row.prog w) (ktrTop dp un gd cn cs L a ccd cl outer) (call (.ref 246) [.int 2 t1]) Q E s := by
  k_fill
  rintro w mean mg mb dp un gd cn cs a ccd cl outer A₀ base h₀ L m s Q E t1 ⟨B, F, KX, T, hk, hd, hu⟩ KX0 N  ret
  clear KX0
  refine wpAny_call ?_
  k_dflt (refine' enter (binds := [(PySem.Str.ofString "n", .int 2 t1)]) ?k1 ?k2 ?k3 ?k4 ?k5 ?kA ?kF ?kK ?k6 ?k7 ?k8 ?k9 ?kB ?_ ?c2 ?c3 ?c4 ?c5; (case kA => exact rfl); (case kF => exact rfl); (case kK => assumption); (case k1 => k_asm); (case k2 => k_asm); (case k3 => k_asm); (case k4 => k_asm); (case k5 => k_asm); (case k6 => k_is); (case k7 => k_is); (case k8 => ktr_room); (case k9 => exact BindsTo.of_eq (by kernel_rfl)); (case c5 => decide); (case kB => exact locs rfl); (case c2 => exact rfl); (case c3 => exact rfl); (case c4 => exact rfl); k_whole)
  intro g L' h₁ tk hg hL F' N' B' X' T'
  clear B F KX T N
  (try dsimp only)
  (try k_fold)
  k_with "mine" => refine Stop.out ?_
  k_steps
  refine Stop.mk ?_
  rename Fr _ _ _ _ => F1
  rename News _ _ _ _ => N1
  refine zig2_ok w mean mg mb _ _ _ _ _ _ _ _ _ _ _ _ _ _ _ _ _ _ ⟨by assumption, F1, by assumption, by assumption, rfl, by show dp + 1 + _ < recursionLimit; omega, by show un + 3 + 8 * _ < cLine; omega⟩ (by assumption) News.nil ?_
  intro vs9 r9 n9 h9 tk9 hk9 hv9 hr9 hn9
  obtain ⟨k1, k2⟩ := end_pass hg F1 hk9 hn9
  exact ret vs9 r9 n9 h9 tk9 k1 hv9 hr9 k2
set_option maxRecDepth 100000 in
set_option maxHeartbeats 8000000 in
theorem ord4_ok : ∀ (w : World) (mean : ExcName → Option Value) (mg mb : PySem.Str → Option Value)
  (dp un : Nat) (gd : Option (List Code)) (cn : PySem.Str) (cs : Scope) (a : Addr) (ccd : Value) (cl : List (PySem.Str × Addr)) (outer : List Env) (A₀ : Around) (base h₀ : Heap) (L : Addr) (m : PySem.Str → Option Value) (s : Shared) (Q E : Value → Shared → Prop)
  (t1 : Tok)
  (_ : Site w mean mg mb dp un cs outer A₀ base h₀ L m s 4) (_ : (Mine.KF w.params).In h₀) (_ : News h₀ L s.heap [])
  
  (_ : ∀ (vs : List Value) (r n : Nat) (h' : Heap) (tk' : Nat), (∀ b o, s.heap.get? b = some o → h'.get? b = some o) → IntsAre vs (zz 4) → h'.get? r = some (tupOf vs.toArray n) → s.heap.get? r = none → Q (.ref r) { s with heap := h', toks := tk' }),
  wpAny (model PySem.Challenge.rw_nt0539_01.row.prog w) (ktrTop dp un gd cn cs L a ccd cl outer) (call (.ref 246) [.int 4 t1]) Q E s := by
  k_fill
  rintro w mean mg mb dp un gd cn cs a ccd cl outer A₀ base h₀ L m s Q E t1 ⟨B, F, KX, T, hk, hd, hu⟩ KX0 N  ret
  clear KX0
  refine wpAny_call ?_
  k_dflt (refine' enter (binds := [(PySem.Str.ofString "n", .int 4 t1)]) ?k1 ?k2 ?k3 ?k4 ?k5 ?kA ?kF ?kK ?k6 ?k7 ?k8 ?k9 ?kB ?_ ?c2 ?c3 ?c4 ?c5; (case kA => exact rfl); (case kF => exact rfl); (case kK => assumption); (case k1 => k_asm); (case k2 => k_asm); (case k3 => k_asm); (case k4 => k_asm); (case k5 => k_asm); (case k6 => k_is); (case k7 => k_is); (case k8 => ktr_room); (case k9 => exact BindsTo.of_eq (by kernel_rfl)); (case c5 => decide); (case kB => exact locs rfl); (case c2 => exact rfl); (case c3 => exact rfl); (case c4 => exact rfl); k_whole)
  intro g L' h₁ tk hg hL F' N' B' X' T'
  clear B F KX T N
  (try dsimp only)
  (try k_fold)
  k_with "mine" => refine Stop.out ?_
  k_steps
  refine Stop.mk ?_
  rename Fr _ _ _ _ => F1
  rename News _ _ _ _ => N1
  refine zig4_ok w mean mg mb _ _ _ _ _ _ _ _ _ _ _ _ _ _ _ _ _ _ ⟨by assumption, F1, by assumption, by assumption, rfl, by show dp + 1 + _ < recursionLimit; omega, by show un + 3 + 8 * _ < cLine; omega⟩ (by assumption) News.nil ?_
  intro vs9 r9 n9 h9 tk9 hk9 hv9 hr9 hn9
  obtain ⟨k1, k2⟩ := end_pass hg F1 hk9 hn9
  exact ret vs9 r9 n9 h9 tk9 k1 hv9 hr9 k2
end Mine
namespace Mine
local macro_rules | `(tactic| cell_enter) => `(tactic| (refine' enterC ?k1 ?k2 ?k3 ?k5 ?kA ?kF ?kK ?k6 ?k7 ?k8 ?k9 ?kB ?kD ?_ ?c2 ?c3 ?c4; (case kA => exact rfl); (case kF => exact rfl); (case kK => assumption); (case k1 => k_asm); (case k2 => k_asm); (case k3 => k_asm); (case k5 => k_asm); (case k6 => k_is); (case k7 => k_is); (case k8 => ktr_room); (case k9 => exact BindsTo.of_eq rfl); (case kB => exact rfl); (case kD => decide +kernel); (case c2 => exact rfl); (case c3 => exact rfl); (case c4 => exact rfl); k_whole))
local macro_rules | `(tactic| walk_at "call ref") => `(tactic| k_extra "mine")
local macro_rules | `(tactic| walk_at "eval ListComp") => `(tactic| k_extra "mine")
local macro_rules | `(tactic| walk_at "CompEnd") => `(tactic| k_extra "mine")
theorem zz2_b : ∀ p ∈ zz 2, 0 ≤ p ∧ p < 4 := by decide
theorem zz4_b : ∀ p ∈ zz 4, 0 ≤ p ∧ p < 16 := by decide
set_option maxRecDepth 100000 in
set_option maxHeartbeats 8000000 in
theorem row2_ok : ∀ (w : World) (mean : ExcName → Option Value) (mg mb : PySem.Str → Option Value)
  (dp un : Nat) (gd : Option (List Code)) (cn : PySem.Str) (cs : Scope) (a : Addr) (ccd : Value) (cl : List (PySem.Str × Addr)) (outer : List Env) (A₀ : Around) (base h₀ : Heap) (L : Addr) (m : PySem.Str → Option Value) (s : Shared) (Q E : Value → Shared → Prop)
  (l : Addr) (vs : List Value) (ns : List Int) (t1 : Tok)
  (_ : Site w mean mg mb dp un cs outer A₀ base h₀ L m s 6) (_ : (Mine.KF w.params).In h₀) (_ : News h₀ L s.heap [])
  (_ : s.heap.IsList l vs.toArray) (_ : IntsAre vs ns) (_ : ns.length = 4)
  (_ : ∀ (vs : List Value) (r n : Nat) (h' : Heap) (tk' : Nat), (∀ b o, s.heap.get? b = some o → h'.get? b = some o) → IntsAre vs ((zz 2).map fun p => ns.getD p.toNat 0) → h'.get? r = some (PySem.W.listOf vs.toArray n) → s.heap.get? r = none → Q (.ref r) { s with heap := h', toks := tk' }),
  wpAny (model PySem.Challenge.rw_nt0539_01.row.prog w) (ktrTop dp un gd cn cs L a ccd cl outer) (call (.ref 251) [.ref l, .int 2 t1]) Q E s := by
  k_fill
  rintro w mean mg mb dp un gd cn cs a ccd cl outer A₀ base h₀ L m s Q E l vs ns t1 ⟨B, F, KX, T, hk, hd, hu⟩ KX0 N hl hi hn ret
  clear KX0
  refine wpAny_call ?_
  k_dflt (refine' enterC (binds := [(PySem.Str.ofString "block", .ref l), (PySem.Str.ofString "n", .int 2 t1)]) ?k1 ?k2 ?k3 ?k5 ?kA ?kF ?kK ?k6 ?k7 ?k8 ?k9 ?kB ?kD ?_ ?c2 ?c3 ?c4; (case kA => exact rfl); (case kF => exact rfl); (case kK => assumption); (case k1 => k_asm); (case k2 => k_asm); (case k3 => k_asm); (case k5 => k_asm); (case k6 => k_is); (case k7 => k_is); (case k8 => ktr_room); (case k9 => exact BindsTo.of_eq (by kernel_rfl)); (case kB => exact rfl); (case kD => decide +kernel); (case c2 => exact rfl); (case c3 => exact rfl); (case c4 => exact rfl); k_whole)
  intro g L' h₁ tk cells hg hL F' N' Y' B' X' T'; k_cells Y'; (try simp only [List.cons_append, List.nil_append] at N')
  have hl' : g.IsList l vs.toArray := hl.at fun o e => hg l o e (by simp)
  clear B F KX T N hl
  (try dsimp only)
  (try k_fold)
  k_with "mine" => refine Stop.out ?_
  k_steps
  refine Stop.mk ?_
  rename Fr _ _ _ _ => F1
  k_dflt (refine comp_tuple F1 (by with_unfolding_all rfl) (by decide) (by rfl) (by decide) (by rfl) ?_)
  (try k_fold)
  k_steps
  refine Stop.mk ?_
  rename Fr _ _ _ _ => F1
  rename News _ _ _ _ => N1
  refine ord2_ok w mean mg mb _ _ _ _ _ _ _ _ _ _ _ _ _ _ _ _ _ _ ⟨by assumption, F1, by assumption, by assumption, rfl, by show dp + 1 + _ < recursionLimit; omega, by show un + 3 + 8 * _ < cLine; omega⟩ (by assumption) News.nil ?_
  intro vs9 r9 n9 h9 tk9 hk9 hv9 hr9 hn9
  have F2 := fr_back F1 hk9
  have N2 := news_add F1 N1 hk9 hr9 hn9
  have l9 := ne_of_new N1 hn9
  clear F1 N1
  have hz9 := hv9.length
  refine ⟨r9, vs9.toArray, _, rfl, rfl, F2, N2, ⟨n9, List.Mem.head _⟩, by rw [List.size_toArray, hz9, sizeLine_eq]; decide, ?_⟩
  rintro s₂ ⟨hh2, rfl⟩
  refine comp_ind (n := vs9.toArray.size) (fun i ys news => news = _ ∧ IntsAre ys (((zz 2).take i).map fun p => ns.getD p.toNat 0)) ?_ ?_ _ 0 [] _ (Nat.zero_add _) ⟨rfl, by simpa using IntsAre.nil⟩
  · rintro ys news ⟨rfl, hy⟩ D h tk F3 N3 off
    obtain ⟨k1, k2, k3⟩ := end_new hg F3 N3 (List.Mem.head _)
    exact ret ys _ _ _ _ k1 (ints_full hy hz9) k2 k3
  · rintro i ys news v I oI C oC D m₂ h tk E' hi9 ⟨rfl, hy⟩ hP hC hx F3 N3 off ne
    clear F2 N2
    obtain ⟨p9, t9, rfl, hp9⟩ := hv9.at i v (by simpa using hP)
    obtain ⟨hb1, hb2⟩ := zz2_b p9 (List.mem_of_getElem? hp9)
    (try k_fold)
    k_steps
    refine Stop.mk ?_
    rename Fr _ _ _ _ => F4
    rename News _ _ _ _ => N4
    exact LCg.CompEnd.intro F4 N4 _ (fun _ h => h) off ⟨n9, List.Mem.head _⟩ ⟨rfl, ints_take hy hp9⟩
set_option maxRecDepth 100000 in
set_option maxHeartbeats 8000000 in
theorem row4_ok : ∀ (w : World) (mean : ExcName → Option Value) (mg mb : PySem.Str → Option Value)
  (dp un : Nat) (gd : Option (List Code)) (cn : PySem.Str) (cs : Scope) (a : Addr) (ccd : Value) (cl : List (PySem.Str × Addr)) (outer : List Env) (A₀ : Around) (base h₀ : Heap) (L : Addr) (m : PySem.Str → Option Value) (s : Shared) (Q E : Value → Shared → Prop)
  (l : Addr) (vs : List Value) (ns : List Int) (t1 : Tok)
  (_ : Site w mean mg mb dp un cs outer A₀ base h₀ L m s 6) (_ : (Mine.KF w.params).In h₀) (_ : News h₀ L s.heap [])
  (_ : s.heap.IsList l vs.toArray) (_ : IntsAre vs ns) (_ : ns.length = 16)
  (_ : ∀ (vs : List Value) (r n : Nat) (h' : Heap) (tk' : Nat), (∀ b o, s.heap.get? b = some o → h'.get? b = some o) → IntsAre vs ((zz 4).map fun p => ns.getD p.toNat 0) → h'.get? r = some (PySem.W.listOf vs.toArray n) → s.heap.get? r = none → Q (.ref r) { s with heap := h', toks := tk' }),
  wpAny (model PySem.Challenge.rw_nt0539_01.row.prog w) (ktrTop dp un gd cn cs L a ccd cl outer) (call (.ref 251) [.ref l, .int 4 t1]) Q E s := by
  k_fill
  rintro w mean mg mb dp un gd cn cs a ccd cl outer A₀ base h₀ L m s Q E l vs ns t1 ⟨B, F, KX, T, hk, hd, hu⟩ KX0 N hl hi hn ret
  clear KX0
  refine wpAny_call ?_
  k_dflt (refine' enterC (binds := [(PySem.Str.ofString "block", .ref l), (PySem.Str.ofString "n", .int 4 t1)]) ?k1 ?k2 ?k3 ?k5 ?kA ?kF ?kK ?k6 ?k7 ?k8 ?k9 ?kB ?kD ?_ ?c2 ?c3 ?c4; (case kA => exact rfl); (case kF => exact rfl); (case kK => assumption); (case k1 => k_asm); (case k2 => k_asm); (case k3 => k_asm); (case k5 => k_asm); (case k6 => k_is); (case k7 => k_is); (case k8 => ktr_room); (case k9 => exact BindsTo.of_eq (by kernel_rfl)); (case kB => exact rfl); (case kD => decide +kernel); (case c2 => exact rfl); (case c3 => exact rfl); (case c4 => exact rfl); k_whole)
  intro g L' h₁ tk cells hg hL F' N' Y' B' X' T'; k_cells Y'; (try simp only [List.cons_append, List.nil_append] at N')
  have hl' : g.IsList l vs.toArray := hl.at fun o e => hg l o e (by simp)
  clear B F KX T N hl
  (try dsimp only)
  (try k_fold)
  k_with "mine" => refine Stop.out ?_
  k_steps
  refine Stop.mk ?_
  rename Fr _ _ _ _ => F1
  k_dflt (refine comp_tuple F1 (by with_unfolding_all rfl) (by decide) (by rfl) (by decide) (by rfl) ?_)
  (try k_fold)
  k_steps
  refine Stop.mk ?_
  rename Fr _ _ _ _ => F1
  rename News _ _ _ _ => N1
  refine ord4_ok w mean mg mb _ _ _ _ _ _ _ _ _ _ _ _ _ _ _ _ _ _ ⟨by assumption, F1, by assumption, by assumption, rfl, by show dp + 1 + _ < recursionLimit; omega, by show un + 3 + 8 * _ < cLine; omega⟩ (by assumption) News.nil ?_
  intro vs9 r9 n9 h9 tk9 hk9 hv9 hr9 hn9
  have F2 := fr_back F1 hk9
  have N2 := news_add F1 N1 hk9 hr9 hn9
  have l9 := ne_of_new N1 hn9
  clear F1 N1
  have hz9 := hv9.length
  refine ⟨r9, vs9.toArray, _, rfl, rfl, F2, N2, ⟨n9, List.Mem.head _⟩, by rw [List.size_toArray, hz9, sizeLine_eq]; decide, ?_⟩
  rintro s₂ ⟨hh2, rfl⟩
  refine comp_ind (n := vs9.toArray.size) (fun i ys news => news = _ ∧ IntsAre ys (((zz 4).take i).map fun p => ns.getD p.toNat 0)) ?_ ?_ _ 0 [] _ (Nat.zero_add _) ⟨rfl, by simpa using IntsAre.nil⟩
  · rintro ys news ⟨rfl, hy⟩ D h tk F3 N3 off
    obtain ⟨k1, k2, k3⟩ := end_new hg F3 N3 (List.Mem.head _)
    exact ret ys _ _ _ _ k1 (ints_full hy hz9) k2 k3
  · rintro i ys news v I oI C oC D m₂ h tk E' hi9 ⟨rfl, hy⟩ hP hC hx F3 N3 off ne
    clear F2 N2
    obtain ⟨p9, t9, rfl, hp9⟩ := hv9.at i v (by simpa using hP)
    obtain ⟨hb1, hb2⟩ := zz4_b p9 (List.mem_of_getElem? hp9)
    (try k_fold)
    k_steps
    refine Stop.mk ?_
    rename Fr _ _ _ _ => F4
    rename News _ _ _ _ => N4
    exact LCg.CompEnd.intro F4 N4 _ (fun _ h => h) off ⟨n9, List.Mem.head _⟩ ⟨rfl, ints_take hy hp9⟩
end Mine
namespace Mine
local macro_rules | `(tactic| cell_enter) => `(tactic| (refine' enter ?k1 ?k2 ?k3 ?k4 ?k5 ?kA ?kF ?kK ?k6 ?k7 ?k8 ?k9 ?kB ?_ ?c2 ?c3 ?c4 ?c5; (case kA => exact rfl); (case kF => exact rfl); (case kK => assumption); (case k1 => k_asm); (case k2 => k_asm); (case k3 => k_asm); (case k4 => k_asm); (case k5 => k_asm); (case k6 => k_is); (case k7 => k_is); (case k8 => ktr_room); (case k9 => exact BindsTo.of_eq rfl); (case c5 => decide); (case kB => exact locs rfl); (case c2 => exact rfl); (case c3 => exact rfl); (case c4 => exact rfl); k_whole))
local macro_rules | `(tactic| walk_at "call ref") => `(tactic| k_extra "mine")
local macro_rules | `(tactic| walk_at "InvEndN") => `(tactic| k_extra "mine")
local macro_rules | `(tactic| walk_at "exec For Name Call cons nil") => `(tactic| k_extra "mine")
local macro_rules | `(tactic| walk_at "exec For Name Name cons nil") => `(tactic| k_extra "mine")
local macro_rules | `(tactic| walk_at "pyIter ref") => `(tactic| ((with_reducible show wpAny _ _ (pyIter (Value.ref _)) (fun it s₂ => LoopAtV _ _ _ _ _ _ _ _ _ it s₂) _ _); k_extra "mine"))
local macro_rules | `(tactic| walk_at "setItem ref int") => `(tactic| (k_here; k_dflt (refine' ksa_set ?k1 ?k2 ?k3 ?k4 ?k5 ?k6 ?k7 ?_; (case k1 => k_asm); (case k2 => k_asm); (case k3 => (refine Upd.head ?_; exact OwnOff.ne (by assumption) (List.Mem.head _))); (case k4 => with_reducible assumption); (case k5 => omega); (case k6 => omega); (case k7 => omega); k_whole); intro h' F' N' hi' hl' hs'; (try k_sweep)))
def blkS (n : Int) (ns : List Int) (i : Nat) : List Int := (List.range i).foldl (fun f k => f.set ((zz n).getD k 0).toNat (ns.getD k 0)) (List.replicate (n * n).toNat 0)
theorem blkS_len (n : Int) (ns : List Int) (i : Nat) : (blkS n ns i).length = (n * n).toNat := by
  unfold blkS
  induction i with
  | zero => simp
  | succ i ih => rw [List.range_succ, List.foldl_append]; simpa using ih
theorem led_sub1' {g : Heap} {L : Addr} {h : Heap} {q r : Addr × Obj} {o : List (Addr × Obj)} (N : News g L h (q :: r :: o)) : News g L h [r] := fun p hp => N p (List.Mem.tail _ ((List.mem_singleton.mp hp) ▸ List.Mem.head _))
theorem blk_step {n : Int} {ns : List Int} {fs : List Value} {rk : Nat} {p : Int} {t : Tok} (h : IntsAre fs (blkS n ns rk)) (hp : (zz n)[rk]? = some p) : IntsAre (fs.set p.toNat (.int (ns.getD (rk : Int).toNat 0) t)) (blkS n ns (rk + 1)) := by
  have e : blkS n ns (rk + 1) = (blkS n ns rk).set p.toNat (ns.getD (rk : Int).toNat 0) := by
    unfold blkS
    rw [List.range_succ, List.foldl_append]
    simp only [List.foldl_cons, List.foldl_nil, List.getD_eq_getElem?_getD, hp, Option.getD_some, Int.toNat_natCast]
  rw [e]
  exact ints_set h _
def blk (n : Int) (ns : List Int) : List Int := blkS n ns (n * n).toNat
set_option maxRecDepth 100000 in
set_option maxHeartbeats 8000000 in
theorem blk2_ok : ∀ (w : World) (mean : ExcName → Option Value) (mg mb : PySem.Str → Option Value)
  (dp un : Nat) (gd : Option (List Code)) (cn : PySem.Str) (cs : Scope) (a : Addr) (ccd : Value) (cl : List (PySem.Str × Addr)) (outer : List Env) (A₀ : Around) (base h₀ : Heap) (L : Addr) (m : PySem.Str → Option Value) (s : Shared) (Q E : Value → Shared → Prop)
  (l : Addr) (vs : List Value) (ns : List Int) (t1 : Tok)
  (_ : Site w mean mg mb dp un cs outer A₀ base h₀ L m s 6) (_ : (Mine.KF w.params).In h₀) (_ : News h₀ L s.heap [])
  (_ : s.heap.IsList l vs.toArray) (_ : IntsAre vs ns) (_ : ns.length = 4)
  (_ : ∀ (vs : List Value) (r n : Nat) (h' : Heap) (tk' : Nat), (∀ b o, s.heap.get? b = some o → h'.get? b = some o) → IntsAre vs (blk 2 ns) → h'.get? r = some (PySem.W.listOf vs.toArray n) → s.heap.get? r = none → Q (.ref r) { s with heap := h', toks := tk' }),
  wpAny (model PySem.Challenge.rw_nt0539_01.row.prog w) (ktrTop dp un gd cn cs L a ccd cl outer) (call (.ref 258) [.ref l, .int 2 t1]) Q E s := by
  k_fill
  rintro w mean mg mb dp un gd cn cs a ccd cl outer A₀ base h₀ L m s Q E l vs ns t1 ⟨B, F, KX, T, hk, hd, hu⟩ KX0 N hl hi hn ret
  clear KX0
  refine wpAny_call ?_
  k_dflt (refine' enter (binds := [(PySem.Str.ofString "row", .ref l), (PySem.Str.ofString "n", .int 2 t1)]) ?k1 ?k2 ?k3 ?k4 ?k5 ?kA ?kF ?kK ?k6 ?k7 ?k8 ?k9 ?kB ?_ ?c2 ?c3 ?c4 ?c5; (case kA => exact rfl); (case kF => exact rfl); (case kK => assumption); (case k1 => k_asm); (case k2 => k_asm); (case k3 => k_asm); (case k4 => k_asm); (case k5 => k_asm); (case k6 => k_is); (case k7 => k_is); (case k8 => ktr_room); (case k9 => exact BindsTo.of_eq (by kernel_rfl)); (case c5 => decide); (case kB => exact locs rfl); (case c2 => exact rfl); (case c3 => exact rfl); (case c4 => exact rfl); k_whole)
  intro g L' h₁ tk hg hL F' N' B' X' T'
  have hl' : g.IsList l vs.toArray := hl.at fun o e => hg l o e (by simp)
  clear B F KX T N hl
  (try dsimp only)
  (try k_fold)
  k_with "mine" => refine Stop.out ?_
  k_steps
  refine Stop.mk ?_
  rename Fr _ _ _ _ => F1
  refine For_invVF F1 rfl rfl ?_
  (try k_fold)
  k_steps
  refine Stop.mk ?_
  rename Fr _ _ _ _ => F1
  rename News _ _ _ _ => N1
  refine ord2_ok w mean mg mb _ _ _ _ _ _ _ _ _ _ _ _ _ _ _ _ _ _ ⟨by assumption, F1, by assumption, by assumption, rfl, by show dp + 1 + _ < recursionLimit; omega, by show un + 3 + 8 * _ < cLine; omega⟩ (by assumption) News.nil ?_
  intro vs9 r9 n9 h9 tk9 hk9 hv9 hr9 hn9
  have F2 := fr_back F1 hk9
  have N2 := news_add F1 N1 hk9 hr9 hn9
  have l9 := ne_of_new N1 hn9
  clear F1 N1
  (try dsimp only)
  (try k_unfold)
  (try dsimp only)
  (try k_fold)
  k_steps
  refine Stop.mk ?_
  clear hk9
  rename Fr _ _ _ _ => F3
  rename News _ _ _ _ => N3
  have hz9 := hv9.length
  refine loop_tuple (σ := List Value × Nat × Nat × Tok) (fun c => [(_, PySem.W.listOf c.1.toArray c.2.1)]) [_] (fun c => [(PySem.Str.ofString "rank", .int (c.2.2.1 : Int) c.2.2.2)]) [PySem.Str.ofString "place"] (fun i c => c.2.2.1 = i ∧ IntsAre c.1 (blkS 2 ns i)) rfl ⟨_, (N3 _ (List.Mem.head _)).1, rfl, _, rfl⟩ (N3 _ (List.Mem.head _)).2.1 (fun h => l9 _ (List.Mem.head _) (List.mem_singleton.mp h).symm) (fun _ => rfl) (_, 0, 0, _) F3 (led_sub1' N3) (fun p hp => (List.mem_singleton.mp hp) ▸ rfl) ⟨rfl, by exact ints_rep (x := 0) 4⟩ ?_ ?_
  · clear F3 N3 l9
    rintro i v ⟨fs, cap, rk, tr⟩ u h tk own hi9 hP ⟨rfl, hv⟩ hoff F3 N3
    dsimp only at hP hv hi9 F3 N3
    obtain ⟨p9, t9, rfl, hp9⟩ := hv9.at rk v (by simpa using hP)
    obtain ⟨hb1, hb2⟩ := zz2_b p9 (List.mem_of_getElem? hp9)
    have hl9 : (blkS 2 ns rk).length = 4 := blkS_len _ _ _
    have hi8 : rk < 4 := Nat.lt_of_lt_of_eq (by simpa using hi9 : rk < vs9.length) hz9
    simp only [List.cons_append, List.nil_append] at N3
    (try k_fold)
    k_steps
    refine Stop.mk ?_
    rename Fr _ _ _ _ => F4
    rename News _ _ _ _ => N4
    exact turn_end (fs.set p9.toNat (.int (ns.getD (rk : Int).toNat 0) _), cap, rk + 1, _) F4 N4 led_sub1 led_own1 rfl ⟨rfl, blk_step hv hp9⟩ (fun p hp => (List.mem_singleton.mp hp) ▸ rfl) (by (intro z h1 h2 h3; repeat' (first | with_reducible rfl | refine (if_neg h1).trans ?_ | refine (if_neg (h2 _ (List.Mem.head _))).trans ?_ | refine (if_neg (h2 _ (List.Mem.tail _ (List.Mem.head _)))).trans ?_ | refine (if_neg (ne_stored h3 (by rfl))).trans ?_ | refine (if_neg (sub_stored h3 (by rfl))).trans ?_)))
  · rintro ⟨fs, cap, rk, tr⟩ u h tk ⟨hrk, hv⟩ F3 N3
    dsimp only at hrk hv F3 N3
    (try k_fold)
    k_steps
    rename Fr _ _ _ _ => F4
    rename News _ _ _ _ => N4
    obtain ⟨k1, k2, k3⟩ := end_new hg F4 N4 (List.Mem.head _)
    exact ret fs _ _ _ _ k1 (by rw [List.size_toArray, hz9] at hv; exact hv) k2 k3
set_option maxRecDepth 100000 in
set_option maxHeartbeats 8000000 in
theorem blk4_ok : ∀ (w : World) (mean : ExcName → Option Value) (mg mb : PySem.Str → Option Value)
  (dp un : Nat) (gd : Option (List Code)) (cn : PySem.Str) (cs : Scope) (a : Addr) (ccd : Value) (cl : List (PySem.Str × Addr)) (outer : List Env) (A₀ : Around) (base h₀ : Heap) (L : Addr) (m : PySem.Str → Option Value) (s : Shared) (Q E : Value → Shared → Prop)
  (l : Addr) (vs : List Value) (ns : List Int) (t1 : Tok)
  (_ : Site w mean mg mb dp un cs outer A₀ base h₀ L m s 6) (_ : (Mine.KF w.params).In h₀) (_ : News h₀ L s.heap [])
  (_ : s.heap.IsList l vs.toArray) (_ : IntsAre vs ns) (_ : ns.length = 16)
  (_ : ∀ (vs : List Value) (r n : Nat) (h' : Heap) (tk' : Nat), (∀ b o, s.heap.get? b = some o → h'.get? b = some o) → IntsAre vs (blk 4 ns) → h'.get? r = some (PySem.W.listOf vs.toArray n) → s.heap.get? r = none → Q (.ref r) { s with heap := h', toks := tk' }),
  wpAny (model PySem.Challenge.rw_nt0539_01.row.prog w) (ktrTop dp un gd cn cs L a ccd cl outer) (call (.ref 258) [.ref l, .int 4 t1]) Q E s := by
  k_fill
  rintro w mean mg mb dp un gd cn cs a ccd cl outer A₀ base h₀ L m s Q E l vs ns t1 ⟨B, F, KX, T, hk, hd, hu⟩ KX0 N hl hi hn ret
  clear KX0
  refine wpAny_call ?_
  k_dflt (refine' enter (binds := [(PySem.Str.ofString "row", .ref l), (PySem.Str.ofString "n", .int 4 t1)]) ?k1 ?k2 ?k3 ?k4 ?k5 ?kA ?kF ?kK ?k6 ?k7 ?k8 ?k9 ?kB ?_ ?c2 ?c3 ?c4 ?c5; (case kA => exact rfl); (case kF => exact rfl); (case kK => assumption); (case k1 => k_asm); (case k2 => k_asm); (case k3 => k_asm); (case k4 => k_asm); (case k5 => k_asm); (case k6 => k_is); (case k7 => k_is); (case k8 => ktr_room); (case k9 => exact BindsTo.of_eq (by kernel_rfl)); (case c5 => decide); (case kB => exact locs rfl); (case c2 => exact rfl); (case c3 => exact rfl); (case c4 => exact rfl); k_whole)
  intro g L' h₁ tk hg hL F' N' B' X' T'
  have hl' : g.IsList l vs.toArray := hl.at fun o e => hg l o e (by simp)
  clear B F KX T N hl
  (try dsimp only)
  (try k_fold)
  k_with "mine" => refine Stop.out ?_
  k_steps
  refine Stop.mk ?_
  rename Fr _ _ _ _ => F1
  refine For_invVF F1 rfl rfl ?_
  (try k_fold)
  k_steps
  refine Stop.mk ?_
  rename Fr _ _ _ _ => F1
  rename News _ _ _ _ => N1
  refine ord4_ok w mean mg mb _ _ _ _ _ _ _ _ _ _ _ _ _ _ _ _ _ _ ⟨by assumption, F1, by assumption, by assumption, rfl, by show dp + 1 + _ < recursionLimit; omega, by show un + 3 + 8 * _ < cLine; omega⟩ (by assumption) News.nil ?_
  intro vs9 r9 n9 h9 tk9 hk9 hv9 hr9 hn9
  have F2 := fr_back F1 hk9
  have N2 := news_add F1 N1 hk9 hr9 hn9
  have l9 := ne_of_new N1 hn9
  clear F1 N1
  (try dsimp only)
  (try k_unfold)
  (try dsimp only)
  (try k_fold)
  k_steps
  refine Stop.mk ?_
  clear hk9
  rename Fr _ _ _ _ => F3
  rename News _ _ _ _ => N3
  have hz9 := hv9.length
  refine loop_tuple (σ := List Value × Nat × Nat × Tok) (fun c => [(_, PySem.W.listOf c.1.toArray c.2.1)]) [_] (fun c => [(PySem.Str.ofString "rank", .int (c.2.2.1 : Int) c.2.2.2)]) [PySem.Str.ofString "place"] (fun i c => c.2.2.1 = i ∧ IntsAre c.1 (blkS 4 ns i)) rfl ⟨_, (N3 _ (List.Mem.head _)).1, rfl, _, rfl⟩ (N3 _ (List.Mem.head _)).2.1 (fun h => l9 _ (List.Mem.head _) (List.mem_singleton.mp h).symm) (fun _ => rfl) (_, 0, 0, _) F3 (led_sub1' N3) (fun p hp => (List.mem_singleton.mp hp) ▸ rfl) ⟨rfl, by exact ints_rep (x := 0) 16⟩ ?_ ?_
  · clear F3 N3 l9
    rintro i v ⟨fs, cap, rk, tr⟩ u h tk own hi9 hP ⟨rfl, hv⟩ hoff F3 N3
    dsimp only at hP hv hi9 F3 N3
    obtain ⟨p9, t9, rfl, hp9⟩ := hv9.at rk v (by simpa using hP)
    obtain ⟨hb1, hb2⟩ := zz4_b p9 (List.mem_of_getElem? hp9)
    have hl9 : (blkS 4 ns rk).length = 16 := blkS_len _ _ _
    have hi8 : rk < 16 := Nat.lt_of_lt_of_eq (by simpa using hi9 : rk < vs9.length) hz9
    simp only [List.cons_append, List.nil_append] at N3
    (try k_fold)
    k_steps
    refine Stop.mk ?_
    rename Fr _ _ _ _ => F4
    rename News _ _ _ _ => N4
    exact turn_end (fs.set p9.toNat (.int (ns.getD (rk : Int).toNat 0) _), cap, rk + 1, _) F4 N4 led_sub1 led_own1 rfl ⟨rfl, blk_step hv hp9⟩ (fun p hp => (List.mem_singleton.mp hp) ▸ rfl) (by (intro z h1 h2 h3; repeat' (first | with_reducible rfl | refine (if_neg h1).trans ?_ | refine (if_neg (h2 _ (List.Mem.head _))).trans ?_ | refine (if_neg (h2 _ (List.Mem.tail _ (List.Mem.head _)))).trans ?_ | refine (if_neg (ne_stored h3 (by rfl))).trans ?_ | refine (if_neg (sub_stored h3 (by rfl))).trans ?_)))
  · rintro ⟨fs, cap, rk, tr⟩ u h tk ⟨hrk, hv⟩ F3 N3
    dsimp only at hrk hv F3 N3
    (try k_fold)
    k_steps
    rename Fr _ _ _ _ => F4
    rename News _ _ _ _ => N4
    obtain ⟨k1, k2, k3⟩ := end_new hg F4 N4 (List.Mem.head _)
    exact ret fs _ _ _ _ k1 (by rw [List.size_toArray, hz9] at hv; exact hv) k2 k3
end Mine
namespace Mine
local macro_rules | `(tactic| cell_enter) => `(tactic| (refine' enter ?k1 ?k2 ?k3 ?k4 ?k5 ?kA ?kF ?kK ?k6 ?k7 ?k8 ?k9 ?kB ?_ ?c2 ?c3 ?c4 ?c5; (case kA => exact rfl); (case kF => exact rfl); (case kK => assumption); (case k1 => k_asm); (case k2 => k_asm); (case k3 => k_asm); (case k4 => k_asm); (case k5 => k_asm); (case k6 => k_is); (case k7 => k_is); (case k8 => ktr_room); (case k9 => exact BindsTo.of_eq rfl); (case c5 => decide); (case kB => exact locs rfl); (case c2 => exact rfl); (case c3 => exact rfl); (case c4 => exact rfl); k_whole))
local macro_rules | `(tactic| walk_at "call ref") => `(tactic| k_extra "mine")
local macro_rules | `(tactic| walk_at "InvEndN") => `(tactic| k_extra "mine")
local macro_rules | `(tactic| walk_at "exec For Name Call cons nil") => `(tactic| k_extra "mine")
local macro_rules | `(tactic| walk_at "exec For Name Name cons nil") => `(tactic| k_extra "mine")
local macro_rules | `(tactic| walk_at "pyIter ref") => `(tactic| ((with_reducible show wpAny _ _ (pyIter (Value.ref _)) (fun it s₂ => LoopAtV _ _ _ _ _ _ _ _ _ it s₂) _ _); k_extra "mine"))
local macro_rules | `(tactic| walk_at "compareOp In str ref") => `(tactic| (k_here; k_dflt (first | refine in_sw (by k_asm) (by k_asm) ?_ | refine in_mi (by k_asm) (by k_asm) ?_ | refine in_fl (by k_asm) (by k_asm) ?_)))
local macro_rules | `(tactic| walk_at "call builtin:list.append") => `(tactic| (k_here; (with_reducible show wpAny _ _ (call (Value.builtin _) [Value.ref _, _]) _ _ _); k_dflt (refine' append_K ?k1 ?k2 ?k3 ?_ ?z; (case k1 => k_asm); (case k2 => k_asm); (case k3 => (refine Upd.head ?_; exact OwnOff.ne (by assumption) (List.Mem.head _))); (case z => (rw [List.size_toArray, sizeLine_eq]; omega)); k_whole); intro h' F' N'; (try k_sweep)))
local macro_rules | `(tactic| walk_at "subscriptTail Name BinOp ref int") => `(tactic| (k_here; k_dflt (refine' ksa_sub ?k1 ?k2 ?k3 ?k4 ?k5 ?k6 ?_ ?k7; (case k1 => k_asm); (case k2 => k_mem); (case k3 => with_reducible assumption); (case k4 => omega); (case k5 => omega); (case k6 => omega); (case k7 => with_unfolding_all rfl); k_whole); intro _))
local macro_rules | `(tactic| walk_at "exec Assign") => `(tactic| k_extra "cut")
local macro_rules | `(tactic| walk_at "exec If") => `(tactic| k_extra "cut")
local macro_rules | `(tactic| walk_at "CutPost") => `(tactic| k_extra "mine")
def cellv1 (n : Int) (W : PySem.Str) (b : List Int) (d a : Nat) : Int := if sw W = true then b.getD ((0 + (a : Int) * 1) * n + (0 + (d : Int) * 1)).toNat 0 else b.getD ((0 + (d : Int) * 1) * n + (0 + (a : Int) * 1)).toNat 0
def negIf (b : Bool) (i x : Int) : Int := if b = true ∧ i.fmod 2 = 1 then -x else x
theorem negIf_p {b : Bool} {i x : Int} (h : b = true) (h2 : i.fmod 2 = 1) : -x = negIf b i x := (if_pos ⟨h, h2⟩).symm
theorem negIf_n {b : Bool} {i x : Int} (h : b = false) : x = negIf b i x := (if_neg fun q => by rw [h] at q; exact nomatch q.1).symm
theorem negIf_n' {b : Bool} {i x : Int} (h : ¬ b = true) : x = negIf b i x := (if_neg fun q => h q.1).symm
theorem negIf_m {b : Bool} {i x : Int} (h : i.fmod 2 ≠ 1) : x = negIf b i x := (if_neg fun q => h q.2).symm
def cellv (n : Int) (W : PySem.Str) (b : List Int) (d a : Nat) : Int := negIf (fl W) (0 + (d : Int) * 1) (negIf (mi W) (0 + (a : Int) * 1) (cellv1 n W b d a))
def growv (n : Int) (W : PySem.Str) (b : List Int) (d : Nat) : List Int := (List.range n.toNat).map (cellv n W b d)
def grid (n : Int) (W : PySem.Str) (b : List Int) : List Int := (List.range n.toNat).flatMap (growv n W b)
def turn (n : Int) (W : PySem.Str) (ns : List Int) : List Int := (zz n).map fun p => (grid n W (blk n ns)).getD p.toNat 0
set_option maxRecDepth 100000 in
set_option maxHeartbeats 8000000 in
theorem trow2_ok : ∀ (w : World) (mean : ExcName → Option Value) (mg mb : PySem.Str → Option Value)
  (dp un : Nat) (gd : Option (List Code)) (cn : PySem.Str) (cs : Scope) (a : Addr) (ccd : Value) (cl : List (PySem.Str × Addr)) (outer : List Env) (A₀ : Around) (base h₀ : Heap) (L : Addr) (m : PySem.Str → Option Value) (s : Shared) (Q E : Value → Shared → Prop)
  (l : Addr) (vs : List Value) (ns : List Int) (W : PySem.Str) (t1 t2 : Tok)
  (_ : Site w mean mg mb dp un cs outer A₀ base h₀ L m s 9) (_ : (Mine.KF w.params).In h₀) (_ : News h₀ L s.heap [])
  (_ : s.heap.IsList l vs.toArray) (_ : IntsAre vs ns) (_ : ns.length = 4)
  (_ : ∀ (vs : List Value) (r n : Nat) (h' : Heap) (tk' : Nat), (∀ b o, s.heap.get? b = some o → h'.get? b = some o) → IntsAre vs (turn 2 W ns) → h'.get? r = some (PySem.W.listOf vs.toArray n) → s.heap.get? r = none → Q (.ref r) { s with heap := h', toks := tk' }),
  wpAny (model PySem.Challenge.rw_nt0539_01.row.prog w) (ktrTop dp un gd cn cs L a ccd cl outer) (call (.ref 268) [.ref l, .str W t2, .int 2 t1]) Q E s := by
  k_fill
  rintro w mean mg mb dp un gd cn cs a ccd cl outer A₀ base h₀ L m s Q E l vs ns W t1 t2 ⟨B, F, KX, T, hk, hd, hu⟩ KX0 N hl hi hn ret
  clear KX0
  refine wpAny_call ?_
  k_dflt (refine' enter (binds := [(PySem.Str.ofString "row", .ref l), (PySem.Str.ofString "word", .str W t2), (PySem.Str.ofString "n", .int 2 t1)]) ?k1 ?k2 ?k3 ?k4 ?k5 ?kA ?kF ?kK ?k6 ?k7 ?k8 ?k9 ?kB ?_ ?c2 ?c3 ?c4 ?c5; (case kA => exact rfl); (case kF => exact rfl); (case kK => assumption); (case k1 => k_asm); (case k2 => k_asm); (case k3 => k_asm); (case k4 => k_asm); (case k5 => k_asm); (case k6 => k_is); (case k7 => k_is); (case k8 => ktr_room); (case k9 => exact BindsTo.of_eq (by kernel_rfl)); (case c5 => decide); (case kB => exact locs rfl); (case c2 => exact rfl); (case c3 => exact rfl); (case c4 => exact rfl); k_whole)
  intro g L' h₁ tk hg hL F' N' B' X' T'
  have hl' : g.IsList l vs.toArray := hl.at fun o e => hg l o e (by simp)
  clear B F KX T N hl
  (try dsimp only)
  (try k_fold)
  k_with "mine" => refine Stop.out ?_
  k_steps
  refine Stop.mk ?_
  rename Fr _ _ _ _ => F1
  rename News _ _ _ _ => N1
  refine blk2_ok w mean mg mb _ _ _ _ _ _ _ _ _ _ _ _ _ _ _ _ _ _ _ _ _ ⟨by assumption, F1, by assumption, by assumption, rfl, by show dp + 1 + _ < recursionLimit; omega, by show un + 3 + 8 * _ < cLine; omega⟩ (by assumption) News.nil ((hl'.at fun o e => F1.keep _ _ e)) (hi) (hn) ?_
  intro vs9 r9 n9 h9 tk9 hk9 hv9 hr9 hn9
  have F2 := fr_back F1 hk9
  have N2 := news_add F1 N1 hk9 hr9 hn9
  have l9 := ne_of_new N1 hn9
  clear F1 N1
  (try dsimp only)
  (try k_unfold)
  (try dsimp only)
  (try k_fold)
  k_steps
  refine Stop.mk ?_
  rename Fr _ _ _ _ => F1
  refine For_invVF F1 rfl rfl ?_
  (try k_fold)
  k_steps
  refine Stop.mk ?_
  rename IsRange _ _ _ _ _ _ _ _ => R2
  rename Fr _ _ _ _ => F2
  rename News _ _ _ _ => N2
  refine loop_range (σ := List Value × Nat) (n := 2) (fun c => [(_, PySem.W.listOf c.1.toArray c.2), (r9, PySem.W.listOf vs9.toArray n9)]) [_, _] (fun _ => []) [PySem.Str.ofString "down", PySem.Str.ofString "across", PySem.Str.ofString "value"] (fun i c => IntsAre c.1 ((List.range i).flatMap (growv 2 W (blk 2 ns))) ∧ c.1.length = 2 * i) rfl R2 rfl rfl (fun _ => rfl) ([], 0) F2 (fun p hp => N2 p (List.Mem.tail _ hp)) (fun _ h => nomatch h) ⟨.nil, rfl⟩ ?_ ?_
  · clear F2 N2 R2
    intro i t c u h tk own hi9 ⟨hv, hlen⟩ hoff F3 N3
    simp only [List.cons_append, List.nil_append] at N3
    (try k_fold)
    k_steps
    refine Stop.mk ?_
    rename Fr _ _ _ _ => F1
    refine For_invVF F1 rfl rfl ?_
    (try k_fold)
    k_steps
    refine Stop.mk ?_
    rename IsRange _ _ _ _ _ _ _ _ => R2
    rename Fr _ _ _ _ => F2
    rename News _ _ _ _ => N1
    refine loop_range (σ := List Value × Nat) (n := 2) (fun c => (_, PySem.W.listOf c.1.toArray c.2) :: (r9, PySem.W.listOf vs9.toArray n9) :: own) (_ :: r9 :: own.map (·.1)) (fun _ => []) [PySem.Str.ofString "across", PySem.Str.ofString "value"] (fun j c' => IntsAre c'.1 (((List.range i).flatMap (growv 2 W (blk 2 ns))) ++ (List.range j).map (cellv 2 W (blk 2 ns) i)) ∧ c'.1.length = 2 * i + j) rfl R2 rfl rfl (fun _ => rfl) c F2 N1 (fun _ h => nomatch h) ⟨by simpa using hv, hlen⟩ ?_ ?_
    · (try clear F1); (try clear F2); (try clear N1); (try clear R2)
      intro j t' c' u' h' tk' own2 hj ⟨hv', hlen'⟩ hoff2 F3 N3
      have hoff3 := off_cons (q := (r9, PySem.W.listOf vs9.toArray n9)) (Nat.ne_of_lt (by assumption)) (off_app hoff hoff2 (List.Mem.head _) (List.Mem.head _))
      simp only [List.cons_append] at N3
      have hbl : (blk 2 ns).length = 4 := blkS_len _ _ _
      (try k_fold)
      k_with "cut" => refine Stop.out ?_
      k_steps
      k_with_none
      k_with "mine" => refine Stop.out ?_
      refine Stop.mk ?_
      rename Fr _ _ _ _ => F1
      rename News _ _ _ _ => N1
      refine cut (x := PySem.Str.ofString "value") (P := fun v => v = cellv1 2 W (blk 2 ns) i j) F1 N1 ?_ ?_
      · k_steps
        all_goals (
          refine Stop.mk ?_
          rename Fr _ _ _ _ => F4
          rename News _ _ _ _ => N4
          exact CutPost.mk F4 N4 (by unfold cellv1; simp only [*, if_true, if_false, Bool.false_eq_true]))
      clear F1 N1
      intro h8 tk8 v8 t8 e8 F8 N8
      k_with "cut" => refine Stop.out ?_
      k_steps
      k_with_none
      k_with "mine" => refine Stop.out ?_
      refine Stop.mk ?_
      refine cut (x := PySem.Str.ofString "value") (P := fun v => v = negIf (mi W) (0 + (j : Int) * 1) v8) F8 N8 ?_ ?_
      · k_steps
        all_goals (
          refine Stop.mk ?_
          rename Fr _ _ _ _ => F4
          rename News _ _ _ _ => N4
          first | exact CutPost.mk F4 N4 (negIf_p (by assumption) (by assumption)) | exact CutPost.same F4 N4 (negIf_n (by assumption)) | exact CutPost.same F4 N4 (negIf_n' (by assumption)) | exact CutPost.same F4 N4 (negIf_m (by assumption)))
      clear F8 N8
      intro h7 tk7 v7 t7 e7 F8 N8
      k_with "cut" => refine Stop.out ?_
      k_steps
      k_with_none
      k_with "mine" => refine Stop.out ?_
      refine Stop.mk ?_
      refine cut (x := PySem.Str.ofString "value") (P := fun v => v = negIf (fl W) (0 + (i : Int) * 1) v7) F8 N8 ?_ ?_
      · k_steps
        all_goals (
          refine Stop.mk ?_
          rename Fr _ _ _ _ => F4
          rename News _ _ _ _ => N4
          first | exact CutPost.mk F4 N4 (negIf_p (by assumption) (by assumption)) | exact CutPost.same F4 N4 (negIf_n (by assumption)) | exact CutPost.same F4 N4 (negIf_n' (by assumption)) | exact CutPost.same F4 N4 (negIf_m (by assumption)))
      clear F8 N8
      intro h6 tk6 v6 t6 e6 F8 N8
      k_steps
      refine Stop.mk ?_
      rename Fr _ _ _ _ => F4
      rename News _ _ _ _ => N4
      simp only [List.push_toArray] at N4
      exact turn_end (c'.1 ++ [.int v6 _], _) F4 N4 (led_sub (own := (r9, _) :: own)) (led_own (own := (r9, _) :: own)) rfl ⟨ints_snoc' hv' (by rw [e6, e7, e8]; rfl), by simp only [List.length_append, List.length_cons, List.length_nil]; omega⟩ (fun _ h => nomatch h) (by (intro z h1 h2 h3; repeat' (first | with_reducible rfl | refine (if_neg h1).trans ?_ | refine (if_neg (h2 _ (List.Mem.head _))).trans ?_ | refine (if_neg (h2 _ (List.Mem.tail _ (List.Mem.head _)))).trans ?_ | refine (if_neg (ne_stored h3 (by rfl))).trans ?_ | refine (if_neg (sub_stored h3 (by rfl))).trans ?_)))
    · intro c' u' h' tk' ⟨hv', hlen'⟩ F3 N3
      (try k_fold)
      k_steps
      refine Stop.mk ?_
      rename Fr _ _ _ _ => F4
      rename News _ _ _ _ => N4
      exact turn_end c' F4 N4 led_sub2 led_own2 rfl ⟨flat_step hv' rfl, by omega⟩ (fun _ h => nomatch h) (by (intro z h1 h2 h3; repeat' (first | with_reducible rfl | refine (if_neg h1).trans ?_ | refine (if_neg (h2 _ (List.Mem.head _))).trans ?_ | refine (if_neg (h2 _ (List.Mem.tail _ (List.Mem.head _)))).trans ?_ | refine (if_neg (ne_stored h3 (by rfl))).trans ?_ | refine (if_neg (sub_stored h3 (by rfl))).trans ?_)))
  · intro c u h tk ⟨hv, hlen⟩ F3 N3
    (try k_fold)
    k_steps
    refine Stop.mk ?_
    rename Fr _ _ _ _ => F1
    rename News _ _ _ _ => N1
    refine row2_ok w mean mg mb _ _ _ _ _ _ _ _ _ _ _ _ _ _ _ _ _ _ _ _ _ ⟨by assumption, F1, by assumption, by assumption, rfl, by show dp + 1 + _ < recursionLimit; omega, by show un + 3 + 8 * _ < cLine; omega⟩ (by assumption) News.nil (⟨_, (N1 _ (List.Mem.head _)).1, rfl, _, rfl⟩) (hv) ((hv.length.symm.trans hlen)) ?_
    intro vs8 r8 n8 h8 tk8 hk8 hv8 hr8 hn8
    obtain ⟨k1, k2⟩ := end_pass hg F1 hk8 hn8
    exact ret vs8 r8 n8 h8 tk8 k1 hv8 hr8 k2
set_option maxRecDepth 100000 in
set_option maxHeartbeats 8000000 in
theorem trow4_ok : ∀ (w : World) (mean : ExcName → Option Value) (mg mb : PySem.Str → Option Value)
  (dp un : Nat) (gd : Option (List Code)) (cn : PySem.Str) (cs : Scope) (a : Addr) (ccd : Value) (cl : List (PySem.Str × Addr)) (outer : List Env) (A₀ : Around) (base h₀ : Heap) (L : Addr) (m : PySem.Str → Option Value) (s : Shared) (Q E : Value → Shared → Prop)
  (l : Addr) (vs : List Value) (ns : List Int) (W : PySem.Str) (t1 t2 : Tok)
  (_ : Site w mean mg mb dp un cs outer A₀ base h₀ L m s 9) (_ : (Mine.KF w.params).In h₀) (_ : News h₀ L s.heap [])
  (_ : s.heap.IsList l vs.toArray) (_ : IntsAre vs ns) (_ : ns.length = 16)
  (_ : ∀ (vs : List Value) (r n : Nat) (h' : Heap) (tk' : Nat), (∀ b o, s.heap.get? b = some o → h'.get? b = some o) → IntsAre vs (turn 4 W ns) → h'.get? r = some (PySem.W.listOf vs.toArray n) → s.heap.get? r = none → Q (.ref r) { s with heap := h', toks := tk' }),
  wpAny (model PySem.Challenge.rw_nt0539_01.row.prog w) (ktrTop dp un gd cn cs L a ccd cl outer) (call (.ref 268) [.ref l, .str W t2, .int 4 t1]) Q E s := by
  k_fill
  rintro w mean mg mb dp un gd cn cs a ccd cl outer A₀ base h₀ L m s Q E l vs ns W t1 t2 ⟨B, F, KX, T, hk, hd, hu⟩ KX0 N hl hi hn ret
  clear KX0
  refine wpAny_call ?_
  k_dflt (refine' enter (binds := [(PySem.Str.ofString "row", .ref l), (PySem.Str.ofString "word", .str W t2), (PySem.Str.ofString "n", .int 4 t1)]) ?k1 ?k2 ?k3 ?k4 ?k5 ?kA ?kF ?kK ?k6 ?k7 ?k8 ?k9 ?kB ?_ ?c2 ?c3 ?c4 ?c5; (case kA => exact rfl); (case kF => exact rfl); (case kK => assumption); (case k1 => k_asm); (case k2 => k_asm); (case k3 => k_asm); (case k4 => k_asm); (case k5 => k_asm); (case k6 => k_is); (case k7 => k_is); (case k8 => ktr_room); (case k9 => exact BindsTo.of_eq (by kernel_rfl)); (case c5 => decide); (case kB => exact locs rfl); (case c2 => exact rfl); (case c3 => exact rfl); (case c4 => exact rfl); k_whole)
  intro g L' h₁ tk hg hL F' N' B' X' T'
  have hl' : g.IsList l vs.toArray := hl.at fun o e => hg l o e (by simp)
  clear B F KX T N hl
  (try dsimp only)
  (try k_fold)
  k_with "mine" => refine Stop.out ?_
  k_steps
  refine Stop.mk ?_
  rename Fr _ _ _ _ => F1
  rename News _ _ _ _ => N1
  refine blk4_ok w mean mg mb _ _ _ _ _ _ _ _ _ _ _ _ _ _ _ _ _ _ _ _ _ ⟨by assumption, F1, by assumption, by assumption, rfl, by show dp + 1 + _ < recursionLimit; omega, by show un + 3 + 8 * _ < cLine; omega⟩ (by assumption) News.nil ((hl'.at fun o e => F1.keep _ _ e)) (hi) (hn) ?_
  intro vs9 r9 n9 h9 tk9 hk9 hv9 hr9 hn9
  have F2 := fr_back F1 hk9
  have N2 := news_add F1 N1 hk9 hr9 hn9
  have l9 := ne_of_new N1 hn9
  clear F1 N1
  (try dsimp only)
  (try k_unfold)
  (try dsimp only)
  (try k_fold)
  k_steps
  refine Stop.mk ?_
  rename Fr _ _ _ _ => F1
  refine For_invVF F1 rfl rfl ?_
  (try k_fold)
  k_steps
  refine Stop.mk ?_
  rename IsRange _ _ _ _ _ _ _ _ => R2
  rename Fr _ _ _ _ => F2
  rename News _ _ _ _ => N2
  refine loop_range (σ := List Value × Nat) (n := 4) (fun c => [(_, PySem.W.listOf c.1.toArray c.2), (r9, PySem.W.listOf vs9.toArray n9)]) [_, _] (fun _ => []) [PySem.Str.ofString "down", PySem.Str.ofString "across", PySem.Str.ofString "value"] (fun i c => IntsAre c.1 ((List.range i).flatMap (growv 4 W (blk 4 ns))) ∧ c.1.length = 4 * i) rfl R2 rfl rfl (fun _ => rfl) ([], 0) F2 (fun p hp => N2 p (List.Mem.tail _ hp)) (fun _ h => nomatch h) ⟨.nil, rfl⟩ ?_ ?_
  · clear F2 N2 R2
    intro i t c u h tk own hi9 ⟨hv, hlen⟩ hoff F3 N3
    simp only [List.cons_append, List.nil_append] at N3
    (try k_fold)
    k_steps
    refine Stop.mk ?_
    rename Fr _ _ _ _ => F1
    refine For_invVF F1 rfl rfl ?_
    (try k_fold)
    k_steps
    refine Stop.mk ?_
    rename IsRange _ _ _ _ _ _ _ _ => R2
    rename Fr _ _ _ _ => F2
    rename News _ _ _ _ => N1
    refine loop_range (σ := List Value × Nat) (n := 4) (fun c => (_, PySem.W.listOf c.1.toArray c.2) :: (r9, PySem.W.listOf vs9.toArray n9) :: own) (_ :: r9 :: own.map (·.1)) (fun _ => []) [PySem.Str.ofString "across", PySem.Str.ofString "value"] (fun j c' => IntsAre c'.1 (((List.range i).flatMap (growv 4 W (blk 4 ns))) ++ (List.range j).map (cellv 4 W (blk 4 ns) i)) ∧ c'.1.length = 4 * i + j) rfl R2 rfl rfl (fun _ => rfl) c F2 N1 (fun _ h => nomatch h) ⟨by simpa using hv, hlen⟩ ?_ ?_
    · (try clear F1); (try clear F2); (try clear N1); (try clear R2)
      intro j t' c' u' h' tk' own2 hj ⟨hv', hlen'⟩ hoff2 F3 N3
      have hoff3 := off_cons (q := (r9, PySem.W.listOf vs9.toArray n9)) (Nat.ne_of_lt (by assumption)) (off_app hoff hoff2 (List.Mem.head _) (List.Mem.head _))
      simp only [List.cons_append] at N3
      have hbl : (blk 4 ns).length = 16 := blkS_len _ _ _
      (try k_fold)
      k_with "cut" => refine Stop.out ?_
      k_steps
      k_with_none
      k_with "mine" => refine Stop.out ?_
      refine Stop.mk ?_
      rename Fr _ _ _ _ => F1
      rename News _ _ _ _ => N1
      refine cut (x := PySem.Str.ofString "value") (P := fun v => v = cellv1 4 W (blk 4 ns) i j) F1 N1 ?_ ?_
      · k_steps
        all_goals (
          refine Stop.mk ?_
          rename Fr _ _ _ _ => F4
          rename News _ _ _ _ => N4
          exact CutPost.mk F4 N4 (by unfold cellv1; simp only [*, if_true, if_false, Bool.false_eq_true]))
      clear F1 N1
      intro h8 tk8 v8 t8 e8 F8 N8
      k_with "cut" => refine Stop.out ?_
      k_steps
      k_with_none
      k_with "mine" => refine Stop.out ?_
      refine Stop.mk ?_
      refine cut (x := PySem.Str.ofString "value") (P := fun v => v = negIf (mi W) (0 + (j : Int) * 1) v8) F8 N8 ?_ ?_
      · k_steps
        all_goals (
          refine Stop.mk ?_
          rename Fr _ _ _ _ => F4
          rename News _ _ _ _ => N4
          first | exact CutPost.mk F4 N4 (negIf_p (by assumption) (by assumption)) | exact CutPost.same F4 N4 (negIf_n (by assumption)) | exact CutPost.same F4 N4 (negIf_n' (by assumption)) | exact CutPost.same F4 N4 (negIf_m (by assumption)))
      clear F8 N8
      intro h7 tk7 v7 t7 e7 F8 N8
      k_with "cut" => refine Stop.out ?_
      k_steps
      k_with_none
      k_with "mine" => refine Stop.out ?_
      refine Stop.mk ?_
      refine cut (x := PySem.Str.ofString "value") (P := fun v => v = negIf (fl W) (0 + (i : Int) * 1) v7) F8 N8 ?_ ?_
      · k_steps
        all_goals (
          refine Stop.mk ?_
          rename Fr _ _ _ _ => F4
          rename News _ _ _ _ => N4
          first | exact CutPost.mk F4 N4 (negIf_p (by assumption) (by assumption)) | exact CutPost.same F4 N4 (negIf_n (by assumption)) | exact CutPost.same F4 N4 (negIf_n' (by assumption)) | exact CutPost.same F4 N4 (negIf_m (by assumption)))
      clear F8 N8
      intro h6 tk6 v6 t6 e6 F8 N8
      k_steps
      refine Stop.mk ?_
      rename Fr _ _ _ _ => F4
      rename News _ _ _ _ => N4
      simp only [List.push_toArray] at N4
      exact turn_end (c'.1 ++ [.int v6 _], _) F4 N4 (led_sub (own := (r9, _) :: own)) (led_own (own := (r9, _) :: own)) rfl ⟨ints_snoc' hv' (by rw [e6, e7, e8]; rfl), by simp only [List.length_append, List.length_cons, List.length_nil]; omega⟩ (fun _ h => nomatch h) (by (intro z h1 h2 h3; repeat' (first | with_reducible rfl | refine (if_neg h1).trans ?_ | refine (if_neg (h2 _ (List.Mem.head _))).trans ?_ | refine (if_neg (h2 _ (List.Mem.tail _ (List.Mem.head _)))).trans ?_ | refine (if_neg (ne_stored h3 (by rfl))).trans ?_ | refine (if_neg (sub_stored h3 (by rfl))).trans ?_)))
    · intro c' u' h' tk' ⟨hv', hlen'⟩ F3 N3
      (try k_fold)
      k_steps
      refine Stop.mk ?_
      rename Fr _ _ _ _ => F4
      rename News _ _ _ _ => N4
      exact turn_end c' F4 N4 led_sub2 led_own2 rfl ⟨flat_step hv' rfl, by omega⟩ (fun _ h => nomatch h) (by (intro z h1 h2 h3; repeat' (first | with_reducible rfl | refine (if_neg h1).trans ?_ | refine (if_neg (h2 _ (List.Mem.head _))).trans ?_ | refine (if_neg (h2 _ (List.Mem.tail _ (List.Mem.head _)))).trans ?_ | refine (if_neg (ne_stored h3 (by rfl))).trans ?_ | refine (if_neg (sub_stored h3 (by rfl))).trans ?_)))
  · intro c u h tk ⟨hv, hlen⟩ F3 N3
    (try k_fold)
    k_steps
    refine Stop.mk ?_
    rename Fr _ _ _ _ => F1
    rename News _ _ _ _ => N1
    refine row4_ok w mean mg mb _ _ _ _ _ _ _ _ _ _ _ _ _ _ _ _ _ _ _ _ _ ⟨by assumption, F1, by assumption, by assumption, rfl, by show dp + 1 + _ < recursionLimit; omega, by show un + 3 + 8 * _ < cLine; omega⟩ (by assumption) News.nil (⟨_, (N1 _ (List.Mem.head _)).1, rfl, _, rfl⟩) (hv) ((hv.length.symm.trans hlen)) ?_
    intro vs8 r8 n8 h8 tk8 hk8 hv8 hr8 hn8
    obtain ⟨k1, k2⟩ := end_pass hg F1 hk8 hn8
    exact ret vs8 r8 n8 h8 tk8 k1 hv8 hr8 k2
end Mine
namespace Mine
local macro_rules | `(tactic| cell_enter) => `(tactic| (refine' enter ?k1 ?k2 ?k3 ?k4 ?k5 ?kA ?kF ?kK ?k6 ?k7 ?k8 ?k9 ?kB ?_ ?c2 ?c3 ?c4 ?c5; (case kA => exact rfl); (case kF => exact rfl); (case kK => assumption); (case k1 => k_asm); (case k2 => k_asm); (case k3 => k_asm); (case k4 => k_asm); (case k5 => k_asm); (case k6 => k_is); (case k7 => k_is); (case k8 => ktr_room); (case k9 => exact BindsTo.of_eq rfl); (case c5 => decide); (case kB => exact locs rfl); (case c2 => exact rfl); (case c3 => exact rfl); (case c4 => exact rfl); k_whole))
local macro_rules | `(tactic| walk_at "call ref") => `(tactic| k_extra "mine")
local macro_rules | `(tactic| walk_at "compareOp In str ref") => `(tactic| (k_here; k_dflt (first | refine in_sw (by k_asm) (by k_asm) ?_ | refine in_mi (by k_asm) (by k_asm) ?_ | refine in_fl (by k_asm) (by k_asm) ?_)))
theorem turn_len2 (W : PySem.Str) (ns : List Int) : (turn 2 W ns).length = 4 := by unfold turn; rw [List.length_map]; decide
theorem turn_len4 (W : PySem.Str) (ns : List Int) : (turn 4 W ns).length = 16 := by unfold turn; rw [List.length_map]; decide
set_option maxRecDepth 100000 in
set_option maxHeartbeats 8000000 in
theorem div2_ok : ∀ (w : World) (mean : ExcName → Option Value) (mg mb : PySem.Str → Option Value)
  (dp un : Nat) (gd : Option (List Code)) (cn : PySem.Str) (cs : Scope) (a : Addr) (ccd : Value) (cl : List (PySem.Str × Addr)) (outer : List Env) (A₀ : Around) (base h₀ : Heap) (L : Addr) (m : PySem.Str → Option Value) (s : Shared) (Q E : Value → Shared → Prop)
  (l : Addr) (vs : List Value) (ns : List Int) (W : PySem.Str) (t1 t2 : Tok)
  (_ : Site w mean mg mb dp un cs outer A₀ base h₀ L m s 11) (_ : (Mine.KF w.params).In h₀) (_ : News h₀ L s.heap [])
  (_ : IsTup s.heap l vs.toArray) (_ : IntsAre vs ns) (_ : ns.length = 4)
  (_ : ∀ (vs2 : List Value) (r n : Nat) (h' : Heap) (tk' : Nat), (∀ b o, s.heap.get? b = some o → h'.get? b = some o) → IntsAre vs2 (if sw W = true then turn 2 (PySem.Str.ofString "swap") ns else ns) → ((h'.get? r = some (tupOf vs2.toArray n) ∧ s.heap.get? r = none) ∨ (r = l ∧ vs2 = vs)) → Q (.ref r) { s with heap := h', toks := tk' }),
  wpAny (model PySem.Challenge.rw_nt0539_01.row.prog w) (ktrTop dp un gd cn cs L a ccd cl outer) (call (.ref 275) [.ref l, .str W t2, .int 2 t1]) Q E s := by
  k_fill
  rintro w mean mg mb dp un gd cn cs a ccd cl outer A₀ base h₀ L m s Q E l vs ns W t1 t2 ⟨B, F, KX, T, hk, hd, hu⟩ KX0 N hl hi hn ret
  clear KX0
  refine wpAny_call ?_
  k_dflt (refine' enter (binds := [(PySem.Str.ofString "qtable", .ref l), (PySem.Str.ofString "word", .str W t2), (PySem.Str.ofString "n", .int 2 t1)]) ?k1 ?k2 ?k3 ?k4 ?k5 ?kA ?kF ?kK ?k6 ?k7 ?k8 ?k9 ?kB ?_ ?c2 ?c3 ?c4 ?c5; (case kA => exact rfl); (case kF => exact rfl); (case kK => assumption); (case k1 => k_asm); (case k2 => k_asm); (case k3 => k_asm); (case k4 => k_asm); (case k5 => k_asm); (case k6 => k_is); (case k7 => k_is); (case k8 => ktr_room); (case k9 => exact BindsTo.of_eq (by kernel_rfl)); (case c5 => decide); (case kB => exact locs rfl); (case c2 => exact rfl); (case c3 => exact rfl); (case c4 => exact rfl); k_whole)
  intro g L' h₁ tk hg hL F' N' B' X' T'
  have hl' : IsTup g l vs.toArray := let ⟨o, e, q⟩ := hl; ⟨o, hg l o e (by simp), q⟩
  have hz := hi.length
  clear B F KX T N hl
  (try dsimp only)
  (try k_fold)
  k_with "mine" => refine Stop.out ?_
  k_steps
  · skip
    refine Stop.mk ?_
    rename Fr _ _ _ _ => F1
    rename News _ _ _ _ => N1
    refine trow2_ok w mean mg mb _ _ _ _ _ _ _ _ _ _ _ _ _ _ _ _ _ _ _ _ _ _ _ ⟨by assumption, F1, by assumption, by assumption, rfl, by show dp + 1 + _ < recursionLimit; omega, by show un + 3 + 8 * _ < cLine; omega⟩ (by assumption) News.nil (⟨_, (N1 _ (List.Mem.head _)).1, rfl, _, rfl⟩) (hi) (hn) ?_
    intro vs9 r9 n9 h9 tk9 hk9 hv9 hr9 hn9
    have F2 := fr_back F1 hk9
    have N2 := news_add F1 N1 hk9 hr9 hn9
    have l9 := ne_of_new N1 hn9
    clear F1 N1
    have hz9 : vs9.length = 4 := hv9.length.trans (turn_len2 _ _)
    (try dsimp only)
    (try k_unfold)
    (try dsimp only)
    (try k_fold)
    k_steps
    rename Fr _ _ _ _ => F4
    rename News _ _ _ _ => N4
    obtain ⟨k1, k2, k3⟩ := end_new hg F4 N4 (List.Mem.head _)
    exact ret vs9 _ _ _ _ k1 (by rw [if_pos (by assumption)]; exact hv9) (.inl ⟨k2, k3⟩)
  · rename Fr _ _ _ _ => F4
    exact ret vs l 0 _ _ (fun b o e => F4.keep _ _ (hg b o e (by simp))) (by rw [if_neg (by simp_all)]; exact hi) (.inr ⟨rfl, rfl⟩)
set_option maxRecDepth 100000 in
set_option maxHeartbeats 8000000 in
theorem div4_ok : ∀ (w : World) (mean : ExcName → Option Value) (mg mb : PySem.Str → Option Value)
  (dp un : Nat) (gd : Option (List Code)) (cn : PySem.Str) (cs : Scope) (a : Addr) (ccd : Value) (cl : List (PySem.Str × Addr)) (outer : List Env) (A₀ : Around) (base h₀ : Heap) (L : Addr) (m : PySem.Str → Option Value) (s : Shared) (Q E : Value → Shared → Prop)
  (l : Addr) (vs : List Value) (ns : List Int) (W : PySem.Str) (t1 t2 : Tok)
  (_ : Site w mean mg mb dp un cs outer A₀ base h₀ L m s 11) (_ : (Mine.KF w.params).In h₀) (_ : News h₀ L s.heap [])
  (_ : IsTup s.heap l vs.toArray) (_ : IntsAre vs ns) (_ : ns.length = 16)
  (_ : ∀ (vs2 : List Value) (r n : Nat) (h' : Heap) (tk' : Nat), (∀ b o, s.heap.get? b = some o → h'.get? b = some o) → IntsAre vs2 (if sw W = true then turn 4 (PySem.Str.ofString "swap") ns else ns) → ((h'.get? r = some (tupOf vs2.toArray n) ∧ s.heap.get? r = none) ∨ (r = l ∧ vs2 = vs)) → Q (.ref r) { s with heap := h', toks := tk' }),
  wpAny (model PySem.Challenge.rw_nt0539_01.row.prog w) (ktrTop dp un gd cn cs L a ccd cl outer) (call (.ref 275) [.ref l, .str W t2, .int 4 t1]) Q E s := by
  k_fill
  rintro w mean mg mb dp un gd cn cs a ccd cl outer A₀ base h₀ L m s Q E l vs ns W t1 t2 ⟨B, F, KX, T, hk, hd, hu⟩ KX0 N hl hi hn ret
  clear KX0
  refine wpAny_call ?_
  k_dflt (refine' enter (binds := [(PySem.Str.ofString "qtable", .ref l), (PySem.Str.ofString "word", .str W t2), (PySem.Str.ofString "n", .int 4 t1)]) ?k1 ?k2 ?k3 ?k4 ?k5 ?kA ?kF ?kK ?k6 ?k7 ?k8 ?k9 ?kB ?_ ?c2 ?c3 ?c4 ?c5; (case kA => exact rfl); (case kF => exact rfl); (case kK => assumption); (case k1 => k_asm); (case k2 => k_asm); (case k3 => k_asm); (case k4 => k_asm); (case k5 => k_asm); (case k6 => k_is); (case k7 => k_is); (case k8 => ktr_room); (case k9 => exact BindsTo.of_eq (by kernel_rfl)); (case c5 => decide); (case kB => exact locs rfl); (case c2 => exact rfl); (case c3 => exact rfl); (case c4 => exact rfl); k_whole)
  intro g L' h₁ tk hg hL F' N' B' X' T'
  have hl' : IsTup g l vs.toArray := let ⟨o, e, q⟩ := hl; ⟨o, hg l o e (by simp), q⟩
  have hz := hi.length
  clear B F KX T N hl
  (try dsimp only)
  (try k_fold)
  k_with "mine" => refine Stop.out ?_
  k_steps
  · skip
    refine Stop.mk ?_
    rename Fr _ _ _ _ => F1
    rename News _ _ _ _ => N1
    refine trow4_ok w mean mg mb _ _ _ _ _ _ _ _ _ _ _ _ _ _ _ _ _ _ _ _ _ _ _ ⟨by assumption, F1, by assumption, by assumption, rfl, by show dp + 1 + _ < recursionLimit; omega, by show un + 3 + 8 * _ < cLine; omega⟩ (by assumption) News.nil (⟨_, (N1 _ (List.Mem.head _)).1, rfl, _, rfl⟩) (hi) (hn) ?_
    intro vs9 r9 n9 h9 tk9 hk9 hv9 hr9 hn9
    have F2 := fr_back F1 hk9
    have N2 := news_add F1 N1 hk9 hr9 hn9
    have l9 := ne_of_new N1 hn9
    clear F1 N1
    have hz9 : vs9.length = 16 := hv9.length.trans (turn_len4 _ _)
    (try dsimp only)
    (try k_unfold)
    (try dsimp only)
    (try k_fold)
    k_steps
    rename Fr _ _ _ _ => F4
    rename News _ _ _ _ => N4
    obtain ⟨k1, k2, k3⟩ := end_new hg F4 N4 (List.Mem.head _)
    exact ret vs9 _ _ _ _ k1 (by rw [if_pos (by assumption)]; exact hv9) (.inl ⟨k2, k3⟩)
  · rename Fr _ _ _ _ => F4
    exact ret vs l 0 _ _ (fun b o e => F4.keep _ _ (hg b o e (by simp))) (by rw [if_neg (by simp_all)]; exact hi) (.inr ⟨rfl, rfl⟩)
end Mine
namespace Mine
local macro_rules | `(tactic| cell_enter) => `(tactic| (refine' enter ?k1 ?k2 ?k3 ?k4 ?k5 ?kA ?kF ?kK ?k6 ?k7 ?k8 ?k9 ?kB ?_ ?c2 ?c3 ?c4 ?c5; (case kA => exact rfl); (case kF => exact rfl); (case kK => assumption); (case k1 => k_asm); (case k2 => k_asm); (case k3 => k_asm); (case k4 => k_asm); (case k5 => k_asm); (case k6 => k_is); (case k7 => k_is); (case k8 => ktr_room); (case k9 => exact BindsTo.of_eq rfl); (case c5 => decide); (case kB => exact locs rfl); (case c2 => exact rfl); (case c3 => exact rfl); (case c4 => exact rfl); k_whole))
local macro_rules | `(tactic| walk_at "call ref") => `(tactic| k_extra "mine")
local macro_rules | `(tactic| walk_at "InvEndN") => `(tactic| k_extra "mine")
local macro_rules | `(tactic| walk_at "exec For Name Call cons nil") => `(tactic| k_extra "mine")
local macro_rules | `(tactic| walk_at "exec For Name Name cons nil") => `(tactic| k_extra "mine")
local macro_rules | `(tactic| walk_at "pyIter ref") => `(tactic| ((with_reducible show wpAny _ _ (pyIter (Value.ref _)) (fun it s₂ => LoopAtV _ _ _ _ _ _ _ _ _ it s₂) _ _); k_extra "mine"))
local macro_rules | `(tactic| walk_at "setItem ref int") => `(tactic| (k_here; k_dflt (refine' ksa_set ?k1 ?k2 ?k3 ?k4 ?k5 ?k6 ?k7 ?_; (case k1 => k_asm); (case k2 => k_asm); (case k3 => (refine Upd.head ?_; exact OwnOff.ne (by assumption) (List.Mem.head _))); (case k4 => with_reducible assumption); (case k5 => omega); (case k6 => omega); (case k7 => omega); k_whole); intro h' F' N' hi' hl' hs'; (try k_sweep)))
def ltuX (n : Int) (W : PySem.Str) (ns : List Int) (y : Nat) (f : List Int) (x : Nat) : List Int :=
  f.set ((led (0 + (x : Int) * 1) (0 + (y : Int) * 1) n n W).2 * n + (led (0 + (x : Int) * 1) (0 + (y : Int) * 1) n n W).1).toNat (ns.getD ((0 + (y : Int) * 1) * n + (0 + (x : Int) * 1)).toNat 0)
def ltuS (n : Int) (W : PySem.Str) (ns : List Int) (i : Nat) : List Int := (List.range i).foldl (fun f y => (List.range n.toNat).foldl (ltuX n W ns y) f) (List.replicate (n * n).toNat 0)
def ltu (n : Int) (W : PySem.Str) (ns : List Int) : List Int := ltuS n W ns n.toNat
theorem ltuX_len (n : Int) (W : PySem.Str) (ns : List Int) (y : Nat) (f : List Int) (j : Nat) : ((List.range j).foldl (ltuX n W ns y) f).length = f.length := by
  induction j with
  | zero => rfl
  | succ j ih => rw [List.range_succ, List.foldl_append]; simpa [ltuX] using ih
theorem ltuS_len (n : Int) (W : PySem.Str) (ns : List Int) (i : Nat) : (ltuS n W ns i).length = (n * n).toNat := by
  unfold ltuS
  induction i with
  | zero => simp
  | succ i ih => rw [List.range_succ, List.foldl_append]; simp only [List.foldl_cons, List.foldl_nil]; rw [ltuX_len]; exact ih
theorem ltuS_succ (n : Int) (W : PySem.Str) (ns : List Int) (i : Nat) : ltuS n W ns (i + 1) = (List.range n.toNat).foldl (ltuX n W ns i) (ltuS n W ns i) := by
  unfold ltuS; rw [List.range_succ, List.foldl_append]; rfl
theorem ltu_step {n v1 v2 : Int} {W : PySem.Str} {ns f : List Int} {i j : Nat} {fs : List Value} {t : Tok} (h : IntsAre fs ((List.range j).foldl (ltuX n W ns i) f)) (e : (v1, v2) = led (0 + (j : Int) * 1) (0 + (i : Int) * 1) n n W) :
    IntsAre (fs.set (v2 * n + v1).toNat (.int (ns.getD ((0 + (i : Int) * 1) * n + (0 + (j : Int) * 1)).toNat 0) t)) ((List.range (j + 1)).foldl (ltuX n W ns i) f) := by
  rw [List.range_succ, List.foldl_append]
  show IntsAre _ (ltuX n W ns i _ j)
  unfold ltuX
  rw [← e]
  exact ints_set h _
theorem led_b {x y n v1 v2 : Int} {W : PySem.Str} (h0 : 0 ≤ x) (h1 : x < n) (h2 : 0 ≤ y) (h3 : y < n) (e : (v1, v2) = led x y n n W) : 0 ≤ v1 ∧ v1 < n ∧ 0 ≤ v2 ∧ v2 < n := by
  unfold led at e
  repeat' split at e
  all_goals (cases e; omega)
set_option maxRecDepth 100000 in
set_option maxHeartbeats 8000000 in
theorem ltu2_ok : ∀ (w : World) (mean : ExcName → Option Value) (mg mb : PySem.Str → Option Value)
  (dp un : Nat) (gd : Option (List Code)) (cn : PySem.Str) (cs : Scope) (a : Addr) (ccd : Value) (cl : List (PySem.Str × Addr)) (outer : List Env) (A₀ : Around) (base h₀ : Heap) (L : Addr) (m : PySem.Str → Option Value) (s : Shared) (Q E : Value → Shared → Prop)
  (l : Addr) (vs : List Value) (ns : List Int) (W : PySem.Str) (t1 t2 : Tok)
  (_ : Site w mean mg mb dp un cs outer A₀ base h₀ L m s 6) (_ : (Mine.KF w.params).In h₀) (_ : News h₀ L s.heap [])
  (_ : s.heap.IsList l vs.toArray) (_ : IntsAre vs ns) (_ : ns.length = 4)
  (_ : ∀ (vs : List Value) (r n : Nat) (h' : Heap) (tk' : Nat), (∀ b o, s.heap.get? b = some o → h'.get? b = some o) → IntsAre vs (ltu 2 W ns) → h'.get? r = some (PySem.W.listOf vs.toArray n) → s.heap.get? r = none → Q (.ref r) { s with heap := h', toks := tk' }),
  wpAny (model PySem.Challenge.rw_nt0539_01.row.prog w) (ktrTop dp un gd cn cs L a ccd cl outer) (call (.ref 324) [.ref l, .str W t2, .int 2 t1]) Q E s := by
  k_fill
  rintro w mean mg mb dp un gd cn cs a ccd cl outer A₀ base h₀ L m s Q E l vs ns W t1 t2 ⟨B, F, KX, T, hk, hd, hu⟩ KX0 N hl hi hn ret
  clear KX0
  refine wpAny_call ?_
  k_dflt (refine' enter (binds := [(PySem.Str.ofString "samples", .ref l), (PySem.Str.ofString "wish", .str W t2), (PySem.Str.ofString "n", .int 2 t1)]) ?k1 ?k2 ?k3 ?k4 ?k5 ?kA ?kF ?kK ?k6 ?k7 ?k8 ?k9 ?kB ?_ ?c2 ?c3 ?c4 ?c5; (case kA => exact rfl); (case kF => exact rfl); (case kK => assumption); (case k1 => k_asm); (case k2 => k_asm); (case k3 => k_asm); (case k4 => k_asm); (case k5 => k_asm); (case k6 => k_is); (case k7 => k_is); (case k8 => ktr_room); (case k9 => exact BindsTo.of_eq (by kernel_rfl)); (case c5 => decide); (case kB => exact locs rfl); (case c2 => exact rfl); (case c3 => exact rfl); (case c4 => exact rfl); k_whole)
  intro g L' h₁ tk hg hL F' N' B' X' T'
  have hl' : g.IsList l vs.toArray := hl.at fun o e => hg l o e (by simp)
  clear B F KX T N hl
  (try dsimp only)
  (try k_fold)
  k_with "mine" => refine Stop.out ?_
  k_steps
  refine Stop.mk ?_
  rename Fr _ _ _ _ => F1
  refine For_invVF F1 rfl rfl ?_
  (try k_fold)
  k_steps
  refine Stop.mk ?_
  rename IsRange _ _ _ _ _ _ _ _ => R2
  rename Fr _ _ _ _ => F2
  rename News _ _ _ _ => N2
  refine loop_range (σ := List Value × Nat) (n := 2) (fun c => [(_, PySem.W.listOf c.1.toArray c.2)]) [_] (fun _ => []) [PySem.Str.ofString "y", PySem.Str.ofString "x", PySem.Str.ofString "goal"] (fun i c => IntsAre c.1 (ltuS 2 W ns i)) rfl R2 rfl rfl (fun _ => rfl) (_, 0) F2 (fun p hp => N2 p ((List.mem_singleton.mp hp) ▸ List.Mem.head _)) (fun _ h => nomatch h) (by exact ints_rep (x := 0) 4) ?_ ?_
  · clear F2 N2 R2
    rintro i t ⟨fs, cap⟩ u h tk own hi9 hv hoff F3 N3
    dsimp only at hv F3 N3
    simp only [List.cons_append, List.nil_append] at N3
    (try k_fold)
    k_steps
    refine Stop.mk ?_
    rename Fr _ _ _ _ => F1
    refine For_invVF F1 rfl rfl ?_
    (try k_fold)
    k_steps
    refine Stop.mk ?_
    rename IsRange _ _ _ _ _ _ _ _ => R2
    rename Fr _ _ _ _ => F2
    rename News _ _ _ _ => N1
    refine loop_range (σ := List Value × Nat) (n := 2) (fun c => (_, PySem.W.listOf c.1.toArray c.2) :: own) (_ :: own.map (·.1)) (fun _ => []) [PySem.Str.ofString "x", PySem.Str.ofString "goal"] (fun j c' => IntsAre c'.1 ((List.range j).foldl (ltuX 2 W ns i) (ltuS 2 W ns i))) rfl R2 rfl rfl (fun _ => rfl) (fs, cap) F2 N1 (fun _ h => nomatch h) hv ?_ ?_
    · (try clear F1); (try clear F2); (try clear N1); (try clear R2)
      rintro j t' ⟨fs', cap'⟩ u' h' tk' own2 hj hv' hoff2 F3 N3
      dsimp only at hv' F3 N3
      have hoff3 := off_app hoff hoff2 (List.Mem.head _) (List.Mem.head _)
      simp only [List.cons_append] at N3
      (try k_fold)
      k_steps
      refine Stop.mk ?_
      rename Fr _ _ _ _ => F1
      rename News _ _ _ _ => N1
      refine led_ok w mean mg mb _ _ _ _ _ _ _ _ _ _ _ _ _ _ _ _ _ _ _ _ _ _ _ _ _ _ _ ⟨by assumption, F1, by assumption, by assumption, rfl, by show dp + 1 + _ < recursionLimit; omega, by show un + 3 + 8 * _ < cLine; omega⟩ (by assumption) News.nil ?_
      intro r9 n9 u1 u2 v1 v2 h9 tk9 hk9 he9 hr9 hn9
      have F2 := fr_back F1 hk9
      have N2 := news_add F1 N1 hk9 hr9 hn9
      have l9 := ne_of_new N1 hn9
      clear F1 N1
      have N3 := news_swap N2
      clear N2
      have hoff4 := off_cons (q := (r9, tupOf #[.int v1 u1, .int v2 u2] n9)) (Ne.symm (l9 _ (List.Mem.head _))) hoff3
      obtain ⟨hb1, hb2, hb3, hb4⟩ := led_b (by omega) (by omega) (by omega) (by omega) he9
      have hbl : ((List.range j).foldl (ltuX 2 W ns i) (ltuS 2 W ns i)).length = 4 := (ltuX_len _ _ _ _ _ _).trans (ltuS_len _ _ _ _)
      (try dsimp only)
      (try k_unfold)
      (try dsimp only)
      (try k_fold)
      k_steps
      refine Stop.mk ?_
      rename Fr _ _ _ _ => F4
      rename News _ _ _ _ => N4
      exact turn_end (fs'.set (v2 * 2 + v1).toNat (.int (ns.getD ((0 + (i : Int) * 1) * 2 + (0 + (j : Int) * 1)).toNat 0) _), cap') F4 N4 led_sub3 led_own3 rfl (ltu_step hv' he9) (fun _ h => nomatch h) (by (intro z h1 h2 h3; repeat' (first | with_reducible rfl | refine (if_neg h1).trans ?_ | refine (if_neg (h2 _ (List.Mem.head _))).trans ?_ | refine (if_neg (h2 _ (List.Mem.tail _ (List.Mem.head _)))).trans ?_ | refine (if_neg (ne_stored h3 (by rfl))).trans ?_ | refine (if_neg (sub_stored h3 (by rfl))).trans ?_)))
    · rintro ⟨fs', cap'⟩ u' h' tk' hv' F3 N3
      dsimp only at hv' F3 N3
      (try k_fold)
      k_steps
      refine Stop.mk ?_
      rename Fr _ _ _ _ => F4
      rename News _ _ _ _ => N4
      exact turn_end (fs', cap') F4 N4 led_sub1 led_own1 rfl (by rw [ltuS_succ]; exact hv') (fun _ h => nomatch h) (by (intro z h1 h2 h3; repeat' (first | with_reducible rfl | refine (if_neg h1).trans ?_ | refine (if_neg (h2 _ (List.Mem.head _))).trans ?_ | refine (if_neg (h2 _ (List.Mem.tail _ (List.Mem.head _)))).trans ?_ | refine (if_neg (ne_stored h3 (by rfl))).trans ?_ | refine (if_neg (sub_stored h3 (by rfl))).trans ?_)))
  · rintro ⟨fs, cap⟩ u h tk hv F3 N3
    dsimp only at hv F3 N3
    (try k_fold)
    k_steps
    rename Fr _ _ _ _ => F4
    rename News _ _ _ _ => N4
    obtain ⟨k1, k2, k3⟩ := end_new hg F4 N4 (List.Mem.head _)
    exact ret fs _ _ _ _ k1 hv k2 k3
set_option maxRecDepth 100000 in
set_option maxHeartbeats 8000000 in
theorem ltu4_ok : ∀ (w : World) (mean : ExcName → Option Value) (mg mb : PySem.Str → Option Value)
  (dp un : Nat) (gd : Option (List Code)) (cn : PySem.Str) (cs : Scope) (a : Addr) (ccd : Value) (cl : List (PySem.Str × Addr)) (outer : List Env) (A₀ : Around) (base h₀ : Heap) (L : Addr) (m : PySem.Str → Option Value) (s : Shared) (Q E : Value → Shared → Prop)
  (l : Addr) (vs : List Value) (ns : List Int) (W : PySem.Str) (t1 t2 : Tok)
  (_ : Site w mean mg mb dp un cs outer A₀ base h₀ L m s 6) (_ : (Mine.KF w.params).In h₀) (_ : News h₀ L s.heap [])
  (_ : s.heap.IsList l vs.toArray) (_ : IntsAre vs ns) (_ : ns.length = 16)
  (_ : ∀ (vs : List Value) (r n : Nat) (h' : Heap) (tk' : Nat), (∀ b o, s.heap.get? b = some o → h'.get? b = some o) → IntsAre vs (ltu 4 W ns) → h'.get? r = some (PySem.W.listOf vs.toArray n) → s.heap.get? r = none → Q (.ref r) { s with heap := h', toks := tk' }),
  wpAny (model PySem.Challenge.rw_nt0539_01.row.prog w) (ktrTop dp un gd cn cs L a ccd cl outer) (call (.ref 324) [.ref l, .str W t2, .int 4 t1]) Q E s := by
  k_fill
  rintro w mean mg mb dp un gd cn cs a ccd cl outer A₀ base h₀ L m s Q E l vs ns W t1 t2 ⟨B, F, KX, T, hk, hd, hu⟩ KX0 N hl hi hn ret
  clear KX0
  refine wpAny_call ?_
  k_dflt (refine' enter (binds := [(PySem.Str.ofString "samples", .ref l), (PySem.Str.ofString "wish", .str W t2), (PySem.Str.ofString "n", .int 4 t1)]) ?k1 ?k2 ?k3 ?k4 ?k5 ?kA ?kF ?kK ?k6 ?k7 ?k8 ?k9 ?kB ?_ ?c2 ?c3 ?c4 ?c5; (case kA => exact rfl); (case kF => exact rfl); (case kK => assumption); (case k1 => k_asm); (case k2 => k_asm); (case k3 => k_asm); (case k4 => k_asm); (case k5 => k_asm); (case k6 => k_is); (case k7 => k_is); (case k8 => ktr_room); (case k9 => exact BindsTo.of_eq (by kernel_rfl)); (case c5 => decide); (case kB => exact locs rfl); (case c2 => exact rfl); (case c3 => exact rfl); (case c4 => exact rfl); k_whole)
  intro g L' h₁ tk hg hL F' N' B' X' T'
  have hl' : g.IsList l vs.toArray := hl.at fun o e => hg l o e (by simp)
  clear B F KX T N hl
  (try dsimp only)
  (try k_fold)
  k_with "mine" => refine Stop.out ?_
  k_steps
  refine Stop.mk ?_
  rename Fr _ _ _ _ => F1
  refine For_invVF F1 rfl rfl ?_
  (try k_fold)
  k_steps
  refine Stop.mk ?_
  rename IsRange _ _ _ _ _ _ _ _ => R2
  rename Fr _ _ _ _ => F2
  rename News _ _ _ _ => N2
  refine loop_range (σ := List Value × Nat) (n := 4) (fun c => [(_, PySem.W.listOf c.1.toArray c.2)]) [_] (fun _ => []) [PySem.Str.ofString "y", PySem.Str.ofString "x", PySem.Str.ofString "goal"] (fun i c => IntsAre c.1 (ltuS 4 W ns i)) rfl R2 rfl rfl (fun _ => rfl) (_, 0) F2 (fun p hp => N2 p ((List.mem_singleton.mp hp) ▸ List.Mem.head _)) (fun _ h => nomatch h) (by exact ints_rep (x := 0) 16) ?_ ?_
  · clear F2 N2 R2
    rintro i t ⟨fs, cap⟩ u h tk own hi9 hv hoff F3 N3
    dsimp only at hv F3 N3
    simp only [List.cons_append, List.nil_append] at N3
    (try k_fold)
    k_steps
    refine Stop.mk ?_
    rename Fr _ _ _ _ => F1
    refine For_invVF F1 rfl rfl ?_
    (try k_fold)
    k_steps
    refine Stop.mk ?_
    rename IsRange _ _ _ _ _ _ _ _ => R2
    rename Fr _ _ _ _ => F2
    rename News _ _ _ _ => N1
    refine loop_range (σ := List Value × Nat) (n := 4) (fun c => (_, PySem.W.listOf c.1.toArray c.2) :: own) (_ :: own.map (·.1)) (fun _ => []) [PySem.Str.ofString "x", PySem.Str.ofString "goal"] (fun j c' => IntsAre c'.1 ((List.range j).foldl (ltuX 4 W ns i) (ltuS 4 W ns i))) rfl R2 rfl rfl (fun _ => rfl) (fs, cap) F2 N1 (fun _ h => nomatch h) hv ?_ ?_
    · (try clear F1); (try clear F2); (try clear N1); (try clear R2)
      rintro j t' ⟨fs', cap'⟩ u' h' tk' own2 hj hv' hoff2 F3 N3
      dsimp only at hv' F3 N3
      have hoff3 := off_app hoff hoff2 (List.Mem.head _) (List.Mem.head _)
      simp only [List.cons_append] at N3
      (try k_fold)
      k_steps
      refine Stop.mk ?_
      rename Fr _ _ _ _ => F1
      rename News _ _ _ _ => N1
      refine led_ok w mean mg mb _ _ _ _ _ _ _ _ _ _ _ _ _ _ _ _ _ _ _ _ _ _ _ _ _ _ _ ⟨by assumption, F1, by assumption, by assumption, rfl, by show dp + 1 + _ < recursionLimit; omega, by show un + 3 + 8 * _ < cLine; omega⟩ (by assumption) News.nil ?_
      intro r9 n9 u1 u2 v1 v2 h9 tk9 hk9 he9 hr9 hn9
      have F2 := fr_back F1 hk9
      have N2 := news_add F1 N1 hk9 hr9 hn9
      have l9 := ne_of_new N1 hn9
      clear F1 N1
      have N3 := news_swap N2
      clear N2
      have hoff4 := off_cons (q := (r9, tupOf #[.int v1 u1, .int v2 u2] n9)) (Ne.symm (l9 _ (List.Mem.head _))) hoff3
      obtain ⟨hb1, hb2, hb3, hb4⟩ := led_b (by omega) (by omega) (by omega) (by omega) he9
      have hbl : ((List.range j).foldl (ltuX 4 W ns i) (ltuS 4 W ns i)).length = 16 := (ltuX_len _ _ _ _ _ _).trans (ltuS_len _ _ _ _)
      (try dsimp only)
      (try k_unfold)
      (try dsimp only)
      (try k_fold)
      k_steps
      refine Stop.mk ?_
      rename Fr _ _ _ _ => F4
      rename News _ _ _ _ => N4
      exact turn_end (fs'.set (v2 * 4 + v1).toNat (.int (ns.getD ((0 + (i : Int) * 1) * 4 + (0 + (j : Int) * 1)).toNat 0) _), cap') F4 N4 led_sub3 led_own3 rfl (ltu_step hv' he9) (fun _ h => nomatch h) (by (intro z h1 h2 h3; repeat' (first | with_reducible rfl | refine (if_neg h1).trans ?_ | refine (if_neg (h2 _ (List.Mem.head _))).trans ?_ | refine (if_neg (h2 _ (List.Mem.tail _ (List.Mem.head _)))).trans ?_ | refine (if_neg (ne_stored h3 (by rfl))).trans ?_ | refine (if_neg (sub_stored h3 (by rfl))).trans ?_)))
    · rintro ⟨fs', cap'⟩ u' h' tk' hv' F3 N3
      dsimp only at hv' F3 N3
      (try k_fold)
      k_steps
      refine Stop.mk ?_
      rename Fr _ _ _ _ => F4
      rename News _ _ _ _ => N4
      exact turn_end (fs', cap') F4 N4 led_sub1 led_own1 rfl (by rw [ltuS_succ]; exact hv') (fun _ h => nomatch h) (by (intro z h1 h2 h3; repeat' (first | with_reducible rfl | refine (if_neg h1).trans ?_ | refine (if_neg (h2 _ (List.Mem.head _))).trans ?_ | refine (if_neg (h2 _ (List.Mem.tail _ (List.Mem.head _)))).trans ?_ | refine (if_neg (ne_stored h3 (by rfl))).trans ?_ | refine (if_neg (sub_stored h3 (by rfl))).trans ?_)))
  · rintro ⟨fs, cap⟩ u h tk hv F3 N3
    dsimp only at hv F3 N3
    (try k_fold)
    k_steps
    rename Fr _ _ _ _ => F4
    rename News _ _ _ _ => N4
    obtain ⟨k1, k2, k3⟩ := end_new hg F4 N4 (List.Mem.head _)
    exact ret fs _ _ _ _ k1 hv k2 k3
end Mine
namespace Mine
local macro_rules | `(tactic| cell_enter) => `(tactic| (refine' enter ?k1 ?k2 ?k3 ?k4 ?k5 ?kA ?kF ?kK ?k6 ?k7 ?k8 ?k9 ?kB ?_ ?c2 ?c3 ?c4 ?c5; (case kA => exact rfl); (case kF => exact rfl); (case kK => assumption); (case k1 => k_asm); (case k2 => k_asm); (case k3 => k_asm); (case k4 => k_asm); (case k5 => k_asm); (case k6 => k_is); (case k7 => k_is); (case k8 => ktr_room); (case k9 => exact BindsTo.of_eq rfl); (case c5 => decide); (case kB => exact locs rfl); (case c2 => exact rfl); (case c3 => exact rfl); (case c4 => exact rfl); k_whole))
local macro_rules | `(tactic| walk_at "call ref") => `(tactic| k_extra "mine")
local macro_rules | `(tactic| walk_at "InvEndN") => `(tactic| k_extra "mine")
local macro_rules | `(tactic| walk_at "exec For Name Call cons nil") => `(tactic| k_extra "mine")
local macro_rules | `(tactic| walk_at "exec For Name Name cons nil") => `(tactic| k_extra "mine")
local macro_rules | `(tactic| walk_at "pyIter ref") => `(tactic| ((with_reducible show wpAny _ _ (pyIter (Value.ref _)) (fun it s₂ => LoopAtV _ _ _ _ _ _ _ _ _ it s₂) _ _); k_extra "mine"))
local macro_rules | `(tactic| walk_at "call builtin:list.append") => `(tactic| (k_here; (with_reducible show wpAny _ _ (call (Value.builtin _) [Value.ref _, _]) _ _ _); k_dflt (refine' append_K ?k1 ?k2 ?k3 ?_ ?z; (case k1 => k_asm); (case k2 => k_asm); (case k3 => (refine Upd.head ?_; exact OwnOff.ne (by assumption) (List.Mem.head _))); (case z => (rw [List.size_toArray, sizeLine_eq]; omega)); k_whole); intro h' F' N'; (try k_sweep)))
local macro_rules | `(tactic| walk_at "subscriptTail Name BinOp ref int") => `(tactic| (k_here; k_dflt (refine' ksa_sub ?k1 ?k2 ?k3 ?k4 ?k5 ?k6 ?_ ?k7; (case k1 => k_asm); (case k2 => k_mem); (case k3 => with_reducible assumption); (case k4 => omega); (case k5 => omega); (case k6 => omega); (case k7 => with_unfolding_all rfl); k_whole); intro _))
def totU (n : Int) (b : List Int) (x y v : Nat) (t : Int) (u : Nat) : Int := t + b.getD ((0 + (v : Int) * 1) * n + (0 + (u : Int) * 1)).toNat 0 * wave (0 + (u : Int) * 1) (0 + (x : Int) * 1) n * wave (0 + (v : Int) * 1) (0 + (y : Int) * 1) n
def totV (n : Int) (b : List Int) (x y : Nat) (t : Int) (v : Nat) : Int := (List.range n.toNat).foldl (totU n b x y v) t
def sampV (n : Int) (b : List Int) (y x : Nat) : Int := (List.range n.toNat).foldl (totV n b x y) 0
def sampR (n : Int) (b : List Int) (y : Nat) : List Int := (List.range n.toNat).map (sampV n b y)
def samp (n : Int) (ns : List Int) : List Int := (List.range n.toNat).flatMap (sampR n (blk n ns))
theorem wave_b {k x n v : Int} (hn : n = 2 ∨ n = 4) (h0 : 0 ≤ k) (h1 : k < n) (h2 : 0 ≤ x) (h3 : x < n) (e : v = wave k x n) : -3 ≤ v ∧ v ≤ 3 := by
  subst e
  obtain ⟨k, rfl⟩ := Int.eq_ofNat_of_zero_le h0
  obtain ⟨x, rfl⟩ := Int.eq_ofNat_of_zero_le h2
  rcases hn with rfl | rfl
  · have H : ∀ k : Nat, k < 2 → ∀ x : Nat, x < 2 → -3 ≤ wave (k : Int) (x : Int) 2 ∧ wave (k : Int) (x : Int) 2 ≤ 3 := by decide
    exact H k (by omega) x (by omega)
  · have H : ∀ k : Nat, k < 4 → ∀ x : Nat, x < 4 → -3 ≤ wave (k : Int) (x : Int) 4 ∧ wave (k : Int) (x : Int) 4 ≤ 3 := by decide
    exact H k (by omega) x (by omega)
theorem led_subA {own own2 : List (Addr × Obj)} {q r : Addr × Obj} : ∀ p ∈ q :: r :: own, p ∈ q :: r :: (own ++ own2) := led_sub (own := r :: own)
theorem led_ownA {own own2 : List (Addr × Obj)} {q r : Addr × Obj} : ∀ p ∈ own2, p ∈ q :: r :: (own ++ own2) := led_own (own := r :: own)
set_option maxRecDepth 100000 in
set_option maxHeartbeats 8000000 in
theorem samp2_ok : ∀ (w : World) (mean : ExcName → Option Value) (mg mb : PySem.Str → Option Value)
  (dp un : Nat) (gd : Option (List Code)) (cn : PySem.Str) (cs : Scope) (a : Addr) (ccd : Value) (cl : List (PySem.Str × Addr)) (outer : List Env) (A₀ : Around) (base h₀ : Heap) (L : Addr) (m : PySem.Str → Option Value) (s : Shared) (Q E : Value → Shared → Prop)
  (l : Addr) (vs : List Value) (ns : List Int) (t1 : Tok)
  (_ : Site w mean mg mb dp un cs outer A₀ base h₀ L m s 9) (_ : (Mine.KF w.params).In h₀) (_ : News h₀ L s.heap [])
  (_ : s.heap.IsList l vs.toArray) (_ : IntsAre vs ns) (_ : ns.length = 4)
  (_ : ∀ (vs : List Value) (r n : Nat) (h' : Heap) (tk' : Nat), (∀ b o, s.heap.get? b = some o → h'.get? b = some o) → IntsAre vs (samp 2 ns) → h'.get? r = some (PySem.W.listOf vs.toArray n) → s.heap.get? r = none → Q (.ref r) { s with heap := h', toks := tk' }),
  wpAny (model PySem.Challenge.rw_nt0539_01.row.prog w) (ktrTop dp un gd cn cs L a ccd cl outer) (call (.ref 310) [.ref l, .int 2 t1]) Q E s := by
  k_fill
  rintro w mean mg mb dp un gd cn cs a ccd cl outer A₀ base h₀ L m s Q E l vs ns t1 ⟨B, F, KX, T, hk, hd, hu⟩ KX0 N hl hi hn ret
  clear KX0
  refine wpAny_call ?_
  k_dflt (refine' enter (binds := [(PySem.Str.ofString "row", .ref l), (PySem.Str.ofString "n", .int 2 t1)]) ?k1 ?k2 ?k3 ?k4 ?k5 ?kA ?kF ?kK ?k6 ?k7 ?k8 ?k9 ?kB ?_ ?c2 ?c3 ?c4 ?c5; (case kA => exact rfl); (case kF => exact rfl); (case kK => assumption); (case k1 => k_asm); (case k2 => k_asm); (case k3 => k_asm); (case k4 => k_asm); (case k5 => k_asm); (case k6 => k_is); (case k7 => k_is); (case k8 => ktr_room); (case k9 => exact BindsTo.of_eq (by kernel_rfl)); (case c5 => decide); (case kB => exact locs rfl); (case c2 => exact rfl); (case c3 => exact rfl); (case c4 => exact rfl); k_whole)
  intro g L' h₁ tk hg hL F' N' B' X' T'
  have hl' : g.IsList l vs.toArray := hl.at fun o e => hg l o e (by simp)
  clear B F KX T N hl
  (try dsimp only)
  (try k_fold)
  k_with "mine" => refine Stop.out ?_
  k_steps
  refine Stop.mk ?_
  rename Fr _ _ _ _ => F1
  rename News _ _ _ _ => N1
  refine blk2_ok w mean mg mb _ _ _ _ _ _ _ _ _ _ _ _ _ _ _ _ _ _ _ _ _ ⟨by assumption, F1, by assumption, by assumption, rfl, by show dp + 1 + _ < recursionLimit; omega, by show un + 3 + 8 * _ < cLine; omega⟩ (by assumption) News.nil ((hl'.at fun o e => F1.keep _ _ e)) (hi) (hn) ?_
  intro vs9 r9 n9 h9 tk9 hk9 hv9 hr9 hn9
  have F2 := fr_back F1 hk9
  have N2 := news_add F1 N1 hk9 hr9 hn9
  have l9 := ne_of_new N1 hn9
  clear F1 N1
  (try dsimp only)
  (try k_unfold)
  (try dsimp only)
  (try k_fold)
  k_steps
  refine Stop.mk ?_
  rename Fr _ _ _ _ => F1
  refine For_invVF F1 rfl rfl ?_
  (try k_fold)
  k_steps
  refine Stop.mk ?_
  rename IsRange _ _ _ _ _ _ _ _ => R2
  rename Fr _ _ _ _ => F2
  rename News _ _ _ _ => N2
  refine loop_range (σ := List Value × Nat) (n := 2) (fun c => [(_, PySem.W.listOf c.1.toArray c.2), (r9, PySem.W.listOf vs9.toArray n9)]) [_, _] (fun _ => []) [PySem.Str.ofString "y", PySem.Str.ofString "x", PySem.Str.ofString "total", PySem.Str.ofString "v", PySem.Str.ofString "u"] (fun i c => IntsAre c.1 ((List.range i).flatMap (sampR 2 (blk 2 ns))) ∧ c.1.length = 2 * i) rfl R2 rfl rfl (fun _ => rfl) ([], 0) F2 (fun p hp => N2 p (List.Mem.tail _ hp)) (fun _ h => nomatch h) ⟨.nil, rfl⟩ ?_ ?_
  · clear F2 N2 R2
    intro iy ty c0 u h1 tk1 own hiy ⟨hv, hlen⟩ hoff F3 N3
    simp only [List.cons_append, List.nil_append] at N3
    (try k_fold)
    k_steps
    refine Stop.mk ?_
    rename Fr _ _ _ _ => F1
    refine For_invVF F1 rfl rfl ?_
    (try k_fold)
    k_steps
    refine Stop.mk ?_
    rename IsRange _ _ _ _ _ _ _ _ => R2
    rename Fr _ _ _ _ => F2
    rename News _ _ _ _ => N2
    refine loop_range (σ := List Value × Nat) (n := 2) (fun c => (_, PySem.W.listOf c.1.toArray c.2) :: (r9, PySem.W.listOf vs9.toArray n9) :: own) (_ :: r9 :: own.map (·.1)) (fun _ => []) [PySem.Str.ofString "x", PySem.Str.ofString "total", PySem.Str.ofString "v", PySem.Str.ofString "u"] (fun j c' => IntsAre c'.1 (((List.range iy).flatMap (sampR 2 (blk 2 ns))) ++ (List.range j).map (sampV 2 (blk 2 ns) iy)) ∧ c'.1.length = 2 * iy + j) rfl R2 rfl rfl (fun _ => rfl) c0 F2 N2 (fun _ h => nomatch h) ⟨by simpa using hv, hlen⟩ ?_ ?_
    · (try clear F1); (try clear F2); (try clear N2); (try clear R2)
      intro ix tx c u2 h2 tk2 own2 hix ⟨hv', hlen'⟩ hoff2 F3 N3
      have hoffa := off_cons (q := (r9, PySem.W.listOf vs9.toArray n9)) (Nat.ne_of_lt (by assumption)) (off_app hoff hoff2 (List.Mem.head _) (List.Mem.head _))
      simp only [List.cons_append] at N3
      have hbl : (blk 2 ns).length = 4 := blkS_len _ _ _
      (try k_fold)
      k_steps
      refine Stop.mk ?_
      rename Fr _ _ _ _ => F1
      refine For_invVF F1 rfl rfl ?_
      (try k_fold)
      k_steps
      refine Stop.mk ?_
      rename IsRange _ _ _ _ _ _ _ _ => R2
      rename Fr _ _ _ _ => F2
      rename News _ _ _ _ => N2
      refine loop_range (σ := Int × Tok) (n := 2) (fun _ => (_, PySem.W.listOf c.1.toArray c.2) :: (r9, PySem.W.listOf vs9.toArray n9) :: (own ++ own2)) _ (fun c => [(PySem.Str.ofString "total", .int c.1 c.2)]) [PySem.Str.ofString "v", PySem.Str.ofString "u"] (fun j c' => c'.1 = (List.range j).foldl (totV 2 (blk 2 ns) ix iy) 0) rfl R2 rfl rfl (fun _ => rfl) (0, _) F2 N2 (List.forall_mem_cons.mpr ⟨rfl, fun _ h => nomatch h⟩) rfl ?_ ?_
      · (try clear F1); (try clear F2); (try clear N2); (try clear R2)
        rintro iv tv t3 u3 h3 tk3 own3 hiv he3 hoff3 F3 N3
        simp only [List.cons_append] at N3
        (try k_fold)
        k_steps
        refine Stop.mk ?_
        rename Fr _ _ _ _ => F1
        refine For_invVF F1 rfl rfl ?_
        (try k_fold)
        k_steps
        refine Stop.mk ?_
        rename IsRange _ _ _ _ _ _ _ _ => R2
        rename Fr _ _ _ _ => F2
        rename News _ _ _ _ => N2
        refine loop_range (σ := Int × Tok) (n := 2) (fun _ => (_, PySem.W.listOf c.1.toArray c.2) :: (r9, PySem.W.listOf vs9.toArray n9) :: ((own ++ own2) ++ own3)) _ (fun c => [(PySem.Str.ofString "total", .int c.1 c.2)]) [PySem.Str.ofString "u"] (fun j c' => c'.1 = (List.range j).foldl (totU 2 (blk 2 ns) ix iy iv) t3.1) rfl R2 rfl rfl (fun _ => rfl) t3 F2 N2 (List.forall_mem_cons.mpr ⟨rfl, fun _ h => nomatch h⟩) rfl ?_ ?_
        · (try clear F1); (try clear F2); (try clear N2); (try clear R2)
          rintro iu tu ⟨t4, t4k⟩ u4 h4 tk4 own4 hiu he4 hoff4 F3 N3
          (try dsimp only at he4 F3 N3)
          simp only [List.cons_append] at N3
          (try k_fold)
          k_steps
          refine Stop.mk ?_
          rename Fr _ _ _ _ => F1
          rename News _ _ _ _ => N1
          refine wave_ok w mean mg mb _ _ _ _ _ _ _ _ _ _ _ _ _ _ _ _ _ _ _ _ _ _ _ ⟨by assumption, F1, by assumption, by assumption, rfl, by show dp + 1 + _ < recursionLimit; omega, by show un + 3 + 8 * _ < cLine; omega⟩ (by assumption) News.nil ((by decide)) ((by omega)) ((by omega)) ((by omega)) ((by omega)) ?_
          intro v8 t8 h9 tk9 hk9 hw8
          obtain ⟨hb1, hb2⟩ := wave_b (by decide) (by omega) (by omega) (by omega) (by omega) hw8
          have F2 := fr_back F1 hk9
          have N2 := news_back N1 hk9
          clear F1 N1 hk9
          (try dsimp only)
          (try k_unfold)
          (try dsimp only)
          (try k_fold)
          k_steps
          refine Stop.mk ?_
          rename Fr _ _ _ _ => F1
          rename News _ _ _ _ => N1
          refine wave_ok w mean mg mb _ _ _ _ _ _ _ _ _ _ _ _ _ _ _ _ _ _ _ _ _ _ _ ⟨by assumption, F1, by assumption, by assumption, rfl, by show dp + 1 + _ < recursionLimit; omega, by show un + 3 + 8 * _ < cLine; omega⟩ (by assumption) News.nil ((by decide)) ((by omega)) ((by omega)) ((by omega)) ((by omega)) ?_
          intro v7 t7 h8 tk8 hk8 hw7
          obtain ⟨hb3, hb4⟩ := wave_b (by decide) (by omega) (by omega) (by omega) (by omega) hw7
          have F2 := fr_back F1 hk8
          have N2 := news_back N1 hk8
          clear F1 N1 hk8
          (try dsimp only)
          (try k_unfold)
          (try dsimp only)
          (try k_fold)
          k_steps
          refine Stop.mk ?_
          rename Fr _ _ _ _ => F4
          rename News _ _ _ _ => N4
          exact turn_end (t4 + (blk 2 ns).getD ((0 + (iv : Int) * 1) * 2 + (0 + (iu : Int) * 1)).toNat 0 * v8 * v7, _) F4 N4 led_subA led_ownA rfl (by rw [List.range_succ, List.foldl_append, ← he4, hw8, hw7]; rfl) (List.forall_mem_cons.mpr ⟨rfl, fun _ h => nomatch h⟩) (by (intro z h1 h2 h3; repeat' (first | with_reducible rfl | refine (if_neg h1).trans ?_ | refine (if_neg (h2 _ (List.Mem.head _))).trans ?_ | refine (if_neg (h2 _ (List.Mem.tail _ (List.Mem.head _)))).trans ?_ | refine (if_neg (ne_stored h3 (by rfl))).trans ?_ | refine (if_neg (sub_stored h3 (by rfl))).trans ?_)))
        · rintro ⟨t4, t4k⟩ u4 h4 tk4 he4 F3 N3
          (try dsimp only at he4 F3 N3)
          (try k_fold)
          k_steps
          refine Stop.mk ?_
          rename Fr _ _ _ _ => F4
          rename News _ _ _ _ => N4
          exact turn_end (t4, t4k) F4 N4 led_subA led_ownA rfl (by rw [List.range_succ, List.foldl_append, ← he3]; exact he4) (List.forall_mem_cons.mpr ⟨rfl, fun _ h => nomatch h⟩) (by (intro z h1 h2 h3; repeat' (first | with_reducible rfl | refine (if_neg h1).trans ?_ | refine (if_neg (h2 _ (List.Mem.head _))).trans ?_ | refine (if_neg (h2 _ (List.Mem.tail _ (List.Mem.head _)))).trans ?_ | refine (if_neg (ne_stored h3 (by rfl))).trans ?_ | refine (if_neg (sub_stored h3 (by rfl))).trans ?_)))
      · rintro ⟨t3, t3k⟩ u3 h3 tk3 he3 F3 N3
        (try dsimp only at he3 F3 N3)
        (try k_fold)
        k_steps
        refine Stop.mk ?_
        rename Fr _ _ _ _ => F4
        rename News _ _ _ _ => N4
        simp only [List.push_toArray] at N4
        exact turn_end (c.1 ++ [.int t3 _], _) F4 N4 (led_sub (own := (r9, _) :: own)) (led_own (own := (r9, _) :: own)) rfl ⟨ints_snoc' hv' he3, by simp only [List.length_append, List.length_cons, List.length_nil]; omega⟩ (fun _ h => nomatch h) (by (intro z h1 h2 h3; repeat' (first | with_reducible rfl | refine (if_neg h1).trans ?_ | refine (if_neg (h2 _ (List.Mem.head _))).trans ?_ | refine (if_neg (h2 _ (List.Mem.tail _ (List.Mem.head _)))).trans ?_ | refine (if_neg (ne_stored h3 (by rfl))).trans ?_ | refine (if_neg (sub_stored h3 (by rfl))).trans ?_)))
    · intro c u2 h2 tk2 ⟨hv', hlen'⟩ F3 N3
      (try k_fold)
      k_steps
      refine Stop.mk ?_
      rename Fr _ _ _ _ => F4
      rename News _ _ _ _ => N4
      exact turn_end c F4 N4 led_sub2 led_own2 rfl ⟨flat_step hv' rfl, by omega⟩ (fun _ h => nomatch h) (by (intro z h1 h2 h3; repeat' (first | with_reducible rfl | refine (if_neg h1).trans ?_ | refine (if_neg (h2 _ (List.Mem.head _))).trans ?_ | refine (if_neg (h2 _ (List.Mem.tail _ (List.Mem.head _)))).trans ?_ | refine (if_neg (ne_stored h3 (by rfl))).trans ?_ | refine (if_neg (sub_stored h3 (by rfl))).trans ?_)))
  · intro c u h1 tk1 ⟨hv, hlen⟩ F3 N3
    (try k_fold)
    k_steps
    rename Fr _ _ _ _ => F4
    rename News _ _ _ _ => N4
    obtain ⟨k1, k2, k3⟩ := end_new hg F4 N4 (List.Mem.head _)
    exact ret c.1 _ _ _ _ k1 hv k2 k3
set_option maxRecDepth 100000 in
set_option maxHeartbeats 8000000 in
theorem samp4_ok : ∀ (w : World) (mean : ExcName → Option Value) (mg mb : PySem.Str → Option Value)
  (dp un : Nat) (gd : Option (List Code)) (cn : PySem.Str) (cs : Scope) (a : Addr) (ccd : Value) (cl : List (PySem.Str × Addr)) (outer : List Env) (A₀ : Around) (base h₀ : Heap) (L : Addr) (m : PySem.Str → Option Value) (s : Shared) (Q E : Value → Shared → Prop)
  (l : Addr) (vs : List Value) (ns : List Int) (t1 : Tok)
  (_ : Site w mean mg mb dp un cs outer A₀ base h₀ L m s 9) (_ : (Mine.KF w.params).In h₀) (_ : News h₀ L s.heap [])
  (_ : s.heap.IsList l vs.toArray) (_ : IntsAre vs ns) (_ : ns.length = 16)
  (_ : ∀ (vs : List Value) (r n : Nat) (h' : Heap) (tk' : Nat), (∀ b o, s.heap.get? b = some o → h'.get? b = some o) → IntsAre vs (samp 4 ns) → h'.get? r = some (PySem.W.listOf vs.toArray n) → s.heap.get? r = none → Q (.ref r) { s with heap := h', toks := tk' }),
  wpAny (model PySem.Challenge.rw_nt0539_01.row.prog w) (ktrTop dp un gd cn cs L a ccd cl outer) (call (.ref 310) [.ref l, .int 4 t1]) Q E s := by
  k_fill
  rintro w mean mg mb dp un gd cn cs a ccd cl outer A₀ base h₀ L m s Q E l vs ns t1 ⟨B, F, KX, T, hk, hd, hu⟩ KX0 N hl hi hn ret
  clear KX0
  refine wpAny_call ?_
  k_dflt (refine' enter (binds := [(PySem.Str.ofString "row", .ref l), (PySem.Str.ofString "n", .int 4 t1)]) ?k1 ?k2 ?k3 ?k4 ?k5 ?kA ?kF ?kK ?k6 ?k7 ?k8 ?k9 ?kB ?_ ?c2 ?c3 ?c4 ?c5; (case kA => exact rfl); (case kF => exact rfl); (case kK => assumption); (case k1 => k_asm); (case k2 => k_asm); (case k3 => k_asm); (case k4 => k_asm); (case k5 => k_asm); (case k6 => k_is); (case k7 => k_is); (case k8 => ktr_room); (case k9 => exact BindsTo.of_eq (by kernel_rfl)); (case c5 => decide); (case kB => exact locs rfl); (case c2 => exact rfl); (case c3 => exact rfl); (case c4 => exact rfl); k_whole)
  intro g L' h₁ tk hg hL F' N' B' X' T'
  have hl' : g.IsList l vs.toArray := hl.at fun o e => hg l o e (by simp)
  clear B F KX T N hl
  (try dsimp only)
  (try k_fold)
  k_with "mine" => refine Stop.out ?_
  k_steps
  refine Stop.mk ?_
  rename Fr _ _ _ _ => F1
  rename News _ _ _ _ => N1
  refine blk4_ok w mean mg mb _ _ _ _ _ _ _ _ _ _ _ _ _ _ _ _ _ _ _ _ _ ⟨by assumption, F1, by assumption, by assumption, rfl, by show dp + 1 + _ < recursionLimit; omega, by show un + 3 + 8 * _ < cLine; omega⟩ (by assumption) News.nil ((hl'.at fun o e => F1.keep _ _ e)) (hi) (hn) ?_
  intro vs9 r9 n9 h9 tk9 hk9 hv9 hr9 hn9
  have F2 := fr_back F1 hk9
  have N2 := news_add F1 N1 hk9 hr9 hn9
  have l9 := ne_of_new N1 hn9
  clear F1 N1
  (try dsimp only)
  (try k_unfold)
  (try dsimp only)
  (try k_fold)
  k_steps
  refine Stop.mk ?_
  rename Fr _ _ _ _ => F1
  refine For_invVF F1 rfl rfl ?_
  (try k_fold)
  k_steps
  refine Stop.mk ?_
  rename IsRange _ _ _ _ _ _ _ _ => R2
  rename Fr _ _ _ _ => F2
  rename News _ _ _ _ => N2
  refine loop_range (σ := List Value × Nat) (n := 4) (fun c => [(_, PySem.W.listOf c.1.toArray c.2), (r9, PySem.W.listOf vs9.toArray n9)]) [_, _] (fun _ => []) [PySem.Str.ofString "y", PySem.Str.ofString "x", PySem.Str.ofString "total", PySem.Str.ofString "v", PySem.Str.ofString "u"] (fun i c => IntsAre c.1 ((List.range i).flatMap (sampR 4 (blk 4 ns))) ∧ c.1.length = 4 * i) rfl R2 rfl rfl (fun _ => rfl) ([], 0) F2 (fun p hp => N2 p (List.Mem.tail _ hp)) (fun _ h => nomatch h) ⟨.nil, rfl⟩ ?_ ?_
  · clear F2 N2 R2
    intro iy ty c0 u h1 tk1 own hiy ⟨hv, hlen⟩ hoff F3 N3
    simp only [List.cons_append, List.nil_append] at N3
    (try k_fold)
    k_steps
    refine Stop.mk ?_
    rename Fr _ _ _ _ => F1
    refine For_invVF F1 rfl rfl ?_
    (try k_fold)
    k_steps
    refine Stop.mk ?_
    rename IsRange _ _ _ _ _ _ _ _ => R2
    rename Fr _ _ _ _ => F2
    rename News _ _ _ _ => N2
    refine loop_range (σ := List Value × Nat) (n := 4) (fun c => (_, PySem.W.listOf c.1.toArray c.2) :: (r9, PySem.W.listOf vs9.toArray n9) :: own) (_ :: r9 :: own.map (·.1)) (fun _ => []) [PySem.Str.ofString "x", PySem.Str.ofString "total", PySem.Str.ofString "v", PySem.Str.ofString "u"] (fun j c' => IntsAre c'.1 (((List.range iy).flatMap (sampR 4 (blk 4 ns))) ++ (List.range j).map (sampV 4 (blk 4 ns) iy)) ∧ c'.1.length = 4 * iy + j) rfl R2 rfl rfl (fun _ => rfl) c0 F2 N2 (fun _ h => nomatch h) ⟨by simpa using hv, hlen⟩ ?_ ?_
    · (try clear F1); (try clear F2); (try clear N2); (try clear R2)
      intro ix tx c u2 h2 tk2 own2 hix ⟨hv', hlen'⟩ hoff2 F3 N3
      have hoffa := off_cons (q := (r9, PySem.W.listOf vs9.toArray n9)) (Nat.ne_of_lt (by assumption)) (off_app hoff hoff2 (List.Mem.head _) (List.Mem.head _))
      simp only [List.cons_append] at N3
      have hbl : (blk 4 ns).length = 16 := blkS_len _ _ _
      (try k_fold)
      k_steps
      refine Stop.mk ?_
      rename Fr _ _ _ _ => F1
      refine For_invVF F1 rfl rfl ?_
      (try k_fold)
      k_steps
      refine Stop.mk ?_
      rename IsRange _ _ _ _ _ _ _ _ => R2
      rename Fr _ _ _ _ => F2
      rename News _ _ _ _ => N2
      refine loop_range (σ := Int × Tok) (n := 4) (fun _ => (_, PySem.W.listOf c.1.toArray c.2) :: (r9, PySem.W.listOf vs9.toArray n9) :: (own ++ own2)) _ (fun c => [(PySem.Str.ofString "total", .int c.1 c.2)]) [PySem.Str.ofString "v", PySem.Str.ofString "u"] (fun j c' => c'.1 = (List.range j).foldl (totV 4 (blk 4 ns) ix iy) 0) rfl R2 rfl rfl (fun _ => rfl) (0, _) F2 N2 (List.forall_mem_cons.mpr ⟨rfl, fun _ h => nomatch h⟩) rfl ?_ ?_
      · (try clear F1); (try clear F2); (try clear N2); (try clear R2)
        rintro iv tv t3 u3 h3 tk3 own3 hiv he3 hoff3 F3 N3
        simp only [List.cons_append] at N3
        (try k_fold)
        k_steps
        refine Stop.mk ?_
        rename Fr _ _ _ _ => F1
        refine For_invVF F1 rfl rfl ?_
        (try k_fold)
        k_steps
        refine Stop.mk ?_
        rename IsRange _ _ _ _ _ _ _ _ => R2
        rename Fr _ _ _ _ => F2
        rename News _ _ _ _ => N2
        refine loop_range (σ := Int × Tok) (n := 4) (fun _ => (_, PySem.W.listOf c.1.toArray c.2) :: (r9, PySem.W.listOf vs9.toArray n9) :: ((own ++ own2) ++ own3)) _ (fun c => [(PySem.Str.ofString "total", .int c.1 c.2)]) [PySem.Str.ofString "u"] (fun j c' => c'.1 = (List.range j).foldl (totU 4 (blk 4 ns) ix iy iv) t3.1) rfl R2 rfl rfl (fun _ => rfl) t3 F2 N2 (List.forall_mem_cons.mpr ⟨rfl, fun _ h => nomatch h⟩) rfl ?_ ?_
        · (try clear F1); (try clear F2); (try clear N2); (try clear R2)
          rintro iu tu ⟨t4, t4k⟩ u4 h4 tk4 own4 hiu he4 hoff4 F3 N3
          (try dsimp only at he4 F3 N3)
          simp only [List.cons_append] at N3
          (try k_fold)
          k_steps
          refine Stop.mk ?_
          rename Fr _ _ _ _ => F1
          rename News _ _ _ _ => N1
          refine wave_ok w mean mg mb _ _ _ _ _ _ _ _ _ _ _ _ _ _ _ _ _ _ _ _ _ _ _ ⟨by assumption, F1, by assumption, by assumption, rfl, by show dp + 1 + _ < recursionLimit; omega, by show un + 3 + 8 * _ < cLine; omega⟩ (by assumption) News.nil ((by decide)) ((by omega)) ((by omega)) ((by omega)) ((by omega)) ?_
          intro v8 t8 h9 tk9 hk9 hw8
          obtain ⟨hb1, hb2⟩ := wave_b (by decide) (by omega) (by omega) (by omega) (by omega) hw8
          have F2 := fr_back F1 hk9
          have N2 := news_back N1 hk9
          clear F1 N1 hk9
          (try dsimp only)
          (try k_unfold)
          (try dsimp only)
          (try k_fold)
          k_steps
          refine Stop.mk ?_
          rename Fr _ _ _ _ => F1
          rename News _ _ _ _ => N1
          refine wave_ok w mean mg mb _ _ _ _ _ _ _ _ _ _ _ _ _ _ _ _ _ _ _ _ _ _ _ ⟨by assumption, F1, by assumption, by assumption, rfl, by show dp + 1 + _ < recursionLimit; omega, by show un + 3 + 8 * _ < cLine; omega⟩ (by assumption) News.nil ((by decide)) ((by omega)) ((by omega)) ((by omega)) ((by omega)) ?_
          intro v7 t7 h8 tk8 hk8 hw7
          obtain ⟨hb3, hb4⟩ := wave_b (by decide) (by omega) (by omega) (by omega) (by omega) hw7
          have F2 := fr_back F1 hk8
          have N2 := news_back N1 hk8
          clear F1 N1 hk8
          (try dsimp only)
          (try k_unfold)
          (try dsimp only)
          (try k_fold)
          k_steps
          refine Stop.mk ?_
          rename Fr _ _ _ _ => F4
          rename News _ _ _ _ => N4
          exact turn_end (t4 + (blk 4 ns).getD ((0 + (iv : Int) * 1) * 4 + (0 + (iu : Int) * 1)).toNat 0 * v8 * v7, _) F4 N4 led_subA led_ownA rfl (by rw [List.range_succ, List.foldl_append, ← he4, hw8, hw7]; rfl) (List.forall_mem_cons.mpr ⟨rfl, fun _ h => nomatch h⟩) (by (intro z h1 h2 h3; repeat' (first | with_reducible rfl | refine (if_neg h1).trans ?_ | refine (if_neg (h2 _ (List.Mem.head _))).trans ?_ | refine (if_neg (h2 _ (List.Mem.tail _ (List.Mem.head _)))).trans ?_ | refine (if_neg (ne_stored h3 (by rfl))).trans ?_ | refine (if_neg (sub_stored h3 (by rfl))).trans ?_)))
        · rintro ⟨t4, t4k⟩ u4 h4 tk4 he4 F3 N3
          (try dsimp only at he4 F3 N3)
          (try k_fold)
          k_steps
          refine Stop.mk ?_
          rename Fr _ _ _ _ => F4
          rename News _ _ _ _ => N4
          exact turn_end (t4, t4k) F4 N4 led_subA led_ownA rfl (by rw [List.range_succ, List.foldl_append, ← he3]; exact he4) (List.forall_mem_cons.mpr ⟨rfl, fun _ h => nomatch h⟩) (by (intro z h1 h2 h3; repeat' (first | with_reducible rfl | refine (if_neg h1).trans ?_ | refine (if_neg (h2 _ (List.Mem.head _))).trans ?_ | refine (if_neg (h2 _ (List.Mem.tail _ (List.Mem.head _)))).trans ?_ | refine (if_neg (ne_stored h3 (by rfl))).trans ?_ | refine (if_neg (sub_stored h3 (by rfl))).trans ?_)))
      · rintro ⟨t3, t3k⟩ u3 h3 tk3 he3 F3 N3
        (try dsimp only at he3 F3 N3)
        (try k_fold)
        k_steps
        refine Stop.mk ?_
        rename Fr _ _ _ _ => F4
        rename News _ _ _ _ => N4
        simp only [List.push_toArray] at N4
        exact turn_end (c.1 ++ [.int t3 _], _) F4 N4 (led_sub (own := (r9, _) :: own)) (led_own (own := (r9, _) :: own)) rfl ⟨ints_snoc' hv' he3, by simp only [List.length_append, List.length_cons, List.length_nil]; omega⟩ (fun _ h => nomatch h) (by (intro z h1 h2 h3; repeat' (first | with_reducible rfl | refine (if_neg h1).trans ?_ | refine (if_neg (h2 _ (List.Mem.head _))).trans ?_ | refine (if_neg (h2 _ (List.Mem.tail _ (List.Mem.head _)))).trans ?_ | refine (if_neg (ne_stored h3 (by rfl))).trans ?_ | refine (if_neg (sub_stored h3 (by rfl))).trans ?_)))
    · intro c u2 h2 tk2 ⟨hv', hlen'⟩ F3 N3
      (try k_fold)
      k_steps
      refine Stop.mk ?_
      rename Fr _ _ _ _ => F4
      rename News _ _ _ _ => N4
      exact turn_end c F4 N4 led_sub2 led_own2 rfl ⟨flat_step hv' rfl, by omega⟩ (fun _ h => nomatch h) (by (intro z h1 h2 h3; repeat' (first | with_reducible rfl | refine (if_neg h1).trans ?_ | refine (if_neg (h2 _ (List.Mem.head _))).trans ?_ | refine (if_neg (h2 _ (List.Mem.tail _ (List.Mem.head _)))).trans ?_ | refine (if_neg (ne_stored h3 (by rfl))).trans ?_ | refine (if_neg (sub_stored h3 (by rfl))).trans ?_)))
  · intro c u h1 tk1 ⟨hv, hlen⟩ F3 N3
    (try k_fold)
    k_steps
    rename Fr _ _ _ _ => F4
    rename News _ _ _ _ => N4
    obtain ⟨k1, k2, k3⟩ := end_new hg F4 N4 (List.Mem.head _)
    exact ret c.1 _ _ _ _ k1 hv k2 k3
end Mine
namespace Mine
theorem trow_ok : ∀ (w : World) (mean : ExcName → Option Value) (mg mb : PySem.Str → Option Value)
  (dp un : Nat) (gd : Option (List Code)) (cn : PySem.Str) (cs : Scope) (a : Addr) (ccd : Value) (cl : List (PySem.Str × Addr)) (outer : List Env) (A₀ : Around) (base h₀ : Heap) (L : Addr) (m : PySem.Str → Option Value) (s : Shared) (Q E : Value → Shared → Prop)
  (n : Int) (l : Addr) (vs : List Value) (ns : List Int) (W : PySem.Str) (t1 t2 : Tok)
  (_ : Site w mean mg mb dp un cs outer A₀ base h₀ L m s 9) (_ : (Mine.KF w.params).In h₀) (_ : n = 2 ∨ n = 4)
  (_ : s.heap.IsList l vs.toArray) (_ : IntsAre vs ns) (_ : (ns.length : Int) = n * n)
  (_ : ∀ (vs : List Value) (r k : Nat) (h' : Heap) (tk' : Nat), (∀ b o, s.heap.get? b = some o → h'.get? b = some o) → IntsAre vs (turn n W ns) → h'.get? r = some (PySem.W.listOf vs.toArray k) → s.heap.get? r = none → Q (.ref r) { s with heap := h', toks := tk' }),
  wpAny (model PySem.Challenge.rw_nt0539_01.row.prog w) (ktrTop dp un gd cn cs L a ccd cl outer) (call (.ref 268) [.ref l, .str W t2, .int n t1]) Q E s := by
  intro w mean mg mb dp un gd cn cs a ccd cl outer A₀ base h₀ L m s Q E n l vs ns W t1 t2 S X hn hl hi hz ret
  rcases hn with rfl | rfl
  · exact trow2_ok w mean mg mb dp un gd cn cs a ccd cl outer A₀ base h₀ L m s Q E l vs ns W t1 t2 S X News.nil hl hi (by omega) ret
  · exact trow4_ok w mean mg mb dp un gd cn cs a ccd cl outer A₀ base h₀ L m s Q E l vs ns W t1 t2 S X News.nil hl hi (by omega) ret
theorem ltu_ok : ∀ (w : World) (mean : ExcName → Option Value) (mg mb : PySem.Str → Option Value)
  (dp un : Nat) (gd : Option (List Code)) (cn : PySem.Str) (cs : Scope) (a : Addr) (ccd : Value) (cl : List (PySem.Str × Addr)) (outer : List Env) (A₀ : Around) (base h₀ : Heap) (L : Addr) (m : PySem.Str → Option Value) (s : Shared) (Q E : Value → Shared → Prop)
  (n : Int) (l : Addr) (vs : List Value) (ns : List Int) (W : PySem.Str) (t1 t2 : Tok)
  (_ : Site w mean mg mb dp un cs outer A₀ base h₀ L m s 6) (_ : (Mine.KF w.params).In h₀) (_ : n = 2 ∨ n = 4)
  (_ : s.heap.IsList l vs.toArray) (_ : IntsAre vs ns) (_ : (ns.length : Int) = n * n)
  (_ : ∀ (vs : List Value) (r k : Nat) (h' : Heap) (tk' : Nat), (∀ b o, s.heap.get? b = some o → h'.get? b = some o) → IntsAre vs (ltu n W ns) → h'.get? r = some (PySem.W.listOf vs.toArray k) → s.heap.get? r = none → Q (.ref r) { s with heap := h', toks := tk' }),
  wpAny (model PySem.Challenge.rw_nt0539_01.row.prog w) (ktrTop dp un gd cn cs L a ccd cl outer) (call (.ref 324) [.ref l, .str W t2, .int n t1]) Q E s := by
  intro w mean mg mb dp un gd cn cs a ccd cl outer A₀ base h₀ L m s Q E n l vs ns W t1 t2 S X hn hl hi hz ret
  rcases hn with rfl | rfl
  · exact ltu2_ok w mean mg mb dp un gd cn cs a ccd cl outer A₀ base h₀ L m s Q E l vs ns W t1 t2 S X News.nil hl hi (by omega) ret
  · exact ltu4_ok w mean mg mb dp un gd cn cs a ccd cl outer A₀ base h₀ L m s Q E l vs ns W t1 t2 S X News.nil hl hi (by omega) ret
theorem samp_ok : ∀ (w : World) (mean : ExcName → Option Value) (mg mb : PySem.Str → Option Value)
  (dp un : Nat) (gd : Option (List Code)) (cn : PySem.Str) (cs : Scope) (a : Addr) (ccd : Value) (cl : List (PySem.Str × Addr)) (outer : List Env) (A₀ : Around) (base h₀ : Heap) (L : Addr) (m : PySem.Str → Option Value) (s : Shared) (Q E : Value → Shared → Prop)
  (n : Int) (l : Addr) (vs : List Value) (ns : List Int) (t1 : Tok)
  (_ : Site w mean mg mb dp un cs outer A₀ base h₀ L m s 9) (_ : (Mine.KF w.params).In h₀) (_ : n = 2 ∨ n = 4)
  (_ : s.heap.IsList l vs.toArray) (_ : IntsAre vs ns) (_ : (ns.length : Int) = n * n)
  (_ : ∀ (vs : List Value) (r k : Nat) (h' : Heap) (tk' : Nat), (∀ b o, s.heap.get? b = some o → h'.get? b = some o) → IntsAre vs (samp n ns) → h'.get? r = some (PySem.W.listOf vs.toArray k) → s.heap.get? r = none → Q (.ref r) { s with heap := h', toks := tk' }),
  wpAny (model PySem.Challenge.rw_nt0539_01.row.prog w) (ktrTop dp un gd cn cs L a ccd cl outer) (call (.ref 310) [.ref l, .int n t1]) Q E s := by
  intro w mean mg mb dp un gd cn cs a ccd cl outer A₀ base h₀ L m s Q E n l vs ns t1 S X hn hl hi hz ret
  rcases hn with rfl | rfl
  · exact samp2_ok w mean mg mb dp un gd cn cs a ccd cl outer A₀ base h₀ L m s Q E l vs ns t1 S X News.nil hl hi (by omega) ret
  · exact samp4_ok w mean mg mb dp un gd cn cs a ccd cl outer A₀ base h₀ L m s Q E l vs ns t1 S X News.nil hl hi (by omega) ret
theorem div_ok : ∀ (w : World) (mean : ExcName → Option Value) (mg mb : PySem.Str → Option Value)
  (dp un : Nat) (gd : Option (List Code)) (cn : PySem.Str) (cs : Scope) (a : Addr) (ccd : Value) (cl : List (PySem.Str × Addr)) (outer : List Env) (A₀ : Around) (base h₀ : Heap) (L : Addr) (m : PySem.Str → Option Value) (s : Shared) (Q E : Value → Shared → Prop)
  (n : Int) (l : Addr) (vs : List Value) (ns : List Int) (W : PySem.Str) (t1 t2 : Tok)
  (_ : Site w mean mg mb dp un cs outer A₀ base h₀ L m s 11) (_ : (Mine.KF w.params).In h₀) (_ : n = 2 ∨ n = 4)
  (_ : IsTup s.heap l vs.toArray) (_ : IntsAre vs ns) (_ : (ns.length : Int) = n * n)
  (_ : ∀ (vs2 : List Value) (r k : Nat) (h' : Heap) (tk' : Nat), (∀ b o, s.heap.get? b = some o → h'.get? b = some o) → IntsAre vs2 (if sw W = true then turn n (PySem.Str.ofString "swap") ns else ns) → ((h'.get? r = some (tupOf vs2.toArray k) ∧ s.heap.get? r = none) ∨ (r = l ∧ vs2 = vs)) → Q (.ref r) { s with heap := h', toks := tk' }),
  wpAny (model PySem.Challenge.rw_nt0539_01.row.prog w) (ktrTop dp un gd cn cs L a ccd cl outer) (call (.ref 275) [.ref l, .str W t2, .int n t1]) Q E s := by
  intro w mean mg mb dp un gd cn cs a ccd cl outer A₀ base h₀ L m s Q E n l vs ns W t1 t2 S X hn hl hi hz ret
  rcases hn with rfl | rfl
  · exact div2_ok w mean mg mb dp un gd cn cs a ccd cl outer A₀ base h₀ L m s Q E l vs ns W t1 t2 S X News.nil hl hi (by omega) ret
  · exact div4_ok w mean mg mb dp un gd cn cs a ccd cl outer A₀ base h₀ L m s Q E l vs ns W t1 t2 S X News.nil hl hi (by omega) ret
section
open PySem.Spec PySem.Calls
variable {prog : Program} {w : World} {s : Shared} {K : Frag} {p : Program} {loose : List PySem.Str} {mean : ExcName → Option Value} {mg mb : PySem.Str → Option Value}
  {R : Result → Shared → Prop} {name qual : PySem.Str} {params : Arguments} {body : List Stmt} {scope : Scope} {dV kV doc pm cdv ct oc : Value} {an od : Option Addr} {osl : Array (Option Value)} {f : Addr} {args : Args} {binds : List (PySem.Str × Value)}
/-- into the law itself -/
theorem enterTop (X : K.In s.heap) (T : Top p loose mean mg mb s.heap)
    (ho : K.lookup f = some ⟨oc, od, .func (fnOf name qual params body scope dV kV doc pm an cdv ct), osl⟩) (hcd : codeIn K cdv qual = true) (hroom : callerA.depth < recursionLimit)
    (hbind : BindsTo s (fnOf name qual params body scope dV kV doc pm an cdv ct) args binds) (hkind : (binds.all fun y => scope.names.lookup y.1 == some .local || scope.names.lookup y.1 == some .cell) = true)
    (hnd : ((cellsFrom 0 scope.names []).map (·.1)).Nodup)
    (h : ∀ L' h₁ tk cells, s.heap.objs.size = L' → Fr s.heap L' h₁ (bindL (envOfC qual scope L' f cdv).kindOf binds fun _ => none) → News s.heap L' h₁ cells →
      CellsAre (bindC (envOfC qual scope L' f cdv).kindOf binds fun _ => none) (cellsFrom (L' + 1) scope.names []) cells → Below callerA s.heap [] s.heap →
      wpAny (model prog w) (ktrTop (1 + claimMargin + 1) 7 (some []) qual scope L' f cdv (cellsFrom (L' + 1) scope.names []) []) (execs body (envOfC qual scope L' f cdv))
        (fun fl s' => R (.ok (.ret (match fl with | .ret v => v | _ => .none))) s')
        (fun e s' => wpAny (model prog w) (callerA.deeper (envOfC qual scope L' f cdv)) (leaving (envOfC qual scope L' f cdv) e) (fun _ s'' => R (.error e) s'') (fun e' s'' => R (.error e') s'') s')
        { s with heap := h₁, toks := tk })
    (hco : scope.isCoroutine = false) (hgen : scope.isGenerator = false) (hk : scope.kind = .function) : codeAny (model prog w) callerA (.call (.ref f) args) R s := by
  refine codeAny_call_function hroom (X _ _ ho) rfl hco hgen rfl (codeRec_of X hcd) (hbind _ _ _ _ ?_)
  refine wpAny_newFunctionEnv_cells hk (kindsX hkind _) fun env' he s' x => ?_
  subst he
  have k := x.toInCall.keep
  obtain ⟨h₁, tk, rfl, _⟩ := x.done
  obtain ⟨cells, NC, Y⟩ := Cl.news (h₀ := s.heap) (Nat.le_refl _) fun n c hm => ⟨x.cell n c (lookup_of_mem_nodup (cellsFrom_names scope.names 0 (s.heap.objs.size + 1) [] [] rfl ▸ hnd) hm), x.above n c hm⟩
  exact ⟨T.nolimit.keeps k, codeAny_func (h _ h₁ tk cells rfl ⟨x.toInCall.ns, k, Nat.le_refl _⟩ NC Y (below_caller _))⟩
theorem cells8 {cm : PySem.Str → Option Value} {n1 n2 n3 n4 n5 n6 n7 n8 : PySem.Str} {c1 c2 c3 c4 c5 c6 c7 c8 : Addr} {cells : List (Addr × Obj)}
    (x : CellsAre cm [(n1, c1), (n2, c2), (n3, c3), (n4, c4), (n5, c5), (n6, c6), (n7, c7), (n8, c8)] cells) :
    ∃ o1 o2 o3 o4 o5 o6 o7 o8, cells = [(c1, o1), (c2, o2), (c3, o3), (c4, o4), (c5, o5), (c6, o6), (c7, o7), (c8, o8)] ∧
      o1.data = .cell (cm n1) ∧ o2.data = .cell (cm n2) ∧ o3.data = .cell (cm n3) ∧ o4.data = .cell (cm n4) ∧ o5.data = .cell (cm n5) ∧ o6.data = .cell (cm n6) ∧ o7.data = .cell (cm n7) ∧ o8.data = .cell (cm n8) := by
  cases x with | cons h1 r => cases r with | cons h2 r => cases r with | cons h3 r => cases r with | cons h4 r =>
    obtain ⟨o5, o6, o7, o8, rfl, h5, h6, h7, h8⟩ := r.four
    exact ⟨_, _, _, _, o5, o6, o7, o8, rfl, h1, h2, h3, h4, h5, h6, h7, h8⟩
end
section
variable {h₀ h h' : Heap} {L src : Addr} {m : PySem.Str → Option Value} {news : List (Addr × Obj)} {g : Obj → List (Addr × Obj)} {o o' : Obj}
/-- one object of the ledger is another one, all else stands -/
theorem led_put (F : Fr h₀ L h m) (N : News h₀ L h news) (U : UpdF src o news g) (k : ∀ b ob, h.get? b = some ob → b ≠ src → h'.get? b = some ob) (e : h'.get? src = some o') : Fr h₀ L h' m ∧ News h₀ L h' (g o') := by
  obtain ⟨pre, post, rfl, hg, h1, h2⟩ := U.split
  have hm := N (src, o) (List.mem_append_right _ (.head _))
  constructor
  · obtain ⟨oL, es, ep, hL, a, b, c⟩ := F.ns
    exact ⟨⟨oL, es, ep, k _ _ hL (Ne.symm hm.2.1), a, b, c⟩, fun b ob q => k _ _ (F.keep b ob q) fun z => by (rw [z, hm.2.2] at q; cases q), F.above⟩
  · rw [hg]
    intro p hp
    rcases List.mem_append.mp hp with q | q
    · have z := N p (List.mem_append_left _ q)
      exact ⟨k _ _ z.1 (h1 p q), z.2⟩
    · rcases List.mem_cons.mp q with rfl | q
      · exact ⟨e, hm.2⟩
      · have z := N p (List.mem_append_right _ (.tail _ q))
        exact ⟨k _ _ z.1 (h2 p q), z.2⟩
end
end Mine
namespace Mine
def WORDS : List PySem.Str := [PySem.Str.ofString "stay", PySem.Str.ofString "left", PySem.Str.ofString "back", PySem.Str.ofString "right", PySem.Str.ofString "mirror", PySem.Str.ofString "flip", PySem.Str.ofString "swap", PySem.Str.ofString "cross"]
namespace PL
/-- what holds of every word, shown word by word -/
theorem words_all {P : PySem.Str → Prop} (h1 : P (PySem.Str.ofString "stay")) (h2 : P (PySem.Str.ofString "left")) (h3 : P (PySem.Str.ofString "back")) (h4 : P (PySem.Str.ofString "right")) (h5 : P (PySem.Str.ofString "mirror")) (h6 : P (PySem.Str.ofString "flip")) (h7 : P (PySem.Str.ofString "swap")) (h8 : P (PySem.Str.ofString "cross")) :
    ∀ W ∈ WORDS, P W := by
  intro W hW
  simp only [WORDS, List.mem_cons, List.not_mem_nil, or_false] at hW
  rcases hW with rfl | rfl | rfl | rfl | rfl | rfl | rfl | rfl <;> assumption
theorem turn_len {n : Int} (hn : n = 2 ∨ n = 4) (W : PySem.Str) (ns : List Int) : ((turn n W ns).length : Int) = n * n := by
  rcases hn with rfl | rfl
  · rw [turn_len2]; rfl
  · rw [turn_len4]; rfl
theorem ltu_len {n : Int} (hn : n = 2 ∨ n = 4) (W : PySem.Str) (ns : List Int) : ((ltu n W ns).length : Int) = n * n := by
  unfold ltu; rw [ltuS_len]; rcases hn with rfl | rfl <;> rfl
theorem samp_len {n : Int} (hn : n = 2 ∨ n = 4) (ns : List Int) : ((samp n ns).length : Int) = n * n := by
  rcases hn with rfl | rfl <;> rfl
/-- a signed choice of a list's items: the place, and whether the sign turns -/
def ap (P : List (Nat × Bool)) (l : List Int) : List Int := P.map fun p => cond p.2 (-(l.getD p.1 0)) (l.getD p.1 0)
/-- the choice that a turn makes (its places read off from marks), with the two signs it sets -/
def TP2 (n : Int) (W : PySem.Str) : List (Nat × Bool × Bool) :=
  ((turn n W ((List.range (n * n).toNat).map fun (k : Nat) => (k : Int) + 1)).zip (zz n)).map fun v => (v.1.natAbs - 1, fl W && (v.2.toNat / n.toNat) % 2 == 1, mi W && (v.2.toNat % n.toNat) % 2 == 1)
def TP (n : Int) (W : PySem.Str) : List (Nat × Bool) := (TP2 n W).map fun p => (p.1, p.2.1 ^^ p.2.2)
def ap2 (P : List (Nat × Bool × Bool)) (l : List Int) : List Int := P.map fun p => cond p.2.1 (-(cond p.2.2 (-(l.getD p.1 0)) (l.getD p.1 0))) (cond p.2.2 (-(l.getD p.1 0)) (l.getD p.1 0))
theorem ap2_ap (P : List (Nat × Bool × Bool)) (l : List Int) : ap2 P l = ap (P.map fun p => (p.1, p.2.1 ^^ p.2.2)) l := by
  unfold ap2 ap
  rw [List.map_map]
  refine List.map_congr_left fun p _ => ?_
  obtain ⟨k, a, b⟩ := p
  cases a <;> cases b <;> simp
/-- the choice that a grid's turn makes -/
def LP (n : Int) (W : PySem.Str) : List (Nat × Bool) := (ltu n W ((List.range (n * n).toNat).map fun (k : Nat) => (k : Int))).map fun v => (v.natAbs, false)
theorem turn_ap2 {n : Int} (hn : n = 2 ∨ n = 4) {W : PySem.Str} (hW : W ∈ WORDS) (ns : List Int) : turn n W ns = ap2 (TP2 n W) ns := by
  rcases hn with rfl | rfl
  · exact words_all (P := fun W => turn 2 W ns = ap2 (TP2 2 W) ns) (by kernel_rfl) (by kernel_rfl) (by kernel_rfl) (by kernel_rfl) (by kernel_rfl) (by kernel_rfl) (by kernel_rfl) (by kernel_rfl) W hW
  · exact words_all (P := fun W => turn 4 W ns = ap2 (TP2 4 W) ns) (by kernel_rfl) (by kernel_rfl) (by kernel_rfl) (by kernel_rfl) (by kernel_rfl) (by kernel_rfl) (by kernel_rfl) (by kernel_rfl) W hW
theorem turn_ap {n : Int} (hn : n = 2 ∨ n = 4) {W : PySem.Str} (hW : W ∈ WORDS) (ns : List Int) : turn n W ns = ap (TP n W) ns := (turn_ap2 hn hW ns).trans (ap2_ap _ _)
theorem ltu_ap {n : Int} (hn : n = 2 ∨ n = 4) {W : PySem.Str} (hW : W ∈ WORDS) (ns : List Int) : ltu n W ns = ap (LP n W) ns := by
  rcases hn with rfl | rfl
  · exact words_all (P := fun W => ltu 2 W ns = ap (LP 2 W) ns) (by kernel_rfl) (by kernel_rfl) (by kernel_rfl) (by kernel_rfl) (by kernel_rfl) (by kernel_rfl) (by kernel_rfl) (by kernel_rfl) W hW
  · exact words_all (P := fun W => ltu 4 W ns = ap (LP 4 W) ns) (by kernel_rfl) (by kernel_rfl) (by kernel_rfl) (by kernel_rfl) (by kernel_rfl) (by kernel_rfl) (by kernel_rfl) (by kernel_rfl) W hW
def lt (P : List (Nat × Bool)) (N : Nat) : Bool := P.all fun p => decide (p.1 < N)
theorem lt_mem {P : List (Nat × Bool)} {N : Nat} (h : lt P N = true) {p : Nat × Bool} (hp : p ∈ P) : p.1 < N := of_decide_eq_true (List.all_eq_true.mp h p hp)
theorem getD_ap {P : List (Nat × Bool)} {k : Nat} (h : k < P.length) (l : List Int) : (ap P l).getD k 0 = cond (P.getD k (0, false)).2 (-(l.getD (P.getD k (0, false)).1 0)) (l.getD (P.getD k (0, false)).1 0) := by
  unfold ap
  rw [List.getD_eq_getElem?_getD, List.getElem?_map, List.getD_eq_getElem?_getD, List.getElem?_eq_getElem h]
  rfl
/-- one choice behind the other -/
def comp (P Q : List (Nat × Bool)) : List (Nat × Bool) := P.map fun p => ((Q.getD p.1 (0, false)).1, p.2 ^^ (Q.getD p.1 (0, false)).2)
theorem ap_ap {P Q : List (Nat × Bool)} (h : lt P Q.length = true) (l : List Int) : ap P (ap Q l) = ap (comp P Q) l := by
  show P.map _ = (P.map _).map _
  rw [List.map_map]
  refine List.map_congr_left fun p hp => ?_
  rw [getD_ap (lt_mem h hp)]
  show _ = cond (p.2 ^^ (Q.getD p.1 (0, false)).2) (-(l.getD (Q.getD p.1 (0, false)).1 0)) (l.getD (Q.getD p.1 (0, false)).1 0)
  generalize (Q.getD p.1 (0, false)).2 = b
  generalize p.2 = a
  cases a <;> cases b <;> simp
def idP (N : Nat) : List (Nat × Bool) := (List.range N).map fun k => (k, false)
theorem ap_id {N : Nat} {l : List Int} (h : l.length = N) : ap (idP N) l = l := by
  subst h
  unfold ap idP
  rw [List.map_map]
  refine List.ext_getElem (by simp) fun i h1 h2 => ?_
  simp [List.getD_eq_getElem?_getD, List.getElem?_eq_getElem h2]
/-- the turn that leads back -/
def backOf (W : PySem.Str) : PySem.Str := if W = PySem.Str.ofString "left" then PySem.Str.ofString "right" else if W = PySem.Str.ofString "right" then PySem.Str.ofString "left" else W
def backC (n : Int) : Bool := WORDS.all fun W => decide (backOf W ∈ WORDS) && lt (TP n (backOf W)) (TP n W).length && (comp (TP n (backOf W)) (TP n W) == idP (n * n).toNat)
theorem backC_ok {n : Int} (hn : n = 2 ∨ n = 4) : backC n = true := by
  rcases hn with rfl | rfl
  · kernel_rfl
  · kernel_rfl
theorem turn_back {n : Int} (hn : n = 2 ∨ n = 4) {W : PySem.Str} (hW : W ∈ WORDS) {ns : List Int} (hz : (ns.length : Int) = n * n) : turn n (backOf W) (turn n W ns) = ns := by
  have h := List.all_eq_true.mp (backC_ok hn) W hW
  simp only [Bool.and_eq_true, decide_eq_true_eq, beq_iff_eq] at h
  rw [turn_ap hn hW, turn_ap hn h.1.1, ap_ap h.1.2, h.2, ap_id (by omega)]
/-- two turns one behind the other are the turn that leads the marks so -/
def onesC (n : Int) : Bool := WORDS.all fun W => WORDS.all fun O => match (WORDS.take 8).filter (fun E => decide (ltu n E (rangeKs 0 (n * n).toNat) = ltu n O (ltu n W (rangeKs 0 (n * n).toNat)))) with
  | [] => false
  | one :: _ => decide (one ∈ WORDS) && lt (TP n O) (TP n W).length && (comp (TP n O) (TP n W) == TP n one)
theorem onesC_ok {n : Int} (hn : n = 2 ∨ n = 4) : onesC n = true := by
  rcases hn with rfl | rfl
  · kernel_rfl
  · kernel_rfl
theorem ones {n : Int} (hn : n = 2 ∨ n = 4) {W O : PySem.Str} (hW : W ∈ WORDS) (hO : O ∈ WORDS) : ∃ one rest, (WORDS.take 8).filter (fun E => decide (ltu n E (rangeKs 0 (n * n).toNat) = ltu n O (ltu n W (rangeKs 0 (n * n).toNat)))) = one :: rest ∧
    ∀ ns : List Int, (ns.length : Int) = n * n → turn n O (turn n W ns) = turn n one ns := by
  have h := List.all_eq_true.mp (List.all_eq_true.mp (onesC_ok hn) W hW) O hO
  split at h
  · cases h
  · rename_i one rest e
    simp only [Bool.and_eq_true, decide_eq_true_eq, beq_iff_eq] at h
    exact ⟨one, rest, e, fun ns _ => by rw [turn_ap hn hO, turn_ap hn hW, turn_ap hn h.1.1, ap_ap h.1.2, h.2]⟩
theorem turn_bound {n b : Int} (hn : n = 2 ∨ n = 4) {W : PySem.Str} (hW : W ∈ WORDS) {ns : List Int} (hb : 0 ≤ b) (h : ∀ d ∈ ns, -b ≤ d ∧ d ≤ b) : ∀ d ∈ turn n W ns, -b ≤ d ∧ d ≤ b := by
  rw [turn_ap hn hW]
  intro d hd
  obtain ⟨p, _, rfl⟩ := List.mem_map.mp hd
  have hg : -b ≤ ns.getD p.1 0 ∧ ns.getD p.1 0 ≤ b := by
    rw [List.getD_eq_getElem?_getD]
    cases e : ns[p.1]? with
    | none => exact ⟨by simp; omega, hb⟩
    | some x => exact h x (List.mem_of_getElem? e)
  cases p.2 with
  | false => exact hg
  | true => show -b ≤ -_ ∧ -_ ≤ b; omega
/-- a sum of products: the item's place, two whole numbers -/
def dot (cs : List (Nat × Int × Int)) (f : Nat → Int) : Int := cs.foldl (fun t c => t + f c.1 * c.2.1 * c.2.2) 0
/-- the samples' sums, their places read off from marks -/
def SM (n : Int) : List (List (Nat × Int × Int)) :=
  (List.range n.toNat).flatMap fun (y : Nat) => (List.range n.toNat).map fun (x : Nat) => (List.range n.toNat).flatMap fun (v : Nat) => (List.range n.toNat).map fun (u : Nat) =>
    (((blk n ((List.range (n * n).toNat).map fun (k : Nat) => (k : Int))).getD (v * n.toNat + u) 0).toNat, wave (u : Int) (x : Int) n, wave (v : Int) (y : Int) n)
theorem samp_dot {n : Int} (hn : n = 2 ∨ n = 4) (ns : List Int) : samp n ns = (SM n).map fun cs => dot cs fun k => ns.getD k 0 := by
  rcases hn with rfl | rfl
  · kernel_rfl
  · kernel_rfl
/-- the same sum by its coefficients -/
def linF : List Int → (Nat → Int) → Int
  | [], _ => 0
  | c :: cs, f => c * f 0 + linF cs fun k => f (k + 1)
def addAt : List Int → Nat → Int → List Int
  | [], _, _ => []
  | c :: cs, 0, w => (c + w) :: cs
  | c :: cs, k + 1, w => c :: addAt cs k w
theorem addAt_len : ∀ (v : List Int) (k : Nat) (w : Int), (addAt v k w).length = v.length
  | [], _, _ => rfl
  | _ :: _, 0, _ => rfl
  | _ :: v, k + 1, w => congrArg (· + 1) (addAt_len v k w)
theorem linF_addAt : ∀ (v : List Int) (k : Nat) (w : Int) (f : Nat → Int), k < v.length → linF (addAt v k w) f = linF v f + w * f k
  | [], _, _, _, h => absurd h (Nat.not_lt_zero _)
  | c :: v, 0, w, f, _ => by
    show (c + w) * f 0 + linF v _ = c * f 0 + linF v _ + w * f 0
    rw [Int.add_mul]; omega
  | c :: v, k + 1, w, f, h => by
    show c * f 0 + linF (addAt v k w) _ = c * f 0 + linF v _ + w * f (k + 1)
    rw [linF_addAt v k w _ (Nat.lt_of_succ_lt_succ h)]; omega
theorem linF_zero : ∀ (N : Nat) (f : Nat → Int), linF (List.replicate N 0) f = 0
  | 0, _ => rfl
  | N + 1, f => by
    show 0 * f 0 + linF (List.replicate N 0) _ = 0
    rw [linF_zero N]; omega
def coefs (N : Nat) (cs : List (Nat × Int × Int)) : List Int := cs.foldl (fun v c => addAt v c.1 (c.2.1 * c.2.2)) (List.replicate N 0)
def ltc (cs : List (Nat × Int × Int)) (N : Nat) : Bool := cs.all fun c => decide (c.1 < N)
theorem dot_lin_aux (f : Nat → Int) : ∀ (cs : List (Nat × Int × Int)) (v : List Int), ltc cs v.length = true → cs.foldl (fun t c => t + f c.1 * c.2.1 * c.2.2) (linF v f) = linF (cs.foldl (fun v c => addAt v c.1 (c.2.1 * c.2.2)) v) f
  | [], _, _ => rfl
  | c :: cs, v, h => by
    simp only [ltc, List.all_cons, Bool.and_eq_true, decide_eq_true_eq] at h
    rw [List.foldl_cons, List.foldl_cons, ← dot_lin_aux f cs (addAt v c.1 (c.2.1 * c.2.2)) (by rw [addAt_len]; exact h.2), linF_addAt _ _ _ _ h.1, Int.mul_assoc, Int.mul_comm (f c.1)]
theorem dot_lin {N : Nat} {cs : List (Nat × Int × Int)} (h : ltc cs N = true) (f : Nat → Int) : dot cs f = linF (coefs N cs) f := by
  have := dot_lin_aux f cs (List.replicate N 0) (by rw [List.length_replicate]; exact h)
  rw [linF_zero] at this
  exact this
/-- the sum over a choice is a sum over the items themselves -/
def tr (P : List (Nat × Bool)) (cs : List (Nat × Int × Int)) : List (Nat × Int × Int) := cs.map fun c => ((P.getD c.1 (0, false)).1, cond (P.getD c.1 (0, false)).2 (-c.2.1) c.2.1, c.2.2)
theorem dot_tr_aux (P : List (Nat × Bool)) (l : List Int) : ∀ (cs : List (Nat × Int × Int)) (t : Int), ltc cs P.length = true →
    cs.foldl (fun t c => t + (ap P l).getD c.1 0 * c.2.1 * c.2.2) t = (tr P cs).foldl (fun t c => t + l.getD c.1 0 * c.2.1 * c.2.2) t
  | [], _, _ => rfl
  | c :: cs, t, h => by
    simp only [ltc, List.all_cons, Bool.and_eq_true, decide_eq_true_eq] at h
    show cs.foldl _ (t + (ap P l).getD c.1 0 * c.2.1 * c.2.2) = (tr P cs).foldl _ (t + l.getD (P.getD c.1 (0, false)).1 0 * cond (P.getD c.1 (0, false)).2 (-c.2.1) c.2.1 * c.2.2)
    rw [dot_tr_aux P l cs _ h.2, getD_ap h.1]
    congr 3
    generalize (P.getD c.1 (0, false)).2 = b
    cases b
    · rfl
    · simp only [cond_true, Int.neg_mul_comm]
theorem dot_tr {P : List (Nat × Bool)} (l : List Int) {cs : List (Nat × Int × Int)} (h : ltc cs P.length = true) : dot cs (fun k => (ap P l).getD k 0) = dot (tr P cs) fun k => l.getD k 0 := dot_tr_aux P l cs 0 h
def sampC (n : Int) : Bool := (SM n).all (fun cs => ltc cs (n * n).toNat) && decide ((SM n).length = (n * n).toNat) && WORDS.all fun W =>
  decide ((TP n W).length = (n * n).toNat) && (SM n).all (fun cs => ltc (tr (TP n W) cs) (n * n).toNat) && (LP n W).all (fun p => decide (p.1 < (n * n).toNat) && !p.2) &&
    ((SM n).map (fun cs => coefs (n * n).toNat (tr (TP n W) cs)) == (LP n W).map fun p => coefs (n * n).toNat ((SM n).getD p.1 []))
theorem sampC_ok {n : Int} (hn : n = 2 ∨ n = 4) : sampC n = true := by
  rcases hn with rfl | rfl
  · kernel_rfl
  · kernel_rfl
theorem samp_turn {n : Int} (hn : n = 2 ∨ n = 4) {W : PySem.Str} (hW : W ∈ WORDS) {ns : List Int} (_hz : (ns.length : Int) = n * n) : samp n (turn n W ns) = ltu n W (samp n ns) := by
  have h := sampC_ok hn
  simp only [sampC, Bool.and_eq_true, decide_eq_true_eq] at h
  obtain ⟨⟨h1, h2⟩, h3⟩ := h
  have h3 := List.all_eq_true.mp h3 W hW
  simp only [Bool.and_eq_true, decide_eq_true_eq, beq_iff_eq] at h3
  obtain ⟨⟨⟨k1, k2⟩, k3⟩, k4⟩ := h3
  rw [turn_ap hn hW, ltu_ap hn hW, samp_dot hn, samp_dot hn]
  have a1 : ((SM n).map fun cs => dot cs fun k => (ap (TP n W) ns).getD k 0) = ((SM n).map fun cs => coefs (n * n).toNat (tr (TP n W) cs)).map fun v => linF v fun k => ns.getD k 0 := by
    rw [List.map_map]
    refine List.map_congr_left fun cs hc => ?_
    rw [dot_tr ns (by rw [k1]; exact List.all_eq_true.mp h1 cs hc), dot_lin (List.all_eq_true.mp k2 cs hc)]
    rfl
  rw [a1, k4, List.map_map]
  show _ = (LP n W).map _
  refine List.map_congr_left fun p hp => ?_
  have hb := List.all_eq_true.mp k3 p hp
  simp only [Bool.and_eq_true, decide_eq_true_eq, Bool.not_eq_true'] at hb
  have hl : p.1 < (SM n).length := by rw [h2]; exact hb.1
  rw [hb.2, cond_false, List.getD_eq_getElem?_getD, List.getElem?_map, List.getElem?_eq_getElem hl]
  show linF (coefs (n * n).toNat ((SM n).getD p.1 [])) (fun k => ns.getD k 0) = dot ((SM n)[p.1]) (fun k => ns.getD k 0)
  rw [List.getD_eq_getElem?_getD, List.getElem?_eq_getElem hl]
  exact (dot_lin (List.all_eq_true.mp h1 _ (List.getElem_mem hl)) _).symm
/-- two lists' items multiplied, place by place -/
def prod (a b : List Int) (k : Nat) : List Int := (List.range k).map fun j => a.getD j 0 * b.getD j 0
theorem prod_len {n : Int} (hn : n = 2 ∨ n = 4) (a b : List Int) : ((prod a b (n * n).toNat).length : Int) = n * n := by
  unfold prod; rw [List.length_map, List.length_range]; rcases hn with rfl | rfl <;> rfl
theorem prod_at {a b : List Int} {k j : Nat} (h : j < k) : (prod a b k).getD j 0 = a.getD j 0 * b.getD j 0 := by
  unfold prod
  rw [List.getD_eq_getElem?_getD, List.getElem?_map, List.getElem?_range h]
  rfl
theorem div_len {n : Int} (hn : n = 2 ∨ n = 4) (W : PySem.Str) (told : List Int) (h : (told.length : Int) = n * n) : ((if sw W = true then turn n (PySem.Str.ofString "swap") told else told).length : Int) = n * n := by
  split
  · exact turn_len hn _ _
  · exact h
/-- where the divisor stands that turned_divisors lays at a place -/
def DP (n : Int) (W : PySem.Str) (j : Nat) : Nat × Bool := if sw W = true then (TP n (PySem.Str.ofString "swap")).getD j (0, false) else (j, false)
def prodC (n : Int) : Bool := decide ((TP n (PySem.Str.ofString "swap")).length = (n * n).toNat) && WORDS.all fun W => decide ((TP n W).length = (n * n).toNat) && (List.range (n * n).toNat).all fun j =>
  ((TP n W).getD j (0, false)).1 == (DP n W j).1 && !(DP n W j).2 && decide ((DP n W j).1 < (n * n).toNat)
theorem prodC_ok {n : Int} (hn : n = 2 ∨ n = 4) : prodC n = true := by
  rcases hn with rfl | rfl
  · kernel_rfl
  · kernel_rfl
theorem turn_prod {n : Int} (hn : n = 2 ∨ n = 4) {W : PySem.Str} (hW : W ∈ WORDS) {row told : List Int} (_h1 : (row.length : Int) = n * n) (_h2 : (told.length : Int) = n * n) :
    prod (turn n W row) (if sw W = true then turn n (PySem.Str.ofString "swap") told else told) (n * n).toNat = turn n W (prod row told (n * n).toNat) := by
  have h := prodC_ok hn
  simp only [prodC, Bool.and_eq_true, decide_eq_true_eq] at h
  obtain ⟨h0, h⟩ := h
  have h := List.all_eq_true.mp h W hW
  simp only [Bool.and_eq_true, decide_eq_true_eq] at h
  obtain ⟨h1, h⟩ := h
  have dv : ∀ j, j < (n * n).toNat → (DP n W j).2 = false → (if sw W = true then turn n (PySem.Str.ofString "swap") told else told).getD j 0 = told.getD (DP n W j).1 0 := by
    intro j hj
    unfold DP
    cases sw W with
    | true =>
      simp only [if_true]
      intro hs
      rw [turn_ap hn (by simp [WORDS]) told, getD_ap (by rw [h0]; exact hj), hs]
      rfl
    | false => simp
  rw [turn_ap hn hW, turn_ap hn hW]
  refine List.ext_getElem (by unfold prod ap; rw [List.length_map, List.length_range, List.length_map, h1]) fun j q1 q2 => ?_
  have hj : j < (n * n).toNat := by unfold prod at q1; rwa [List.length_map, List.length_range] at q1
  have hc := List.all_eq_true.mp h j (List.mem_range.mpr hj)
  simp only [Bool.and_eq_true, decide_eq_true_eq, beq_iff_eq, Bool.not_eq_true'] at hc
  have e1 : ∀ (l : List Int) (q : j < l.length), l[j] = l.getD j 0 := fun l q => by rw [List.getD_eq_getElem?_getD, List.getElem?_eq_getElem q]; rfl
  rw [e1, e1, prod_at hj, getD_ap (by rw [h1]; exact hj), getD_ap (by rw [h1]; exact hj), dv j hj hc.1.2, prod_at (by rw [hc.1.1]; exact hc.2), hc.1.1]
  generalize ((TP n W).getD j (0, false)).2 = b
  cases b
  · rfl
  · simp only [cond_true, Int.neg_mul]
theorem place_led {x y ac dn : Int} {W : PySem.Str} (hW : W ∈ WORDS) : place x y ac dn W = led x y ac dn W :=
  words_all (P := fun W => place x y ac dn W = led x y ac dn W) (by kernel_rfl) (by kernel_rfl) (by kernel_rfl) (by kernel_rfl) (by kernel_rfl) (by kernel_rfl) (by kernel_rfl) (by kernel_rfl) W hW
end PL
theorem prod_step {ys : List Value} {a b : List Int} {i : Nat} {x : Int} {t : Tok} (h : IntsAre ys (PL.prod a b i)) (e : x = a.getD i 0 * b.getD i 0) : IntsAre (ys ++ [.int x t]) (PL.prod a b (i + 1)) := by
  unfold PL.prod at h ⊢
  exact ints_snoc' (ns := []) h e
end Mine
namespace Mine
local macro_rules | `(tactic| walk_at "call ref") => `(tactic| k_extra "mine")
local macro_rules | `(tactic| walk_at "eval ListComp") => `(tactic| k_extra "mine")
local macro_rules | `(tactic| walk_at "CompEnd") => `(tactic| k_extra "mine")
local macro_rules | `(tactic| walk_at "call type:tuple") => `(tactic| k_extra "mine")
local macro_rules | `(tactic| walk_at "subscriptTail Name Name ref int") => `(tactic| k_extra "mine")
local macro_rules | `(tactic| walk_at "CompSrcT") => `(tactic| k_extra "mine")
local macro_rules | `(tactic| walk_at "call type:list") => `(tactic| k_extra "mine")
local macro_rules | `(tactic| walk_at "CompSrc") => `(tactic| k_extra "mine")
local macro_rules | `(tactic| walk_at "subscriptTail Name Call ref int") => `(tactic| k_extra "mine")
local macro_rules | `(tactic| walk_at "compareOp NotEq ref ref") => `(tactic| k_extra "mine")
local macro_rules | `(tactic| walk_at "compareOp Eq ref ref") => `(tactic| k_extra "mine")
theorem news_tail {g h : Heap} {L : Addr} {a : Addr × Obj} {r : List (Addr × Obj)} (N : News g L h (a :: r)) : News g L h r := fun p hp => N p (.tail _ hp)
theorem drop1 {g h : Heap} {L : Addr} {a b : Addr × Obj} {r : List (Addr × Obj)} (N : News g L h (a :: b :: r)) : News g L h (a :: r) := fun p hp => N p (by
  rcases List.mem_cons.mp hp with rfl | hp
  · exact .head _
  · exact .tail _ (.tail _ hp))
theorem drop2 {g h : Heap} {L : Addr} {a b c : Addr × Obj} {r : List (Addr × Obj)} (N : News g L h (a :: b :: c :: r)) : News g L h (a :: r) := drop1 (drop1 N)
/-- the addresses l are all others than d (a word of our own, so that omega does not split it) -/
def NeAll (d : Nat) (l : List Nat) : Prop := ∀ a ∈ l, a ≠ d
theorem NeAll.get {d a : Nat} {l : List Nat} (h : NeAll d l) (m : a ∈ l) : @Ne Nat a d := h a m
theorem neAll_new {g h : Heap} {L r : Addr} {news : List (Addr × Obj)} (N : News g L h news) (n : h.get? r = none) : NeAll r (news.map (·.1)) := fun a ha => by
  obtain ⟨p, hp, rfl⟩ := List.mem_map.mp ha
  exact ne_of_new N n p hp
theorem neAll_off3 {I C D : Addr} : ∀ {l : List (Addr × Obj)}, LCg.Off3 I C D l → NeAll I (l.map (·.1)) ∧ NeAll C (l.map (·.1)) ∧ NeAll D (l.map (·.1))
  | _, x => ⟨fun a ha => by obtain ⟨p, hp, rfl⟩ := List.mem_map.mp ha; exact (x.mem p hp).1, fun a ha => by obtain ⟨p, hp, rfl⟩ := List.mem_map.mp ha; exact (x.mem p hp).2.1, fun a ha => by obtain ⟨p, hp, rfl⟩ := List.mem_map.mp ha; exact (x.mem p hp).2.2⟩
theorem neAll_off1 {D : Addr} : ∀ {l : List (Addr × Obj)}, LCg.Off1 D l → NeAll D (l.map (·.1))
  | [], _ => fun _ h => nomatch h
  | _ :: _, x => fun a ha => by
    rcases List.mem_cons.mp ha with rfl | ha
    · exact x.1
    · exact neAll_off1 x.2 a ha
theorem neAll_lt {d : Addr} {l : List (Addr × Obj)} (h : ∀ p ∈ l, p.1 < d) : NeAll d (l.map (·.1)) := fun a ha => by
  obtain ⟨p, hp, rfl⟩ := List.mem_map.mp ha
  exact Nat.ne_of_lt (h p hp)
theorem NeAll.tail {d a : Nat} {l : List Nat} (h : NeAll d (a :: l)) : NeAll d l := fun b hb => h b (.tail _ hb)
/-- behind turned_divisors: the tuple that came back stands first, whichever it is -/
theorem div_led {g h h' : Heap} {L r lt : Addr} {m : PySem.Str → Option Value} {dvs tvs : List Value} {kd k0 : Nat} {a : Addr × Obj} {rest : List (Addr × Obj)} (F : Fr g L h m) (N : News g L h (a :: (lt, tupOf tvs.toArray k0) :: rest))
    (k : ∀ b o, h.get? b = some o → h'.get? b = some o) (off : NeAll lt (rest.map (·.1))) (offa : @Ne Nat a.1 lt) (c : (h'.get? r = some (tupOf dvs.toArray kd) ∧ h.get? r = none) ∨ (r = lt ∧ dvs = tvs)) :
    ∃ k2, News g L h' ((r, tupOf dvs.toArray k2) :: a :: rest) ∧ NeAll r ((a :: rest).map (·.1)) := by
  rcases c with ⟨e, n⟩ | ⟨rfl, rfl⟩
  · have N' := drop1 N
    exact ⟨kd, news_add F N' k e n, neAll_new N' n⟩
  · refine ⟨k0, fun p hp => ?_, fun b hb => ?_⟩
    · refine ⟨k _ _ (N p ?_).1, (N p ?_).2⟩ <;>
      · rcases List.mem_cons.mp hp with rfl | hp
        · exact .tail _ (.head _)
        · rcases List.mem_cons.mp hp with rfl | hp
          · exact .head _
          · exact .tail _ (.tail _ hp)
    · rcases List.mem_cons.mp hb with rfl | hb
      · exact offa
      · exact off b hb
theorem updF_mem {d : Addr} {o : Obj} {l : List (Addr × Obj)} {g : Obj → List (Addr × Obj)} (U : UpdF d o l g) : (d, o) ∈ l := by
  obtain ⟨pre, post, rfl, _⟩ := U.split
  exact List.mem_append_right _ (.head _)
theorem updF_any {d : Addr} {o : Obj} {l : List (Addr × Obj)} {g : Obj → List (Addr × Obj)} (U : UpdF d o l g) : ∀ o', UpdF d o' (g o') g := by
  induction U with
  | head h => exact fun o' => .head h
  | tail h _ ih => exact fun o' => .tail h (ih o')
local macro_rules | `(tactic| k_ne) => `(tactic| (refine neN ?_; (try dsimp only); first | exact NeAll.get (by assumption) (by k_mem) | exact (NeAll.get (by assumption) (by k_mem)).symm | omega))
theorem getD_b {l : List Int} {lo hi : Int} (h : ∀ d ∈ l, lo ≤ d ∧ d ≤ hi) (h0 : lo ≤ 0 ∧ 0 ≤ hi) (k : Nat) : lo ≤ l.getD k 0 ∧ l.getD k 0 ≤ hi := by
  rw [List.getD_eq_getElem?_getD]
  cases e : l[k]? with
  | none => exact h0
  | some d => exact h d (List.mem_of_getElem? e)
theorem strs_at : ∀ {vs : List Value} {ws : List PySem.Str} (_ : StrsAre vs ws) (i : Nat) (_ : i < ws.length), ∃ W t, vs[i]? = some (.str W t) ∧ W ∈ ws
  | _, _, .nil, _, h => absurd h (Nat.not_lt_zero _)
  | _, _, .cons _ _ _, 0, _ => ⟨_, _, rfl, .head _⟩
  | _, _, .cons _ _ r, i + 1, h => let ⟨W, t, a, b⟩ := strs_at r i (Nat.lt_of_succ_lt_succ h); ⟨W, t, a, .tail _ b⟩
section
variable {prog : Program} {w : World} {A : Around} {E : Value → Shared → Prop} {s : Shared} {h₀ : Heap} {L D : Addr} {news : List (Addr × Obj)}
theorem sub_word {vs : List Value} {n : Nat} {k : Int} {u : Tok} {value slice : Expr} {Q : Value → Shared → Prop}
    (N : News h₀ L s.heap news) (hm : (D, PySem.W.listOf vs.toArray n) ∈ news) (hv : StrsAre vs WORDS) (h0 : 0 ≤ k) (h1 : k < 8) (h : ∀ W t, W ∈ WORDS → Q (.str W t) s)
    (hs : subscripted slice false (.ref D) (.int k u) = operate [.ref D, .int k u] (getItem (.ref D) (.int k u)) := by with_unfolding_all rfl) :
    wpAny (model prog w) A (subscriptTail value slice (.ref D) (.int k u)) Q E s := by
  obtain ⟨W, t, a, b⟩ := strs_at hv k.toNat (by show k.toNat < 8; omega)
  have hl : s.heap.IsList D vs.toArray := PySem.IsL.isList (n := n) (N _ hm).1
  exact tail_any hl.typeIs slot_list_getitem.lookup (wpAny_getItem_list hl h0 (by omega) (by simpa using a) (h W t b)) hs
/-- two pairs of the same ints are equal -/
theorem eq_pairK {a b : Addr} {x y : Int} {t1 t2 u1 u2 : Tok} {n k : Nat} {Q : Value → Shared → Prop} (h1 : s.heap.get? a = some (tupOf #[.int x t1, .int y t2] n)) (h2 : s.heap.get? b = some (tupOf #[.int x u1, .int y u2] k)) (hu : A.units + 64 < cLine)
    (h : Q (.bool true) s) : wpAny (model prog w) A (compareOp .Eq (.ref a) (.ref b)) Q E s := by
  have r1 := Reads.tuple h1 rfl rfl (readsAll_of_ints (h := s.heap) (vs := [.int x t1, .int y t2]) (ns := [x, y]) (.cons _ _ (.cons _ _ .nil)))
  have r2 := Reads.tuple h2 rfl rfl (readsAll_of_ints (h := s.heap) (vs := [.int x u1, .int y u2]) (ns := [x, y]) (.cons _ _ (.cons _ _ .nil)))
  have hs : PySem.SeqAt.shaped (.tuple ([x, y].map PyData.int)) = true := by
    show (PyData.canLay0 (.tuple ([x, y].map PyData.int)) && decide (PyData.depth (.tuple ([x, y].map PyData.int)) ≤ 64)) = true
    rw [Bool.and_eq_true]
    have := PySem.W.depthAll_ints [x, y]
    exact ⟨by simp only [PyData.canLay0]; exact canLayAll0_ints _, decide_eq_true (by simp only [PyData.depth]; omega)⟩
  exact eq_dataH_same r1 r2 hs hs hu (by simp only [PySem.SeqAt.noMix]; exact noMix_ints _ _) (by simp only [PySem.Spec.same]; rw [same_ints, decide_eq_true rfl]; exact h)
theorem sub_tup {vs : List Value} {ns : List Int} {n : Nat} {k : Int} {u : Tok} {value slice : Expr} {Q : Value → Shared → Prop}
    (N : News h₀ L s.heap news) (hm : (D, tupOf vs.toArray n) ∈ news) (hi : IntsAre vs ns) (h0 : 0 ≤ k) (h1 : k < ns.length) (hz : ns.length ≤ 64) (h : ∀ t, Q (.int (ns.getD k.toNat 0) t) s)
    (hs : subscripted slice false (.ref D) (.int k u) = operate [.ref D, .int k u] (getItem (.ref D) (.int k u)) := by with_unfolding_all rfl) :
    wpAny (model prog w) A (subscriptTail value slice (.ref D) (.int k u)) Q E s := by
  have hlen := hi.length
  have hk : k.toNat < vs.length := by omega
  obtain ⟨t, ht⟩ := hi.int_at k.toNat _ (List.getElem?_eq_getElem hk)
  have hl : IsTup s.heap D vs.toArray := ⟨_, (N _ hm).1, rfl, _, rfl⟩
  exact item_tupleT hl (by omega) (by omega) (seqIndex_of h0 (by omega)) ((List.getElem?_eq_getElem hk).trans (by rw [ht])) (h t) hs
theorem ne_eqK {a b : Addr} {vs us : List Value} {ns ms : List Int} {Q : Value → Shared → Prop} (hl : s.heap.IsList a vs.toArray) (hi : IntsAre vs ns) (hl' : s.heap.IsList b us.toArray) (hi' : IntsAre us ms) (hu : A.units + 64 < cLine) (e : ns = ms)
    (h : Q (.bool false) s) : wpAny (model prog w) A (compareOp .NotEq (.ref a) (.ref b)) Q E s := ne_intsK hl hi hl' hi' hu (by rw [decide_eq_true e]; exact h)
end
theorem flat_of {v : Value} {d : PyData} {B : PySem.Str} (h : PyProof.V.Flat v d) (e : d = PyData.str B) : ∃ t, v = .str B t := PyProof.V.Flat.str_inv (e ▸ h)
theorem with_led {h₀ h : Heap} {L src : Addr} {news : List (Addr × Obj)} {o : Obj} {g : Obj → List (Addr × Obj)} {P : Prop} (N : News h₀ L h news) (U : UpdF src o news g)
    (k : ∀ G : Obj → List (Addr × Obj), G = g → (∀ o', UpdF src o' (G o') G) → News h₀ L h (G o) → P) : P := k g rfl (updF_any U) (by
  obtain ⟨pre, post, rfl, hg, _, _⟩ := U.split
  rw [hg]; exact N)
/-- the ledger of a comprehension's turn, its draw done -/
theorem comp_put {h₀ h h' : Heap} {L src I C D : Addr} {oI oC oD o o' : Obj} {m : PySem.Str → Option Value} {G : Obj → List (Addr × Obj)} (F : Fr h₀ L h m) (U : ∀ o', UpdF src o' (G o') G) (N : News h₀ L h ((I, oI) :: (C, oC) :: (D, oD) :: G o)) (off : LCg.Off3 I C D (G o))
    (k : ∀ b ob, h.get? b = some ob → b ≠ src → h'.get? b = some ob) (e : h'.get? src = some o') : Fr h₀ L h' m ∧ News h₀ L h' ((I, oI) :: (C, oC) :: (D, oD) :: G o') := by
  have z := off.mem _ (updF_mem (U o))
  exact led_put F N (.tail (Ne.symm z.1) (.tail (Ne.symm z.2.1) (.tail (Ne.symm z.2.2) (U o)))) k e
theorem off_put {src I C D : Addr} {o o' : Obj} {G : Obj → List (Addr × Obj)} (U : ∀ o', UpdF src o' (G o') G) (off : LCg.Off3 I C D (G o)) : LCg.Off3 I C D (G o') := by
  obtain ⟨pre, post, e, hg, _, _⟩ := (U o).split
  rw [e] at off
  rw [hg o']
  refine LCg.Off3.of fun p hp => ?_
  rcases List.mem_append.mp hp with q | q
  · exact off.mem p (List.mem_append_left _ q)
  · rcases List.mem_cons.mp q with rfl | q
    · exact off.mem (src, o) (List.mem_append_right _ (.head _))
    · exact off.mem p (List.mem_append_right _ (.tail _ q))
theorem nn_size {n : Int} (hn : n = 2 ∨ n = 4) : Builtin.Range.rangeSize 0 (n * n) 1 = ((n * n).toNat : Int) := by rcases hn with rfl | rfl <;> rfl
theorem nn_len {n : Int} {l : List Int} (hn : n = 2 ∨ n = 4) (h : l.length = (n * n).toNat) : (l.length : Int) = n * n := by rcases hn with rfl | rfl <;> (rw [h]; rfl)
theorem nn_le {n : Int} (hn : n = 2 ∨ n = 4) : (n * n).toNat ≤ 16 := by rcases hn with rfl | rfl <;> decide
theorem menu_n {k : Int} (h0 : 0 ≤ k) (h1 : k < 3) : ([2, 2, 4] : List Int).getD k.toNat 0 = 2 ∨ ([2, 2, 4] : List Int).getD k.toNat 0 = 4 := by
  obtain rfl | rfl | rfl : k = 0 ∨ k = 1 ∨ k = 2 := by omega
  · exact .inl rfl
  · exact .inl rfl
  · exact .inr rfl
theorem strs_get : ∀ {vs : List Value} {ws : List PySem.Str} (_ : StrsAre vs ws) (i : Nat) {v : Value}, vs[i]? = some v → ∃ W t, v = .str W t ∧ ws[i]? = some W
  | _, _, .nil, _, _, h => by cases h
  | _, _, .cons _ _ _, 0, _, h => by cases h; exact ⟨_, _, rfl, rfl⟩
  | _, _, .cons _ _ r, i + 1, _, h => strs_get r i h
theorem strs_app : ∀ {vs us : List Value} {ws xs : List PySem.Str}, StrsAre vs ws → StrsAre us xs → StrsAre (vs ++ us) (ws ++ xs)
  | _, _, _, _, .nil, h => h
  | _, _, _, _, .cons y t r, h => .cons y t (strs_app r h)
theorem strs_yes {vs : List Value} {ws : List PySem.Str} {i : Nat} {W : PySem.Str} {t : Tok} {p : PySem.Str → Bool} (h : StrsAre vs ((ws.take i).filter p)) (e : ws[i]? = some W) (hp : p W = true) : StrsAre (vs ++ [.str W t]) ((ws.take (i + 1)).filter p) := by
  rw [List.take_add_one, e, List.filter_append]
  simp only [Option.toList_some, List.filter_cons, hp, if_true, List.filter_nil]
  exact strs_app h (.cons _ _ .nil)
theorem strs_no {vs : List Value} {ws : List PySem.Str} {i : Nat} {W : PySem.Str} {p : PySem.Str → Bool} (h : StrsAre vs ((ws.take i).filter p)) (e : ws[i]? = some W) (hp : ¬ p W = true) : StrsAre vs ((ws.take (i + 1)).filter p) := by
  rw [List.take_add_one, e, List.filter_append]
  simp only [Option.toList_some, List.filter_cons, hp, Bool.false_eq_true, if_false, List.filter_nil, List.append_nil]
  exact h
theorem strs_cons {vs : List Value} {W : PySem.Str} {ws : List PySem.Str} (h : StrsAre vs (W :: ws)) : ∃ t us, vs = .str W t :: us := by
  cases h; exact ⟨_, _, rfl⟩
section
open PySem.Spec PySem.Calls LCg LCt
variable {prog : Program} {w : World} {A : Around} {E : Value → Shared → Prop} {s : Shared} {h₀ : Heap} {L : Addr} {m : PySem.Str → Option Value} {env : Env}
/-- the items of a comprehension with a test, by what holds of what is made so far -/
theorem comp_indT {ct elt : Expr} {x : PySem.Str} {scope : Scope} {cl : List (PySem.Str × Addr)} {S : List (Addr × Obj) → Prop} {P : Nat → Value → Prop} {Fin : List Value → List (Addr × Obj) → Prop} (Inv : Nat → List Value → List (Addr × Obj) → Prop) {n : Nat}
    (fin : ∀ ys news, Inv n ys news → Fin ys news)
    (step : ∀ i ys news v I oI C oC D m₂ h tk (E' : Value → Shared → Prop), i < n → Inv i ys news → P i v → NsObj oC m₂ → m₂ x = some v → Fr h₀ L h m → News h₀ L h ((I, oI) :: (C, oC) :: (D, lst ys) :: news) → Off3 I C D news → ((@Ne Nat I C) ∧ (@Ne Nat I D) ∧ (@Ne Nat C D)) →
      wpAny (model prog w) A (isTrue ct (compEnvC scope cl C env) (eval ct (compEnvC scope cl C env))) (fun ok s' => if ok = true then
        wpAny (model prog w) A (eval elt (compEnvC scope cl C env)) (CompEnd h₀ L m { s with heap := h, toks := tk } I oI C oC D (lst ys) S (fun y news' => Inv (i + 1) (ys ++ [y]) news')) E' s'
        else CompEnd h₀ L m { s with heap := h, toks := tk } I oI C oC D (lst ys) S (fun _ news' => Inv (i + 1) ys news') Value.none s') E' { s with heap := h, toks := tk }) :
    ∀ k i ys news, i + k = n → Inv i ys news → CompRestT prog w A h₀ L m env ct elt x scope cl s S P Fin k i ys news := by
  intro k
  induction k with
  | zero => intro i ys news e hi; exact CompRestT.zero (fin ys news (by have : i = n := e; exact this ▸ hi))
  | succ k ih =>
    intro i ys news e hi
    refine CompRestT.succ fun v I oI C oC D m₂ h tk E' hP hC hx F N off ne => ?_
    refine wpAny_mono (step i ys news v I oI C oC D m₂ h tk E' (by omega) hi hP hC hx F N off ne) (fun ok s₂ z => ?_) fun _ _ z => z
    cases ok with
    | true =>
      rw [if_pos rfl] at z ⊢
      refine wpAny_mono z (fun y s₃ z => ?_) fun _ _ z => z
      obtain ⟨h', tk', news', e', F', N', o', hS, r⟩ := z
      exact ⟨h', tk', news', e', F', N', o', hS, ih (i + 1) (ys ++ [y]) news' (by omega) r⟩
    | false =>
      rw [if_neg Bool.false_ne_true] at z ⊢
      obtain ⟨h', tk', news', e', F', N', o', hS, r⟩ := z
      exact ⟨h', tk', news', e', F', N', o', hS, ih (i + 1) ys news' (by omega) r⟩
end
set_option maxRecDepth 100000 in
set_option maxHeartbeats 8000000 in
theorem law_ok : ∀ (w : World) (mean : ExcName → Option Value) (mg mb : PySem.Str → Option Value) (s : Shared) (Q E : Value → Shared → Prop)
  (l : Addr) (vs : List Value) (ns : List Int)
  (_ : (Mine.KF w.params).In s.heap) (_ : Top Mine.VW (looseW Mine.VW [PySem.Str.ofString "ORDER_8"]) mean mg mb s.heap)
  (_ : s.heap.IsList l vs.toArray) (_ : IntsAre vs ns) (_ : ns.length ≤ 63)
  (_ : ∀ (L : Addr) (m : PySem.Str → Option Value) (h' : Heap) (tk' : Nat), Fr s.heap L h' m → Q (.bool true) { s with heap := h', toks := tk' }),
  wpAny (model PySem.Challenge.rw_nt0539_01.row.prog w) callerA (call (.ref 329) [.ref l]) Q E s := by
  k_fill
  rintro w mean mg mb s Q E l vs ns KX T hl hi hn ret
  refine wpAny_call ?_
  k_dflt (refine' enterTop (binds := [(PySem.Str.ofString "script", .ref l)]) ?kK ?kT ?k6 ?k7 ?k8 ?k9 ?kB ?kD ?_ ?c2 ?c3 ?c4; (case kK => k_asm); (case kT => k_asm); (case k6 => k_is); (case k7 => k_is); (case k8 => decide); (case k9 => exact BindsTo.of_eq (by kernel_rfl)); (case kB => exact rfl); (case kD => decide +kernel); (case c2 => exact rfl); (case c3 => exact rfl); (case c4 => exact rfl); k_whole)
  intro L' h₁ tk cells hL F' N' Y' B'
  obtain ⟨o1, o2, o3, o4, o5, o6, o7, o8, rfl, d1, d2, d3, d4, d5, d6, d7, d8⟩ := cells8 Y'
  clear Y'
  replace d1 : o1.data = .cell none := d1
  replace d2 : o2.data = .cell none := d2
  replace d3 : o3.data = .cell none := d3
  replace d4 : o4.data = .cell none := d4
  replace d5 : o5.data = .cell none := d5
  replace d6 : o6.data = .cell none := d6
  replace d7 : o7.data = .cell none := d7
  replace d8 : o8.data = .cell none := d8
  (try dsimp only)
  (try k_fold)
  k_with "mine" => refine Stop.out ?_
  k_steps
  refine Stop.mk ?_
  rename Fr _ _ _ _ => F1
  rename News _ _ _ _ => N1
  refine pool_ok w mean mg mb _ _ _ _ _ _ _ _ _ _ _ _ _ _ _ _ _ _ _ _ _ ⟨by assumption, F1, by assumption, by assumption, rfl, by decide, by decide⟩ (by assumption) News.nil  ((hl.at fun o e => F1.keep _ _ e)) (hi) (hn) ?_
  intro x9 y9 t1 t2 src n9 h9 tk9 hk9 hx0 hy0 hy1 hr9 hn9
  have F2 := fr_back F1 hk9
  have N2 := news_add F1 N1 hk9 hr9 hn9
  have l9 := neAll_new N1 hn9
  dsimp only [List.map] at l9
  clear F1 N1 hk9 hn9 hr9
  (try dsimp only)
  (try k_unfold)
  (try dsimp only)
  (try k_fold)
  k_steps
  refine Stop.mk ?_
  rename Fr _ _ _ _ => F1
  rename News _ _ _ _ => N1
  refine take_ok w mean mg mb _ _ _ _ _ _ _ _ _ _ _ _ _ _ _ _ _ src _ _ _ _ _ _ _ ⟨by assumption, F1, by assumption, by assumption, rfl, by decide, by decide⟩ (by assumption) (fun p hp => N1 p (by rw [List.mem_singleton.mp hp]; k_mem)) (by omega) (by omega) hy0 hy1 hx0 ?_
  clear hx0 hy0 hy1
  intro k1 x' y' t9 t1' t2' n' h9 tk9 k10 k11 hx0 hy0 hy1 hk9 he9
  obtain ⟨F2, N2⟩ := led_put (src := src) F1 N1 (by k_updF) hk9 he9
  clear F1 N1 hk9 he9
  (try dsimp only at N2)
  (try dsimp only)
  (try k_unfold)
  (try dsimp only)
  (try k_fold)
  k_steps
  refine Stop.mk ?_
  rename Fr _ _ _ _ => F1
  rename News _ _ _ _ => N1
  refine take_ok w mean mg mb _ _ _ _ _ _ _ _ _ _ _ _ _ _ _ _ _ src _ _ _ _ _ _ _ ⟨by assumption, F1, by assumption, by assumption, rfl, by decide, by decide⟩ (by assumption) (fun p hp => N1 p (by rw [List.mem_singleton.mp hp]; k_mem)) (by omega) (by omega) hy0 hy1 hx0 ?_
  clear hx0 hy0 hy1
  intro k2 x' y' t9 t1' t2' n' h9 tk9 k20 k21 hx0 hy0 hy1 hk9 he9
  obtain ⟨F2, N2⟩ := led_put (src := src) F1 N1 (by k_updF) hk9 he9
  clear F1 N1 hk9 he9
  (try dsimp only at N2)
  (try dsimp only)
  (try k_unfold)
  (try dsimp only)
  (try k_fold)
  k_steps
  refine Stop.mk ?_
  rename News _ _ _ _ => N1
  k_dflt (refine sub_word N1 (by k_mem) (by unfold WORDS; repeat constructor) k20 k21 ?_)
  intro W Wt Wm
  (try dsimp only)
  (try k_unfold)
  (try dsimp only)
  (try k_fold)
  k_steps
  obtain ⟨n, hn1, hn2⟩ : ∃ n : Int, ([2, 2, 4] : List Int).getD k1.toNat 0 = n ∧ (n = 2 ∨ n = 4) := ⟨_, rfl, menu_n k10 k11⟩
  simp only [hn1] at *
  clear hn1 k10 k11 hi hn hl
  refine Stop.mk ?_
  rename Fr _ _ _ _ => F1
  k_dflt (refine LCg.ListComp_U F1 (by with_unfolding_all rfl) (by decide) (by rfl) (by decide) (by rfl) ?_)
  (try k_fold)
  k_steps
  refine Stop.mk ?_
  rename Fr _ _ _ _ => F1
  rename News _ _ _ _ => N1
  rename IsRange _ _ _ _ _ _ _ _ => R1
  refine with_led (src := src) N1 (by k_updF) ?_
  clear N1
  intro G hG U N1
  refine LCg.CompSrc.range (by rfl) F1 N1 R1 (by exact small_one (by omega) (by omega) (by rcases hn2 with rfl | rfl <;> decide) (by rcases hn2 with rfl | rfl <;> decide)) (nn_size hn2) (by have := nn_le hn2; rw [sizeLine_eq]; omega) ?_
  clear F1 N1 R1
  intro g9
  refine comp_ind (n := (n * n).toNat) (fun i ys news => ∃ x y t1 t2 k ds, news = G (PySem.W.listOf #[.int x t1, .int y t2] k) ∧ 0 ≤ x ∧ 0 ≤ y ∧ y < 2147483647 ∧ IntsAre ys ds ∧ ds.length = i ∧ ∀ d ∈ ds, -20 ≤ d ∧ d ≤ 20) ?_ ?_ _ 0 [] _ (Nat.zero_add _) ⟨_, _, _, _, _, [], rfl, hx0, hy0, hy1, .nil, rfl, fun _ h => nomatch h⟩
  rotate_left
  · clear hx0 hy0 hy1
    rintro i ys news v I oI C oC D m₂ h tk E' hi9 ⟨x', y', t1, t2, k9, ds, rfl, hx0, hy0, hy1, hds, hdl, hdb⟩ hP hC hx F3 N3 off ne
    clear ne
    simp only [hG] at N3
    obtain ⟨t0, rfl⟩ := hP
    (try k_fold)
    k_steps
    refine Stop.mk ?_
    rename Fr _ _ _ _ => F1
    rename News _ _ _ _ => N1
    refine take_ok w mean mg mb _ _ _ _ _ _ _ _ _ _ _ _ _ _ _ _ _ src _ _ _ _ _ _ _ ⟨by assumption, F1, by assumption, by assumption, rfl, by decide, by decide⟩ (by assumption) (fun p hp => N1 p (by rw [List.mem_singleton.mp hp]; k_mem)) (by omega) (by omega) hy0 hy1 hx0 ?_
    clear hx0 hy0 hy1
    intro k3 x' y' t9 t1' t2' n' h9 tk9 k30 k31 hx0 hy0 hy1 hk9 he9
    obtain ⟨F2, N2⟩ := comp_put (G := G) F1 U (by rw [hG]; exact N1) off hk9 he9
    replace off := off_put (o' := PySem.W.listOf #[.int x' t1', .int y' t2'] n') U off
    clear F1 N1 hk9 he9
    simp only [hG] at N2
    (try dsimp only)
    (try k_unfold)
    (try dsimp only)
    (try k_fold)
    k_steps
    refine Stop.mk ?_
    rename Fr _ _ _ _ => F4
    rename News _ _ _ _ => N4
    exact LCg.CompEnd.intro F4 N4 (G (PySem.W.listOf #[.int x' t1', .int y' t2'] n')) (by rw [hG]; exact fun _ h => h) off trivial ⟨x', y', t1', t2', n', ds ++ [k3 - 20], rfl, hx0, hy0, hy1, hds.append (.cons _ _ .nil), by rw [List.length_append, hdl]; rfl, fun d hd => (List.mem_append.mp hd).elim (hdb d) fun h => by rw [List.mem_singleton.mp h]; omega⟩
  clear hx0 hy0 hy1
  rintro rowvs news ⟨x', y', t1, t2, n', row, rfl, hx0, hy0, hy1, hrow, hrowl, hrowb⟩ lrow h tk F2 N2 off
  simp only [hG] at N2
  replace off := neAll_off1 off
  simp only [hG, List.map] at off
  clear U hG G
  have hrowz := nn_len hn2 hrowl
  have hrowv : rowvs.length ≤ 16 := by rw [hrow.length, hrowl]; exact nn_le hn2
  replace N2 : News _ _ _ ((lrow, PySem.W.listOf rowvs.toArray rowvs.length) :: _) := N2
  replace N2 := drop2 N2
  (try dsimp only)
  (try k_unfold)
  (try dsimp only)
  (try k_fold)
  k_steps
  refine Stop.mk ?_
  rename Fr _ _ _ _ => F1
  rename News _ _ _ _ => N1
  refine trow_ok w mean mg mb _ _ _ _ _ _ _ _ _ _ _ _ _ _ _ _ _ _ _ _ _ _ _ _ ⟨by assumption, F1, by assumption, by assumption, rfl, by decide, by decide⟩ (by assumption) hn2 (⟨_, (N1 (lrow, PySem.W.listOf rowvs.toArray rowvs.length) (by k_mem)).1, rfl, _, rfl⟩) (hrow) (hrowz) ?_
  intro lvs lr ln h9 tk9 hk9 hlat hr9 hn9
  have F2 := fr_back F1 hk9
  have N2 := news_add F1 N1 hk9 hr9 hn9
  have lla := neAll_new N1 hn9
  dsimp only [List.map] at lla
  clear F1 N1 hk9 hn9 hr9
  (try dsimp only)
  (try k_unfold)
  (try dsimp only)
  (try k_fold)
  k_steps
  have hlatz := PL.turn_len hn2 W row
  refine Stop.mk ?_
  rename Fr _ _ _ _ => F1
  rename News _ _ _ _ => N1
  refine samp_ok w mean mg mb _ _ _ _ _ _ _ _ _ _ _ _ _ _ _ _ _ _ _ _ _ _ ⟨by assumption, F1, by assumption, by assumption, rfl, by decide, by decide⟩ (by assumption) hn2 (⟨_, (N1 (lr, PySem.W.listOf lvs.toArray ln) (by k_mem)).1, rfl, _, rfl⟩) (hlat) (hlatz) ?_
  intro vs1 r1 n1 h9 tk9 hk9 hv1 hr9 hn9
  have F2 := fr_back F1 hk9
  have N2 := news_add F1 N1 hk9 hr9 hn9
  have llb := neAll_new N1 hn9
  dsimp only [List.map] at llb
  clear F1 N1 hk9 hn9 hr9
  (try dsimp only)
  (try k_unfold)
  (try dsimp only)
  (try k_fold)
  k_steps
  refine Stop.mk ?_
  rename Fr _ _ _ _ => F1
  rename News _ _ _ _ => N1
  refine samp_ok w mean mg mb _ _ _ _ _ _ _ _ _ _ _ _ _ _ _ _ _ _ _ _ _ _ ⟨by assumption, F1, by assumption, by assumption, rfl, by decide, by decide⟩ (by assumption) hn2 (⟨_, (N1 (lrow, PySem.W.listOf rowvs.toArray rowvs.length) (by k_mem)).1, rfl, _, rfl⟩) (hrow) (hrowz) ?_
  intro vs2 r2 n2 h9 tk9 hk9 hv2 hr9 hn9
  have F2 := fr_back F1 hk9
  have N2 := news_add F1 N1 hk9 hr9 hn9
  have llc := neAll_new N1 hn9
  dsimp only [List.map] at llc
  clear F1 N1 hk9 hn9 hr9
  (try dsimp only)
  (try k_unfold)
  (try dsimp only)
  (try k_fold)
  k_steps
  refine Stop.mk ?_
  rename Fr _ _ _ _ => F1
  rename News _ _ _ _ => N1
  refine ltu_ok w mean mg mb _ _ _ _ _ _ _ _ _ _ _ _ _ _ _ _ _ _ _ _ _ _ _ _ ⟨by assumption, F1, by assumption, by assumption, rfl, by decide, by decide⟩ (by assumption) hn2 (⟨_, (N1 (r2, PySem.W.listOf vs2.toArray n2) (by k_mem)).1, rfl, _, rfl⟩) (hv2) ((PL.samp_len hn2 _)) ?_
  intro vs3 r3 n3 h9 tk9 hk9 hv3 hr9 hn9
  have F2 := fr_back F1 hk9
  have N2 := news_add F1 N1 hk9 hr9 hn9
  have lld := neAll_new N1 hn9
  dsimp only [List.map] at lld
  clear F1 N1 hk9 hn9 hr9
  (try dsimp only)
  (try k_unfold)
  (try dsimp only)
  (try k_fold)
  k_steps
  refine Stop.mk ?_
  rename Fr _ _ _ _ => F1
  rename News _ _ _ _ => N1
  refine ne_eqK ⟨_, (N1 (r1, PySem.W.listOf vs1.toArray n1) (by k_mem)).1, rfl, _, rfl⟩ hv1 ⟨_, (N1 (r3, PySem.W.listOf vs3.toArray n3) (by k_mem)).1, rfl, _, rfl⟩ hv3 (show 7 + 64 < cLine by decide) (PL.samp_turn hn2 Wm hrowz) ?_
  (try dsimp only)
  (try k_unfold)
  (try dsimp only)
  (try k_fold)
  k_steps
  rename PyProof.V.Flat _ _ => hF
  obtain ⟨Bt, hBt⟩ := flat_of (B := PL.backOf W) hF (by have hW := Wm; simp only [WORDS, List.mem_cons, List.not_mem_nil, or_false] at hW; rcases hW with h | h | h | h | h | h | h | h <;> rw [h] <;> kernel_rfl)
  subst hBt
  rename PyProof.V.FlatPairs _ _ _ => hF2
  rename Obj.IsDictOf _ _ _ => hF3
  clear hF hF2 hF3
  refine Stop.mk ?_
  rename Fr _ _ _ _ => F1
  rename News _ _ _ _ => N1
  replace N1 := news_tail (news_tail (news_tail (news_tail (N1))))
  clear llb llc lld hv1 hv2 hv3
  refine trow_ok w mean mg mb _ _ _ _ _ _ _ _ _ _ _ _ _ _ _ _ _ _ _ _ _ _ _ _ ⟨by assumption, F1, by assumption, by assumption, rfl, by decide, by decide⟩ (by assumption) hn2 (⟨_, (N1 (lr, PySem.W.listOf lvs.toArray ln) (by k_mem)).1, rfl, _, rfl⟩) (hlat) (hlatz) ?_
  intro vs4 r4 n4 h9 tk9 hk9 hv4 hr9 hn9
  have F2 := fr_back F1 hk9
  have N2 := news_add F1 N1 hk9 hr9 hn9
  have lle := neAll_new N1 hn9
  dsimp only [List.map] at lle
  clear F1 N1 hk9 hn9 hr9
  (try dsimp only)
  (try k_unfold)
  (try dsimp only)
  (try k_fold)
  k_steps
  refine Stop.mk ?_
  rename Fr _ _ _ _ => F1
  rename News _ _ _ _ => N1
  refine ne_eqK ⟨_, (N1 (r4, PySem.W.listOf vs4.toArray n4) (by k_mem)).1, rfl, _, rfl⟩ hv4 ⟨_, (N1 (lrow, PySem.W.listOf rowvs.toArray rowvs.length) (by k_mem)).1, rfl, _, rfl⟩ hrow (show 7 + 64 < cLine by decide) (PL.turn_back hn2 Wm hrowz) ?_
  (try dsimp only)
  (try k_unfold)
  (try dsimp only)
  (try k_fold)
  k_steps
  refine Stop.mk ?_
  rename Fr _ _ _ _ => F1
  rename News _ _ _ _ => N1
  replace N1 := news_tail (N1)
  clear lle hv4
  refine take_ok w mean mg mb _ _ _ _ _ _ _ _ _ _ _ _ _ _ _ _ _ src _ _ _ _ _ _ _ ⟨by assumption, F1, by assumption, by assumption, rfl, by decide, by decide⟩ (by assumption) (fun p hp => N1 p (by rw [List.mem_singleton.mp hp]; k_mem)) (by omega) (by omega) hy0 hy1 hx0 ?_
  clear hx0 hy0 hy1
  intro k4 x' y' t9 t1' t2' n' h9 tk9 k40 k41 hx0 hy0 hy1 hk9 he9
  obtain ⟨F2, N2⟩ := led_put (src := src) F1 N1 (by k_updF) hk9 he9
  clear F1 N1 hk9 he9
  (try dsimp only at N2)
  (try dsimp only)
  (try k_unfold)
  (try dsimp only)
  (try k_fold)
  k_steps
  refine Stop.mk ?_
  rename News _ _ _ _ => N1
  k_dflt (refine sub_word N1 (by k_mem) (by unfold WORDS; repeat constructor) k40 k41 ?_)
  intro O Ot Om
  (try dsimp only)
  (try k_unfold)
  (try dsimp only)
  (try k_fold)
  k_steps
  refine Stop.mk ?_
  rename Fr _ _ _ _ => F1
  rename News _ _ _ _ => N1
  rename IsRange _ _ _ _ _ _ _ _ => R1
  refine kll_range (n := (n * n).toNat) rfl F1 N1 R1 (by exact small_one (by omega) (by omega) (by rcases hn2 with rfl | rfl <;> decide) (by rcases hn2 with rfl | rfl <;> decide)) (nn_size hn2) (by have := nn_le hn2; omega) ?_
  clear F1 N1 R1
  intro lm mvs mc h9 tk9 F2 N2 l1 hmk
  k_lt l1
  have hmz : ((rangeKs 0 (n * n).toNat).length : Int) = n * n := nn_len hn2 (rangeKs_length _ _)
  (try dsimp only)
  (try k_unfold)
  (try dsimp only)
  (try k_fold)
  k_steps
  refine Stop.mk ?_
  rename Fr _ _ _ _ => F1
  rename News _ _ _ _ => N1
  refine ltu_ok w mean mg mb _ _ _ _ _ _ _ _ _ _ _ _ _ _ _ _ _ _ _ _ _ _ _ _ ⟨by assumption, F1, by assumption, by assumption, rfl, by decide, by decide⟩ (by assumption) hn2 (⟨_, (N1 (lm, PySem.W.listOf mvs.toArray mc) (by k_mem)).1, rfl, _, rfl⟩) (hmk) (hmz) ?_
  intro vs5 r5 n5 h9 tk9 hk9 hv5 hr9 hn9
  have F2 := fr_back F1 hk9
  have N2 := news_add F1 N1 hk9 hr9 hn9
  have llf := neAll_new N1 hn9
  dsimp only [List.map] at llf
  clear F1 N1 hk9 hn9 hr9
  (try dsimp only)
  (try k_unfold)
  (try dsimp only)
  (try k_fold)
  k_steps
  refine Stop.mk ?_
  rename Fr _ _ _ _ => F1
  rename News _ _ _ _ => N1
  refine ltu_ok w mean mg mb _ _ _ _ _ _ _ _ _ _ _ _ _ _ _ _ _ _ _ _ _ _ _ _ ⟨by assumption, F1, by assumption, by assumption, rfl, by decide, by decide⟩ (by assumption) hn2 (⟨_, (N1 (r5, PySem.W.listOf vs5.toArray n5) (by k_mem)).1, rfl, _, rfl⟩) (hv5) ((PL.ltu_len hn2 _ _)) ?_
  intro bvs lb bn h9 tk9 hk9 hboth hr9 hn9
  have F2 := fr_back F1 hk9
  have N2 := news_add F1 N1 hk9 hr9 hn9
  have llg := neAll_new N1 hn9
  dsimp only [List.map] at llg
  clear F1 N1 hk9 hn9 hr9
  (try dsimp only)
  (try k_unfold)
  (try dsimp only)
  (try k_fold)
  k_steps
  refine Stop.mk ?_
  rename Fr _ _ _ _ => F1
  rename News _ _ _ _ => N1
  replace N1 := drop1 N1
  clear llf hv5
  k_dflt (refine LCt.ListComp_T F1 (by with_unfolding_all rfl) (by decide) (by rfl) (by decide) (by rfl) ?_)
  (try k_fold)
  k_steps
  refine Stop.mk ?_
  rename Fr _ _ _ _ => F1
  rename News _ _ _ _ => N1
  refine with_led (src := src) N1 (by k_updF) ?_
  clear N1
  intro G hG U N1
  refine LCt.CompSrcT.ledger (by rfl) F1 N1 (by rw [hG]; k_mem) (by show 8 ≤ sizeLine; rw [sizeLine_eq]; decide) ?_
  clear F1 N1
  intro g9
  refine comp_indT (n := 8) (fun i ys news => news = G (PySem.W.listOf #[.int x' t1', .int y' t2'] n') ∧ StrsAre ys ((WORDS.take i).filter fun E => decide (ltu n E (rangeKs 0 (n * n).toNat) = ltu n O (ltu n W (rangeKs 0 (n * n).toNat))))) ?_ ?_ _ 0 [] _ rfl ⟨rfl, .nil⟩
  rotate_left
  · rintro i ys news v I oI C oC D m₂ h tk E' hi9 ⟨rfl, hys⟩ hP hC hx F3 N3 off ne
    clear ne
    simp only [List.getElem?_toArray] at hP
    obtain ⟨E0, t0, rfl, hE⟩ := strs_get (ws := WORDS) (by unfold WORDS; repeat constructor) i hP
    simp only [hG] at N3
    (try k_fold)
    k_steps
    refine Stop.mk ?_
    rename Fr _ _ _ _ => F1
    rename News _ _ _ _ => N1
    refine ltu_ok w mean mg mb _ _ _ _ _ _ _ _ _ _ _ _ _ _ _ _ _ _ _ _ _ _ _ _ ⟨by assumption, F1, by assumption, by assumption, rfl, by decide, by decide⟩ (by assumption) hn2 (⟨_, (N1 (lm, PySem.W.listOf mvs.toArray mc) (by k_mem)).1, rfl, _, rfl⟩) (hmk) (hmz) ?_
    intro vs6 r6 n6 h9 tk9 hk9 hv6 hr9 hn9
    have F2 := fr_back F1 hk9
    have N2 := news_add F1 N1 hk9 hr9 hn9
    have llh := neAll_new N1 hn9
    dsimp only [List.map] at llh
    clear F1 N1 hk9 hn9 hr9
    (try dsimp only)
    (try k_unfold)
    (try dsimp only)
    (try k_fold)
    k_steps
    refine Stop.mk ?_
    rename Fr _ _ _ _ => F1
    rename News _ _ _ _ => N1
    refine eq_intsK ⟨_, (N1 (r6, PySem.W.listOf vs6.toArray n6) (by k_mem)).1, rfl, _, rfl⟩ hv6 ⟨_, (N1 (lb, PySem.W.listOf bvs.toArray bn) (by k_mem)).1, rfl, _, rfl⟩ hboth (show 7 + 64 < cLine by decide) ?_
    (try dsimp only)
    (try k_unfold)
    (try dsimp only)
    (try k_fold)
    k_steps
    all_goals (
      refine Stop.mk ?_
      rename Fr _ _ _ _ => F4
      rename News _ _ _ _ => N4)
    · exact LCg.CompEnd.intro F4 N4 (G (PySem.W.listOf #[.int x' t1', .int y' t2'] n')) (by rw [hG]; exact fun _ h => List.Mem.tail _ h) off (.inr ⟨_, by rw [hG]; k_mem, rfl, _, rfl⟩) ⟨rfl, strs_yes hys hE (decide_eq_true (by assumption))⟩
    · exact LCg.CompEnd.intro F4 N4 (G (PySem.W.listOf #[.int x' t1', .int y' t2'] n')) (by rw [hG]; exact fun _ h => List.Mem.tail _ h) off (.inr ⟨_, by rw [hG]; k_mem, rfl, _, rfl⟩) ⟨rfl, strs_no hys hE (fun h => absurd (of_decide_eq_true h) (by assumption))⟩
  rintro ows news ⟨rfl, hos⟩ lo h tk F2 N2 off
  simp only [hG] at N2
  replace off := neAll_off1 off
  simp only [hG, List.map] at off
  clear U hG G
  obtain ⟨one, orest, ho1, hone⟩ := PL.ones hn2 Wm Om
  rw [ho1] at hos
  obtain ⟨ot, ows, rfl⟩ := strs_cons hos
  clear ho1 hos
  (try dsimp only)
  (try k_unfold)
  (try dsimp only)
  (try k_fold)
  k_steps
  refine Stop.mk ?_
  rename Fr _ _ _ _ => F1
  rename News _ _ _ _ => N1
  refine trow_ok w mean mg mb _ _ _ _ _ _ _ _ _ _ _ _ _ _ _ _ _ _ _ _ _ _ _ _ ⟨by assumption, F1, by assumption, by assumption, rfl, by decide, by decide⟩ (by assumption) hn2 (⟨_, (N1 (lr, PySem.W.listOf lvs.toArray ln) (by k_mem)).1, rfl, _, rfl⟩) (hlat) (hlatz) ?_
  intro vs7 r7 n7 h9 tk9 hk9 hv7 hr9 hn9
  have F2 := fr_back F1 hk9
  have N2 := news_add F1 N1 hk9 hr9 hn9
  have lli := neAll_new N1 hn9
  dsimp only [List.map] at lli
  clear F1 N1 hk9 hn9 hr9
  (try dsimp only)
  (try k_unfold)
  (try dsimp only)
  (try k_fold)
  k_steps
  refine Stop.mk ?_
  rename Fr _ _ _ _ => F1
  rename News _ _ _ _ => N1
  refine trow_ok w mean mg mb _ _ _ _ _ _ _ _ _ _ _ _ _ _ _ _ _ _ _ _ _ _ _ _ ⟨by assumption, F1, by assumption, by assumption, rfl, by decide, by decide⟩ (by assumption) hn2 (⟨_, (N1 (lrow, PySem.W.listOf rowvs.toArray rowvs.length) (by k_mem)).1, rfl, _, rfl⟩) (hrow) (hrowz) ?_
  intro vs8 r8 n8 h9 tk9 hk9 hv8 hr9 hn9
  have F2 := fr_back F1 hk9
  have N2 := news_add F1 N1 hk9 hr9 hn9
  have llj := neAll_new N1 hn9
  dsimp only [List.map] at llj
  clear F1 N1 hk9 hn9 hr9
  (try dsimp only)
  (try k_unfold)
  (try dsimp only)
  (try k_fold)
  k_steps
  refine Stop.mk ?_
  rename Fr _ _ _ _ => F1
  rename News _ _ _ _ => N1
  refine ne_eqK ⟨_, (N1 (r7, PySem.W.listOf vs7.toArray n7) (by k_mem)).1, rfl, _, rfl⟩ hv7 ⟨_, (N1 (r8, PySem.W.listOf vs8.toArray n8) (by k_mem)).1, rfl, _, rfl⟩ hv8 (show 7 + 64 < cLine by decide) (hone _ hrowz) ?_
  (try dsimp only)
  (try k_unfold)
  (try dsimp only)
  (try k_fold)
  k_steps
  refine Stop.mk ?_
  rename Fr _ _ _ _ => F1
  rename News _ _ _ _ => N1
  replace N1 := news_tail (news_tail (news_tail (news_tail (news_tail (N1)))))
  clear lli llj llg hv7 hv8 hboth hone
  k_dflt (refine LCg.ListComp_U F1 (by with_unfolding_all rfl) (by decide) (by rfl) (by decide) (by rfl) ?_)
  (try k_fold)
  k_steps
  refine Stop.mk ?_
  rename Fr _ _ _ _ => F1
  rename News _ _ _ _ => N1
  rename IsRange _ _ _ _ _ _ _ _ => R1
  refine with_led (src := src) N1 (by k_updF) ?_
  clear N1
  intro G hG U N1
  refine LCg.CompSrc.range (by rfl) F1 N1 R1 (by exact small_one (by omega) (by omega) (by rcases hn2 with rfl | rfl <;> decide) (by rcases hn2 with rfl | rfl <;> decide)) (nn_size hn2) (by have := nn_le hn2; rw [sizeLine_eq]; omega) ?_
  clear F1 N1 R1
  intro g9
  refine comp_ind (n := (n * n).toNat) (fun i ys news => ∃ x y t1 t2 k ds, news = G (PySem.W.listOf #[.int x t1, .int y t2] k) ∧ 0 ≤ x ∧ 0 ≤ y ∧ y < 2147483647 ∧ IntsAre ys ds ∧ ds.length = i ∧ ∀ d ∈ ds, 1 ≤ d ∧ d ≤ 50) ?_ ?_ _ 0 [] _ (Nat.zero_add _) ⟨_, _, _, _, _, [], rfl, hx0, hy0, hy1, .nil, rfl, fun _ h => nomatch h⟩
  rotate_left
  · clear hx0 hy0 hy1
    rintro i ys news v I oI C oC D m₂ h tk E' hi9 ⟨x', y', t1, t2, k9, ds, rfl, hx0, hy0, hy1, hds, hdl, hdb⟩ hP hC hx F3 N3 off ne
    clear ne
    simp only [hG] at N3
    obtain ⟨t0, rfl⟩ := hP
    (try k_fold)
    k_steps
    refine Stop.mk ?_
    rename Fr _ _ _ _ => F1
    rename News _ _ _ _ => N1
    refine take_ok w mean mg mb _ _ _ _ _ _ _ _ _ _ _ _ _ _ _ _ _ src _ _ _ _ _ _ _ ⟨by assumption, F1, by assumption, by assumption, rfl, by decide, by decide⟩ (by assumption) (fun p hp => N1 p (by rw [List.mem_singleton.mp hp]; k_mem)) (by omega) (by omega) hy0 hy1 hx0 ?_
    clear hx0 hy0 hy1
    intro k3 x' y' t9 t1' t2' n' h9 tk9 k30 k31 hx0 hy0 hy1 hk9 he9
    obtain ⟨F2, N2⟩ := comp_put (G := G) F1 U (by rw [hG]; exact N1) off hk9 he9
    replace off := off_put (o' := PySem.W.listOf #[.int x' t1', .int y' t2'] n') U off
    clear F1 N1 hk9 he9
    simp only [hG] at N2
    (try dsimp only)
    (try k_unfold)
    (try dsimp only)
    (try k_fold)
    k_steps
    refine Stop.mk ?_
    rename Fr _ _ _ _ => F4
    rename News _ _ _ _ => N4
    exact LCg.CompEnd.intro F4 N4 (G (PySem.W.listOf #[.int x' t1', .int y' t2'] n')) (by rw [hG]; exact fun _ h => h) off trivial ⟨x', y', t1', t2', n', ds ++ [1 + k3], rfl, hx0, hy0, hy1, hds.append (.cons _ _ .nil), by rw [List.length_append, hdl]; rfl, fun d hd => (List.mem_append.mp hd).elim (hdb d) fun h => by rw [List.mem_singleton.mp h]; omega⟩
  clear hx0 hy0 hy1
  rintro toldvs news ⟨x', y', t1, t2, n', told, rfl, hx0, hy0, hy1, htold, htoldl, htoldb⟩ ltold h tk F2 N2 off
  simp only [hG] at N2
  replace off := neAll_off1 off
  simp only [hG, List.map] at off
  clear U hG G
  have htoldz := nn_len hn2 htoldl
  have htoldv : toldvs.length ≤ 16 := by rw [htold.length, htoldl]; exact nn_le hn2
  replace N2 : News _ _ _ ((ltold, PySem.W.listOf toldvs.toArray toldvs.length) :: _) := N2
  (try dsimp only)
  (try k_unfold)
  (try dsimp only)
  (try k_fold)
  k_steps
  refine Stop.mk ?_
  rename Fr _ _ _ _ => F1
  rename News _ _ _ _ => N1
  refine kde_tupleOf F1 N1 ⟨_, (N1 (ltold, PySem.W.listOf toldvs.toArray toldvs.length) (by k_mem)).1, rfl, _, rfl⟩ (by rw [List.size_toArray]; omega) rfl ?_
  clear F1 N1
  intro ltup h9 F2 N2 l2
  have otup := NeAll.tail (neAll_lt l2)
  dsimp only [List.map] at otup
  k_lt l2
  replace N2 := drop1 N2
  replace N2 : News _ _ _ ((ltup, tupOf toldvs.toArray 0) :: _) := N2
  (try dsimp only)
  (try k_unfold)
  (try dsimp only)
  (try k_fold)
  k_steps
  refine Stop.mk ?_
  rename Fr _ _ _ _ => F1
  rename News _ _ _ _ => N1
  rename IsRange _ _ _ _ _ _ _ _ => R1
  refine with_led (src := src) N1 (by k_updF) ?_
  clear N1
  intro G hG U N1
  refine LCg.CompSrc.range (by rfl) F1 N1 R1 (by exact small_one (by omega) (by omega) (by rcases hn2 with rfl | rfl <;> decide) (by rcases hn2 with rfl | rfl <;> decide)) (nn_size hn2) (by have := nn_le hn2; rw [sizeLine_eq]; omega) ?_
  clear F1 N1 R1
  intro g9
  refine comp_ind (n := (n * n).toNat) (fun i ys news => news = G (PySem.W.listOf #[.int x' t1, .int y' t2] n') ∧ IntsAre ys (PL.prod row told i)) ?_ ?_ _ 0 [] _ (Nat.zero_add _) ⟨rfl, .nil⟩
  rotate_left
  · rintro i ys news v I oI C oC D m₂ h tk E' hi9 ⟨rfl, hys⟩ hP hC hx F3 N3 off ne
    clear ne
    simp only [hG] at N3
    obtain ⟨t0, rfl⟩ := hP
    have hi1 : (0 + (i : Int)) < n * n := by omega
    have hn16 := nn_le hn2
    (try k_fold)
    k_steps
    refine Stop.mk ?_
    rename Fr _ _ _ _ => F1
    rename News _ _ _ _ => N1
    k_dflt (refine ksa_sub N1 (by k_mem) hrow (by omega) (by omega) (by omega) ?_)
    intro tA
    (try dsimp only)
    (try k_unfold)
    (try dsimp only)
    (try k_fold)
    k_steps
    refine Stop.mk ?_
    rename Fr _ _ _ _ => F1
    rename News _ _ _ _ => N1
    k_dflt (refine sub_tup N1 (by k_mem) htold (by omega) (by omega) (by omega) ?_)
    have hb1 := getD_b hrowb (by decide) (0 + (i : Int)).toNat
    have hb2 := getD_b (fun d hd => (⟨Int.le_trans (by decide) (htoldb d hd).1, (htoldb d hd).2⟩ : (0 : Int) ≤ d ∧ d ≤ 50)) (by decide) (0 + (i : Int)).toNat
    intro tB
    (try dsimp only)
    (try k_unfold)
    (try dsimp only)
    (try k_fold)
    k_steps
    refine Stop.mk ?_
    rename Fr _ _ _ _ => F4
    rename News _ _ _ _ => N4
    exact LCg.CompEnd.intro F4 N4 (G (PySem.W.listOf #[.int x' t1, .int y' t2] n')) (by rw [hG]; exact fun _ h => h) off trivial ⟨rfl, prod_step hys (by simp)⟩
  rintro provs news ⟨rfl, hpro⟩ lpro h tk F2 N2 opro
  simp only [hG] at N2
  replace opro := neAll_off1 opro
  simp only [hG, List.map] at opro
  clear U hG G
  (try dsimp only)
  (try k_unfold)
  (try dsimp only)
  (try k_fold)
  k_steps
  refine Stop.mk ?_
  rename Fr _ _ _ _ => F1
  rename News _ _ _ _ => N1
  refine div_ok w mean mg mb _ _ _ _ _ _ _ _ _ _ _ _ _ _ _ _ _ _ _ _ _ _ _ _ ⟨by assumption, F1, by assumption, by assumption, rfl, by decide, by decide⟩ (by assumption) hn2 ⟨_, (N1 (ltup, tupOf toldvs.toArray 0) (by k_mem)).1, rfl, _, rfl⟩ htold htoldz ?_
  intro dvs rd kd h9 tk9 hk9 hdiv hcase
  obtain ⟨kd, N2, od⟩ := div_led F1 N1 hk9 otup (Ne.symm (NeAll.get opro (.head _))) hcase
  have F2 := fr_back F1 hk9
  dsimp only [List.map] at od
  clear F1 N1 hk9 hcase
  have hdivz := PL.div_len hn2 W told htoldz
  have hlatb := PL.turn_bound hn2 Wm (b := 20) (by decide) hrowb
  (try dsimp only)
  (try k_unfold)
  (try dsimp only)
  (try k_fold)
  k_steps
  refine Stop.mk ?_
  rename Fr _ _ _ _ => F1
  k_dflt (refine LCg.ListComp_U F1 (by with_unfolding_all rfl) (by decide) (by rfl) (by decide) (by rfl) ?_)
  (try k_fold)
  k_steps
  refine Stop.mk ?_
  rename Fr _ _ _ _ => F1
  rename News _ _ _ _ => N1
  rename IsRange _ _ _ _ _ _ _ _ => R1
  refine with_led (src := src) N1 (by k_updF) ?_
  clear N1
  intro G hG U N1
  refine LCg.CompSrc.range (by rfl) F1 N1 R1 (by exact small_one (by omega) (by omega) (by rcases hn2 with rfl | rfl <;> decide) (by rcases hn2 with rfl | rfl <;> decide)) (nn_size hn2) (by have := nn_le hn2; rw [sizeLine_eq]; omega) ?_
  clear F1 N1 R1
  intro g9
  refine comp_ind (n := (n * n).toNat) (fun i ys news => news = G (PySem.W.listOf #[.int x' t1, .int y' t2] n') ∧ IntsAre ys (PL.prod (turn n W row) (if sw W = true then turn n (PySem.Str.ofString "swap") told else told) i)) ?_ ?_ _ 0 [] _ (Nat.zero_add _) ⟨rfl, .nil⟩
  rotate_left
  · rintro i ys news v I oI C oC D m₂ h tk E' hi9 ⟨rfl, hys⟩ hP hC hx F3 N3 off ne
    clear ne
    simp only [hG] at N3
    obtain ⟨t0, rfl⟩ := hP
    have hi1 : (0 + (i : Int)) < n * n := by omega
    have hn16 := nn_le hn2
    (try k_fold)
    k_steps
    refine Stop.mk ?_
    rename Fr _ _ _ _ => F1
    rename News _ _ _ _ => N1
    k_dflt (refine ksa_sub N1 (by k_mem) hlat (by omega) (by omega) (by omega) ?_)
    have hb1 := getD_b hlatb (by decide) (0 + (i : Int)).toNat
    intro tA
    (try dsimp only)
    (try k_unfold)
    (try dsimp only)
    (try k_fold)
    k_steps
    refine Stop.mk ?_
    rename Fr _ _ _ _ => F1
    rename News _ _ _ _ => N1
    k_dflt (refine sub_tup N1 (by k_mem) hdiv (by omega) (by omega) (by omega) ?_)
    intro tB
    (try dsimp only)
    (try k_unfold)
    (try dsimp only)
    (try k_fold)
    k_steps
    refine Stop.mk ?_
    rename Fr _ _ _ _ => F4
    rename News _ _ _ _ => N4
    exact LCg.CompEnd.intro F4 N4 (G (PySem.W.listOf #[.int x' t1, .int y' t2] n')) (by rw [hG]; exact fun _ h => h) off trivial ⟨rfl, prod_step hys (by simp)⟩
  rintro lefvs news ⟨rfl, hlef⟩ llef h tk F2 N2 olef
  simp only [hG] at N2
  replace olef := neAll_off1 olef
  simp only [hG, List.map] at olef
  clear U hG G
  (try dsimp only)
  (try k_unfold)
  (try dsimp only)
  (try k_fold)
  k_steps
  refine Stop.mk ?_
  rename Fr _ _ _ _ => F1
  rename News _ _ _ _ => N1
  refine trow_ok w mean mg mb _ _ _ _ _ _ _ _ _ _ _ _ _ _ _ _ _ _ _ _ _ _ _ _ ⟨by assumption, F1, by assumption, by assumption, rfl, by decide, by decide⟩ (by assumption) hn2 (⟨_, (N1 (lpro, LCg.lst provs) (by k_mem)).1, rfl, _, rfl⟩) (hpro) ((PL.prod_len hn2 _ _)) ?_
  intro vs9 r9 n9 h9 tk9 hk9 hv9 hr9 hn9
  have F2 := fr_back F1 hk9
  have N2 := news_add F1 N1 hk9 hr9 hn9
  have llk := neAll_new N1 hn9
  dsimp only [List.map] at llk
  clear F1 N1 hk9 hn9 hr9
  (try dsimp only)
  (try k_unfold)
  (try dsimp only)
  (try k_fold)
  k_steps
  refine Stop.mk ?_
  rename Fr _ _ _ _ => F1
  rename News _ _ _ _ => N1
  refine ne_eqK ⟨_, (N1 (llef, LCg.lst lefvs) (by k_mem)).1, rfl, _, rfl⟩ hlef ⟨_, (N1 (r9, PySem.W.listOf vs9.toArray n9) (by k_mem)).1, rfl, _, rfl⟩ hv9 (show 7 + 64 < cLine by decide) (PL.turn_prod hn2 Wm hrowz htoldz) ?_
  (try dsimp only)
  (try k_unfold)
  (try dsimp only)
  (try k_fold)
  k_steps
  refine Stop.mk ?_
  rename Fr _ _ _ _ => F1
  rename News _ _ _ _ => N1
  replace N1 := news_tail (news_tail (N1))
  clear hv9 llk hlef
  refine take_ok w mean mg mb _ _ _ _ _ _ _ _ _ _ _ _ _ _ _ _ _ src _ _ _ _ _ _ _ ⟨by assumption, F1, by assumption, by assumption, rfl, by decide, by decide⟩ (by assumption) (fun p hp => N1 p (by rw [List.mem_singleton.mp hp]; k_mem)) (by omega) (by omega) hy0 hy1 hx0 ?_
  clear hx0 hy0 hy1
  intro k5 x' y' t9 t1' t2' n' h9 tk9 k50 k51 hx0 hy0 hy1 hk9 he9
  obtain ⟨F2, N2⟩ := led_put (src := src) F1 N1 (by k_updF) hk9 he9
  clear F1 N1 hk9 he9
  (try dsimp only at N2)
  (try dsimp only)
  (try k_unfold)
  (try dsimp only)
  (try k_fold)
  k_steps
  refine Stop.mk ?_
  rename Fr _ _ _ _ => F1
  rename News _ _ _ _ => N1
  refine take_ok w mean mg mb _ _ _ _ _ _ _ _ _ _ _ _ _ _ _ _ _ src _ _ _ _ _ _ _ ⟨by assumption, F1, by assumption, by assumption, rfl, by decide, by decide⟩ (by assumption) (fun p hp => N1 p (by rw [List.mem_singleton.mp hp]; k_mem)) (by omega) (by omega) hy0 hy1 hx0 ?_
  clear hx0 hy0 hy1
  intro k6 x' y' t9 t1' t2' n' h9 tk9 k60 k61 hx0 hy0 hy1 hk9 he9
  obtain ⟨F2, N2⟩ := led_put (src := src) F1 N1 (by k_updF) hk9 he9
  clear F1 N1 hk9 he9
  (try dsimp only at N2)
  (try dsimp only)
  (try k_unfold)
  (try dsimp only)
  (try k_fold)
  k_steps
  refine Stop.mk ?_
  rename Fr _ _ _ _ => F1
  rename News _ _ _ _ => N1
  refine take_ok w mean mg mb _ _ _ _ _ _ _ _ _ _ _ _ _ _ _ _ _ src _ _ _ _ _ _ _ ⟨by assumption, F1, by assumption, by assumption, rfl, by decide, by decide⟩ (by assumption) (fun p hp => N1 p (by rw [List.mem_singleton.mp hp]; k_mem)) (by omega) (by omega) hy0 hy1 hx0 ?_
  clear hx0 hy0 hy1
  intro k7 x' y' t9 t1' t2' n' h9 tk9 k70 k71 hx0 hy0 hy1 hk9 he9
  obtain ⟨F2, N2⟩ := led_put (src := src) F1 N1 (by k_updF) hk9 he9
  clear F1 N1 hk9 he9
  (try dsimp only at N2)
  (try dsimp only)
  (try k_unfold)
  (try dsimp only)
  (try k_fold)
  k_steps
  refine Stop.mk ?_
  rename Fr _ _ _ _ => F1
  rename News _ _ _ _ => N1
  refine take_ok w mean mg mb _ _ _ _ _ _ _ _ _ _ _ _ _ _ _ _ _ src _ _ _ _ _ _ _ ⟨by assumption, F1, by assumption, by assumption, rfl, by decide, by decide⟩ (by assumption) (fun p hp => N1 p (by rw [List.mem_singleton.mp hp]; k_mem)) (by omega) (by omega) hy0 hy1 hx0 ?_
  clear hx0 hy0 hy1
  intro k8 x' y' t9 t1' t2' n' h9 tk9 k80 k81 hx0 hy0 hy1 hk9 he9
  obtain ⟨F2, N2⟩ := led_put (src := src) F1 N1 (by k_updF) hk9 he9
  clear F1 N1 hk9 he9
  (try dsimp only at N2)
  (try dsimp only)
  (try k_unfold)
  (try dsimp only)
  (try k_fold)
  k_steps
  refine Stop.mk ?_
  rename Fr _ _ _ _ => F1
  rename News _ _ _ _ => N1
  refine place_ok w mean mg mb _ _ _ _ _ _ _ _ _ _ _ _ _ _ _ _ _ _ _ _ _ _ _ _ _ _ _ ⟨by assumption, F1, by assumption, by assumption, rfl, by decide, by decide⟩ (by assumption) News.nil  ?_
  intro rp np p1 p2 v1 v2 h9 tk9 hk9 hplace hr9 hn9
  have F2 := fr_back F1 hk9
  have N2 := news_add F1 N1 hk9 hr9 hn9
  have llp := neAll_new N1 hn9
  dsimp only [List.map] at llp
  clear F1 N1 hk9 hn9 hr9
  (try dsimp only)
  (try k_unfold)
  (try dsimp only)
  (try k_fold)
  k_steps
  refine Stop.mk ?_
  rename Fr _ _ _ _ => F1
  rename News _ _ _ _ => N1
  refine led_ok w mean mg mb _ _ _ _ _ _ _ _ _ _ _ _ _ _ _ _ _ _ _ _ _ _ _ _ _ _ _ ⟨by assumption, F1, by assumption, by assumption, rfl, by decide, by decide⟩ (by assumption) News.nil  ?_
  intro rl nl q1 q2 z1 z2 h9 tk9 hk9 hled hr9 hn9
  have F2 := fr_back F1 hk9
  have N2 := news_add F1 N1 hk9 hr9 hn9
  have llq := neAll_new N1 hn9
  dsimp only [List.map] at llq
  clear F1 N1 hk9 hn9 hr9
  (try dsimp only)
  (try k_unfold)
  (try dsimp only)
  (try k_fold)
  k_steps
  refine Stop.mk ?_
  rename Fr _ _ _ _ => F1
  rename News _ _ _ _ => N1
  rw [PL.place_led Wm] at hplace
  obtain ⟨rfl, rfl⟩ := Prod.mk.inj (hplace.trans hled.symm)
  refine eq_pairK (N1 (rp, tupOf #[.int v1 p1, .int v2 p2] np) (by k_mem)).1 (N1 (rl, tupOf #[.int v1 q1, .int v2 q2] nl) (by k_mem)).1 (show 7 + 64 < cLine by decide) ?_
  (try dsimp only)
  (try k_unfold)
  (try dsimp only)
  (try k_fold)
  k_steps
  rename Fr _ _ _ _ => F1
  exact ret _ _ _ _ F1
end Mine
set_option maxRecDepth 100000 in
set_option maxHeartbeats 8000000 in
theorem PySem.Challenge.cw_nt0539_01_holds : PySem.Challenge.rw_nt0539_01.Holds := by
  w_on
  o_law
  refine holds_open (q := Mine.VW) (loose := Mine.loose1) (Xt := Mine.Xt) (XP := XL Mine.VW Mine.looseV) (Yf := Mine.HK.obs) (Ya := Mine.HK.val) (YP := Mine.HK.says) (N := 18578) Mine.left (Hook.of Mine.HK) (Hook.keeps Mine.HK) (fun s e => xl_of s (Bool.and_eq_true_iff.mp e).1) XL.keeps (by rfl) (by rfl) (by rfl) (fun s e => recFacts_of (Bool.and_eq_true_iff.mp e).2) (by rfl) (by first | assumption | decide +kernel) (by decide +kernel) ⟨rfl, rfl, rfl, rfl, rfl, by decide +kernel⟩ ?hw ?hc
  case hw => w_witness2
  case hc =>
    intro w s₀ s₁ mg mb G Y fa o pm cd doc dV kV ho hd hcd hD hmg hg args vals as hpre hlay hrd hwl hlo
    have KX : (Mine.KF w.params).In s₁.heap := kIn_of Y
    refine Ground.open G ?_
    intro T B D TE TW
    have hf := mg_of (n := PySem.Str.ofString "law") (v := .ref 329) KX T.g (by kernel_rfl)
    have hfa : fa = 329 := by
      have := hmg.symm.trans hf
      exact Value.ref.inj (Option.some.inj this)
    subst hfa
    clear hD hcd ho hd B D TE TW G Y hmg hf
    wrow_args hpre hlay hrd hwl hlo
    refine Mine.law_ok w _ _ _ s₁ _ _ _ _ _ KX T (by assumption) (by assumption) (by omega) ?_
    intro L m h' tk' F'
    refine GoodW.toG ?_
    refine goodW_bool (s' := { s₁ with heap := h', toks := tk' }) F' (by assumption) (raisesW_false ?_) ?_
    · wrow_none_raised
    · wrow_post
